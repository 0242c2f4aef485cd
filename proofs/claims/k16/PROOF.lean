import PyProof.Rows.All
import Wide.All
import OpenK.AllK
import Wide.FinOn
import HandS.ForMost
import HandS.Evl
import HandS.EndBits
import HandS.Wide
import HandS.IsInst
import HandS.Flow
import HandS.Walk
import HandS.WideBits
import HandS.Style
import HandS.StrMore
import HandS.ExcInit
import HandS.WordsExc
import HandS.ClsMeth
import HandS.ExcField
import HandS.ExcIs
import HandS.ExcOwn
import KE.KExcIs
import KE.RegKIsAll
import HandS.TryMany
import HandS.TryOnly
import HandS.Dict
import HandS.Small
import HandS.More
import HandS.SortInts
import HandS.SortRule
import HandS.Conv
import HandS.DictTup
import KE.KDictSum
import KE.KDictCopyH
import PyProof.DictUpdate
import HandS.SortKw
import KE.KMinKey
import KE.LtData
import PyProof.ListStr
import KE.KDictPairs
import KE.KDictKeyed
import HandS.FStr
import KE.SortData
import PyProof.P3In
import HandS.Replace
import PySem.Challenge.RW_farmarks_k16_texts_refused
set_option Elab.async false
set_option linter.all false
set_option maxRecDepth 100000
set_option maxHeartbeats 4000000
/-! DL: values as data, slots that own, and the words WE, WT, WS over the readings. -/
namespace DL
open PySem PySem.Spec PyProof.Rows L2
open Evl (Ex)
abbrev St := L2.St

inductive D where
  | non | bl (b : Bool) | int (i : Int) | str (x : Str) | ty (n : String) | ptr (a : Addr)
  | lst (xs : List D) | ro (xs : List D) | tup (xs : List D) | dct (kvs : List (Key × D)) | dcT (kvs : List (List Key × D)) | obj (C : Addr) (fs : List (Str × D))

section
variable (K : PySem.W.Frag) (G : Hp)
mutual
def Rep : D → V → Prop
  | .non, v => v = .non
  | .bl b, v => v = .bl b
  | .int i, v => v = .int i
  | .str x, v => v = .str x
  | .ty n, v => v = .ty n
  | .ptr a, v => v = .ref a
  | .lst ds, v => ∃ a xs, v = .ref a ∧ G a = some (.lst xs) ∧ Reps ds xs
  | .ro ds, v => ∃ a xs, v = .ref a ∧ SqL K G a xs ∧ Reps ds xs
  | .tup ds, v => ∃ a xs, v = .ref a ∧ G a = some (.tup xs) ∧ Reps ds xs
  | .dct kds, v => ∃ a kvs, v = .ref a ∧ Rd G a (.dK kvs) ∧ RepK kds kvs
  | .dcT kds, v => ∃ a kvs, v = .ref a ∧ Rd G a (.dT kvs) ∧ RepT kds kvs
  | .obj C fs, v => ∃ a dx fvs, v = .ref a ∧ G a = some (.ins C dx fvs) ∧ RepF fs fvs
def Reps : List D → List V → Prop
  | [], vs => vs = []
  | d :: ds, vs => ∃ v vr, vs = v :: vr ∧ Rep d v ∧ Reps ds vr
def RepK : List (Key × D) → List (Key × V) → Prop
  | [], vs => vs = []
  | (k, d) :: ds, vs => ∃ v vr, vs = (k, v) :: vr ∧ Rep d v ∧ RepK ds vr
def RepT : List (List Key × D) → List (List Key × V) → Prop
  | [], vs => vs = []
  | (k, d) :: ds, vs => ∃ v vr, vs = (k, v) :: vr ∧ Rep d v ∧ RepT ds vr
def RepF : List (Str × D) → List (Str × V) → Prop
  | [], vs => vs = []
  | (k, d) :: ds, vs => ∃ v vr, vs = (k, v) :: vr ∧ Rep d v ∧ RepF ds vr
end
end
section
variable {K : PySem.W.Frag} {G G' : Hp}
mutual
theorem Rep.mono (e : Ex G G') : ∀ {d : D} {v : V}, Rep K G d v → Rep K G' d v
  | .non, _, h => h
  | .bl _, _, h => h
  | .int _, _, h => h
  | .str _, _, h => h
  | .ty _, _, h => h
  | .ptr _, _, h => h
  | .lst ds, v, h => by
    unfold Rep at h ⊢
    obtain ⟨a, xs, e1, h1, h2⟩ := h
    exact ⟨a, xs, e1, e _ _ h1, Reps.mono e h2⟩
  | .ro ds, v, h => by
    unfold Rep at h ⊢
    obtain ⟨a, xs, e1, h1, h2⟩ := h
    exact ⟨a, xs, e1, Evl.ex_l e h1, Reps.mono e h2⟩
  | .tup ds, v, h => by
    unfold Rep at h ⊢
    obtain ⟨a, xs, e1, h1, h2⟩ := h
    exact ⟨a, xs, e1, e _ _ h1, Reps.mono e h2⟩
  | .dct ds, v, h => by
    unfold Rep at h ⊢
    obtain ⟨a, xs, e1, h1, h2⟩ := h
    exact ⟨a, xs, e1, Evl.ex_rd e h1, RepK.mono e h2⟩
  | .dcT ds, v, h => by
    unfold Rep at h ⊢
    obtain ⟨a, xs, e1, h1, h2⟩ := h
    exact ⟨a, xs, e1, Evl.ex_rd e h1, RepT.mono e h2⟩
  | .obj C fs, v, h => by
    unfold Rep at h ⊢
    obtain ⟨a, dx, xs, e1, h1, h2⟩ := h
    exact ⟨a, dx, xs, e1, e _ _ h1, RepF.mono e h2⟩
theorem Reps.mono (e : Ex G G') : ∀ {ds : List D} {vs : List V}, Reps K G ds vs → Reps K G' ds vs
  | [], _, h => h
  | d :: ds, vs, h => by
    unfold Reps at h ⊢
    obtain ⟨v, vr, e1, h1, h2⟩ := h
    exact ⟨v, vr, e1, Rep.mono e h1, Reps.mono e h2⟩
theorem RepK.mono (e : Ex G G') : ∀ {ds : List (Key × D)} {vs : List (Key × V)}, RepK K G ds vs → RepK K G' ds vs
  | [], _, h => h
  | (k, d) :: ds, vs, h => by
    unfold RepK at h ⊢
    obtain ⟨v, vr, e1, h1, h2⟩ := h
    exact ⟨v, vr, e1, Rep.mono e h1, RepK.mono e h2⟩
theorem RepT.mono (e : Ex G G') : ∀ {ds : List (List Key × D)} {vs : List (List Key × V)}, RepT K G ds vs → RepT K G' ds vs
  | [], _, h => h
  | (k, d) :: ds, vs, h => by
    unfold RepT at h ⊢
    obtain ⟨v, vr, e1, h1, h2⟩ := h
    exact ⟨v, vr, e1, Rep.mono e h1, RepT.mono e h2⟩
theorem RepF.mono (e : Ex G G') : ∀ {ds : List (Str × D)} {vs : List (Str × V)}, RepF K G ds vs → RepF K G' ds vs
  | [], _, h => h
  | (k, d) :: ds, vs, h => by
    unfold RepF at h ⊢
    obtain ⟨v, vr, e1, h1, h2⟩ := h
    exact ⟨v, vr, e1, Rep.mono e h1, RepF.mono e h2⟩
end
theorem reps_length : ∀ {ds : List D} {vs : List V}, Reps K G ds vs → vs.length = ds.length
  | [], vs, h => by unfold Reps at h; subst h; rfl
  | d :: ds, vs, h => by
    unfold Reps at h
    obtain ⟨v, vr, e1, _, h2⟩ := h
    subst e1
    simp [reps_length h2]
theorem reps_get : ∀ {ds : List D} {vs : List V} {i : Nat} {x : D}, Reps K G ds vs → ds[i]? = some x → ∃ v, vs[i]? = some v ∧ Rep K G x v
  | [], vs, i, x, h, e => by simp at e
  | d :: ds, vs, 0, x, h, e => by
    unfold Reps at h
    obtain ⟨v, vr, e1, h1, _⟩ := h
    subst e1
    have e2 : d = x := by simpa using e
    subst e2
    exact ⟨v, rfl, h1⟩
  | d :: ds, vs, i + 1, x, h, e => by
    unfold Reps at h
    obtain ⟨v, vr, e1, _, h2⟩ := h
    subst e1
    obtain ⟨w, h3, h4⟩ := reps_get (i := i) h2 (by simpa using e)
    exact ⟨w, by simpa using h3, h4⟩
theorem reps_getV {ds : List D} {vs : List V} {i : Nat} {v : V} (h : Reps K G ds vs) (e : vs[i]? = some v) : ∃ x, ds[i]? = some x ∧ Rep K G x v := by
  have hl := reps_length h
  have hi : i < vs.length := (List.getElem?_eq_some_iff.mp e).1
  have hd : ds[i]? = some (ds[i]'(by omega)) := List.getElem?_eq_getElem (by omega)
  obtain ⟨w, h1, h2⟩ := reps_get h hd
  rw [e] at h1
  cases h1
  exact ⟨_, hd, h2⟩
theorem reps_append : ∀ {ds es : List D} {vs ws : List V}, Reps K G ds vs → Reps K G es ws → Reps K G (ds ++ es) (vs ++ ws)
  | [], es, vs, ws, h, h' => by unfold Reps at h; subst h; exact h'
  | d :: ds, es, vs, ws, h, h' => by
    unfold Reps at h
    obtain ⟨v, vr, e1, h1, h2⟩ := h
    subst e1
    show Reps K G (d :: (ds ++ es)) (v :: (vr ++ ws))
    unfold Reps
    exact ⟨v, _, rfl, h1, reps_append h2 h'⟩
theorem reps_take : ∀ {ds : List D} {vs : List V} (n : Nat), Reps K G ds vs → Reps K G (ds.take n) (vs.take n)
  | ds, vs, 0, h => by
    show Reps K G [] _
    unfold Reps
    simp
  | [], vs, n + 1, h => by unfold Reps at h; subst h; show Reps K G [] []; unfold Reps; rfl
  | d :: ds, vs, n + 1, h => by
    unfold Reps at h
    obtain ⟨v, vr, e1, h1, h2⟩ := h
    subst e1
    show Reps K G (d :: ds.take n) (v :: vr.take n)
    unfold Reps
    exact ⟨v, _, rfl, h1, reps_take n h2⟩
theorem reps_drop : ∀ {ds : List D} {vs : List V} (n : Nat), Reps K G ds vs → Reps K G (ds.drop n) (vs.drop n)
  | ds, vs, 0, h => h
  | [], vs, n + 1, h => by unfold Reps at h; subst h; show Reps K G [] []; unfold Reps; rfl
  | d :: ds, vs, n + 1, h => by
    unfold Reps at h
    obtain ⟨v, vr, e1, h1, h2⟩ := h
    subst e1
    exact reps_drop n h2
theorem reps_set : ∀ {ds : List D} {vs : List V} {x : D} {v : V} (i : Nat), Reps K G ds vs → Rep K G x v → Reps K G (ds.set i x) (vs.set i v)
  | [], vs, x, v, i, h, _ => by unfold Reps at h; subst h; show Reps K G [] []; unfold Reps; rfl
  | d :: ds, vs, x, v, 0, h, hx => by
    unfold Reps at h
    obtain ⟨w, vr, e1, h1, h2⟩ := h
    subst e1
    show Reps K G (x :: ds) (v :: vr)
    unfold Reps
    exact ⟨v, _, rfl, hx, h2⟩
  | d :: ds, vs, x, v, i + 1, h, hx => by
    unfold Reps at h
    obtain ⟨w, vr, e1, h1, h2⟩ := h
    subst e1
    show Reps K G (d :: ds.set i x) (w :: vr.set i v)
    unfold Reps
    exact ⟨w, _, rfl, h1, reps_set i h2 hx⟩
theorem reps_one {x : D} {v : V} (h : Rep K G x v) : Reps K G [x] [v] := by
  unfold Reps
  exact ⟨v, [], rfl, h, by unfold Reps; rfl⟩
theorem reps_nil : Reps K G [] [] := by unfold Reps; rfl
theorem reps_cons {x : D} {v : V} {ds : List D} {vs : List V} (h : Rep K G x v) (h' : Reps K G ds vs) : Reps K G (x :: ds) (v :: vs) := by
  unfold Reps
  exact ⟨v, vs, rfl, h, h'⟩
theorem reps_rev : ∀ {ds : List D} {vs : List V}, Reps K G ds vs → Reps K G ds.reverse vs.reverse
  | [], vs, h => by unfold Reps at h; subst h; exact reps_nil
  | d :: ds, vs, h => by
    unfold Reps at h
    obtain ⟨w, vr, e1, h1, h2⟩ := h
    subst e1
    rw [List.reverse_cons, List.reverse_cons]
    exact reps_append (reps_rev h2) (reps_one h1)
end

/-! ### slots -/
/-- deep: an own object, and own objects gs that are reached through its content -/
inductive Sl where
  | no | d (x : D) | own (a : Addr) (x : D) | deep (a : Addr) (x : D) (gs : List (Addr × D))
/-- what an expression hands on: data, a new object of one's own, a slot's own object -/
inductive R where
  | d (x : D) | own (a : Addr) (x : D) | deep (a : Addr) (x : D) (gs : List (Addr × D)) | bor (i : Nat) (a : Addr)
def owned : List Sl → List Addr
  | [] => []
  | .own a _ :: r => a :: owned r
  | .deep a _ gs :: r => a :: (gs.map Prod.fst ++ owned r)
  | _ :: r => owned r
/-- a slot's own addresses -/
def ads : Sl → List Addr
  | .own a _ => [a]
  | .deep a _ gs => a :: gs.map Prod.fst
  | _ => []
theorem owned_cons (s : Sl) (δ : List Sl) : owned (s :: δ) = ads s ++ owned δ := by cases s <;> rfl
def OwnR (K : PySem.W.Frag) (G H : Hp) (a : Addr) : D → Prop
  | .lst ds => ∃ xs, H a = some (.lst xs) ∧ Reps K G ds xs
  | .dct ds => ∃ xs, H a = some (.dK xs) ∧ RepK K G ds xs
  | .dcT ds => ∃ xs, H a = some (.dT xs) ∧ RepT K G ds xs
  | .obj C fs => ∃ dx xs, H a = some (.ins C dx xs) ∧ RepF K G fs xs
  | _ => False
def OwnG (K : PySem.W.Frag) (G H : Hp) (gs : List (Addr × D)) : Prop := ∀ q ∈ gs, OwnR K G H q.1 q.2
def SlR (K : PySem.W.Frag) (G H : Hp) : Sl → Option V → Prop
  | .no, _ => True
  | .d x, ov => ∃ v, ov = some v ∧ Rep K G x v
  | .own a x, ov => ov = some (.ref a) ∧ OwnR K G H a x
  | .deep a x gs, ov => ov = some (.ref a) ∧ OwnR K G H a x ∧ OwnG K G H gs
def SlsR (K : PySem.W.Frag) (G H : Hp) : List Sl → St → Prop
  | [], σ => σ = []
  | s :: δ, σ => ∃ ov σr, σ = ov :: σr ∧ SlR K G H s ov ∧ SlsR K G H δ σr
/-- one of them knows nothing of the address, or a tuple stands there: it never changes -/
abbrev AptV (x y : Option HO) : Prop := x = none ∨ y = none ∨ ∃ xs, y = some (.tup xs)
structure Frame (K : PySem.W.Frag) (B G H : Hp) (σ : St) (δ : List Sl) : Prop where
  exB : Ex B H
  exG : Ex G H
  dis : ∀ b, AptV (B b) (G b)
  sl : SlsR K G H δ σ
  own : ∀ a ∈ owned δ, B a = none ∧ G a = none
  nd : (owned δ).Nodup
/-- the data that stands behind a thing -/
def view (δ : List Sl) : R → Option D
  | .d x => some x
  | .own _ x => some x
  | .deep _ _ _ => none
  | .bor i a => match δ[i]? with
    | some (.own b x) => if a = b then some x else none
    | some (.deep b x gs) => if a = b then some x else gs.lookup a
    | _ => none
def RV (K : PySem.W.Frag) (B G H : Hp) (δ : List Sl) : R → V → Prop
  | .d x, v => Rep K G x v
  | .own a x, v => v = .ref a ∧ OwnR K G H a x ∧ B a = none ∧ G a = none ∧ a ∉ owned δ
  | .deep a x gs, v => v = .ref a ∧ OwnR K G H a x ∧ OwnG K G H gs ∧ (∀ b ∈ a :: gs.map Prod.fst, B b = none ∧ G b = none ∧ b ∉ owned δ) ∧ (a :: gs.map Prod.fst).Nodup
  | .bor i a, v => v = .ref a ∧ ∃ x, view δ (.bor i a) = some x

section
variable {K : PySem.W.Frag} {B G G' H H' : Hp} {σ : St} {δ : List Sl}
theorem OwnR.mono {a : Addr} {x : D} (eG : Ex G G') (h : OwnR K G H a x) (hH : H' a = H a) : OwnR K G' H' a x := by
  cases x with
  | lst ds => obtain ⟨xs, h1, h2⟩ := h; exact ⟨xs, hH.trans h1, h2.mono eG⟩
  | dct ds => obtain ⟨xs, h1, h2⟩ := h; exact ⟨xs, hH.trans h1, h2.mono eG⟩
  | dcT ds => obtain ⟨xs, h1, h2⟩ := h; exact ⟨xs, hH.trans h1, h2.mono eG⟩
  | obj C ds => obtain ⟨dx, xs, h1, h2⟩ := h; exact ⟨dx, xs, hH.trans h1, h2.mono eG⟩
  | _ => exact h.elim
theorem OwnR.there {a : Addr} {x : D} (h : OwnR K G H a x) : ∃ o, H a = some o := by
  cases x with
  | lst ds => obtain ⟨xs, h1, h2⟩ := h; exact ⟨_, h1⟩
  | dct ds => obtain ⟨xs, h1, h2⟩ := h; exact ⟨_, h1⟩
  | dcT ds => obtain ⟨xs, h1, h2⟩ := h; exact ⟨_, h1⟩
  | obj C ds => obtain ⟨dx, xs, h1, h2⟩ := h; exact ⟨_, h1⟩
  | _ => exact h.elim
theorem OwnR.ex {a : Addr} {x : D} (eG : Ex G G') (eH : Ex H H') (h : OwnR K G H a x) : OwnR K G' H' a x := by
  obtain ⟨o, ho⟩ := h.there
  exact h.mono eG ((eH _ _ ho).trans ho.symm)
theorem OwnG.mono {gs : List (Addr × D)} (eG : Ex G G') (h : OwnG K G H gs) (hH : ∀ b ∈ gs.map Prod.fst, H' b = H b) : OwnG K G' H' gs :=
  fun q hq => (h q hq).mono eG (hH _ (List.mem_map_of_mem hq))
theorem OwnG.there {gs : List (Addr × D)} {b : Addr} (h : OwnG K G H gs) (hb : b ∈ gs.map Prod.fst) : ∃ o, H b = some o := by
  obtain ⟨q, hq, e⟩ := List.mem_map.mp hb
  subst e
  exact (h q hq).there
theorem OwnG.ex {gs : List (Addr × D)} (eG : Ex G G') (eH : Ex H H') (h : OwnG K G H gs) : OwnG K G' H' gs := fun q hq => (h q hq).ex eG eH
theorem OwnG.get {gs : List (Addr × D)} {b : Addr} {y : D} (h : OwnG K G H gs) (e : gs.lookup b = some y) : OwnR K G H b y := by
  induction gs with
  | nil => simp at e
  | cons q gs ih =>
    obtain ⟨c, z⟩ := q
    rw [List.lookup_cons] at e
    by_cases hc : b = c
    · subst hc
      simp at e
      subst e
      exact h _ List.mem_cons_self
    · have hc' : (b == c) = false := by simp [hc]
      rw [hc'] at e
      exact ih (fun q hq => h q (List.mem_cons_of_mem _ hq)) e
theorem SlR.ex {s : Sl} {ov : Option V} (eG : Ex G G') (eH : ∀ a ∈ ads s, H' a = H a) (h : SlR K G H s ov) : SlR K G' H' s ov := by
  cases s with
  | no => trivial
  | d x => obtain ⟨v, e, r⟩ := h; exact ⟨v, e, r.mono eG⟩
  | own a x => obtain ⟨e, r⟩ := h; exact ⟨e, r.mono eG (eH a (List.mem_singleton.mpr rfl))⟩
  | deep a x gs => obtain ⟨e, r, g⟩ := h; exact ⟨e, r.mono eG (eH a List.mem_cons_self), g.mono eG fun b hb => eH b (List.mem_cons_of_mem _ hb)⟩
theorem SlR.there {s : Sl} {ov : Option V} {a : Addr} (h : SlR K G H s ov) (ha : a ∈ ads s) : ∃ o, H a = some o := by
  cases s with
  | no => cases ha
  | d x => cases ha
  | own b x => cases List.mem_singleton.mp ha; exact h.2.there
  | deep b x gs =>
    rcases List.mem_cons.mp ha with q | q
    · subst q; exact h.2.1.there
    · exact h.2.2.there q
theorem SlsR.ex : ∀ {δ : List Sl} {σ : St}, Ex G G' → (∀ a ∈ owned δ, H' a = H a) → SlsR K G H δ σ → SlsR K G' H' δ σ
  | [], σ, _, _, h => h
  | s :: δ, σ, eG, eH, h => by
    obtain ⟨ov, σr, e, h1, h2⟩ := h
    rw [owned_cons] at eH
    exact ⟨ov, σr, e, h1.ex eG fun a ha => eH a (List.mem_append_left _ ha), SlsR.ex eG (fun a ha => eH a (List.mem_append_right _ ha)) h2⟩
theorem SlsR.len : ∀ {δ : List Sl} {σ : St}, SlsR K G H δ σ → σ.length = δ.length
  | [], σ, h => by
    have e : σ = [] := h
    subst e
    rfl
  | s :: δ, σ, h => by
    obtain ⟨ov, σr, e, h1, h2⟩ := h
    subst e
    simp [SlsR.len h2]
theorem SlsR.get : ∀ {δ : List Sl} {σ : St} {i : Nat} {s : Sl}, SlsR K G H δ σ → δ[i]? = some s → ∃ ov, σ[i]? = some ov ∧ SlR K G H s ov
  | [], σ, i, s, h, e => by simp at e
  | t :: δ, σ, 0, s, h, e => by
    obtain ⟨ov, σr, e1, h1, h2⟩ := h
    subst e1
    have e2 : t = s := by simpa using e
    subst e2
    exact ⟨ov, rfl, h1⟩
  | t :: δ, σ, i + 1, s, h, e => by
    obtain ⟨ov, σr, e1, h1, h2⟩ := h
    subst e1
    obtain ⟨w, h3, h4⟩ := SlsR.get (i := i) h2 (by simpa using e)
    exact ⟨w, by simpa using h3, h4⟩
theorem SlsR.set : ∀ {δ : List Sl} {σ : St} {s : Sl} {ov : Option V} (i : Nat), SlsR K G H δ σ → SlR K G H s ov → SlsR K G H (δ.set i s) (σ.set i ov)
  | [], σ, s, ov, i, h, _ => by
    have e : σ = [] := h
    subst e
    exact (rfl : ([] : St) = [])
  | t :: δ, σ, s, ov, 0, h, hs => by
    obtain ⟨w, σr, e1, h1, h2⟩ := h
    subst e1
    exact ⟨ov, σr, rfl, hs, h2⟩
  | t :: δ, σ, s, ov, i + 1, h, hs => by
    obtain ⟨w, σr, e1, h1, h2⟩ := h
    subst e1
    exact ⟨w, _, rfl, h1, SlsR.set i h2 hs⟩
/-- a slot's word alone is changed -/
theorem SlsR.setS : ∀ {δ : List Sl} {σ : St} {s : Sl} {ov : Option V} (i : Nat), SlsR K G H δ σ → (∀ ov, σ[i]? = some ov → SlR K G H s ov) → SlsR K G H (δ.set i s) σ
  | [], σ, s, ov, i, h, _ => h
  | t :: δ, σ, s, ov, 0, h, hs => by
    obtain ⟨w, σr, e1, h1, h2⟩ := h
    subst e1
    exact ⟨w, σr, rfl, hs w rfl, h2⟩
  | t :: δ, σ, s, ov, i + 1, h, hs => by
    obtain ⟨w, σr, e1, h1, h2⟩ := h
    subst e1
    exact ⟨w, _, rfl, h1, SlsR.setS (ov := ov) i h2 fun ov e => hs ov (by simpa using e)⟩
theorem owned_getA : ∀ {δ : List Sl} {i : Nat} {s : Sl} {a : Addr}, δ[i]? = some s → a ∈ ads s → a ∈ owned δ
  | [], i, s, a, e, _ => by simp at e
  | t :: δ, 0, s, a, e, h => by
    have e2 : t = s := by simpa using e
    subst e2
    rw [owned_cons]
    exact List.mem_append_left _ h
  | t :: δ, i + 1, s, a, e, h => by
    rw [owned_cons]
    exact List.mem_append_right _ (owned_getA (δ := δ) (i := i) (by simpa using e) h)
theorem owned_get {δ : List Sl} {i : Nat} {a : Addr} {x : D} (e : δ[i]? = some (.own a x)) : a ∈ owned δ := owned_getA e (List.mem_singleton.mpr rfl)
theorem owned_set_no : ∀ {δ : List Sl} {i : Nat} {s : Sl}, ads s = [] → (owned (δ.set i s)).Sublist (owned δ)
  | [], i, s, _ => List.Sublist.refl _
  | t :: δ, 0, s, h => by
    show (owned (s :: δ)).Sublist _
    rw [owned_cons, owned_cons, h, List.nil_append]
    exact List.sublist_append_right _ _
  | t :: δ, i + 1, s, h => by
    show (owned (t :: δ.set i s)).Sublist _
    rw [owned_cons, owned_cons]
    exact (List.Sublist.refl _).append (owned_set_no (δ := δ) (i := i) h)
theorem owned_set_in : ∀ {δ : List Sl} {i : Nat} {s : Sl} {b : Addr}, b ∈ owned (δ.set i s) → b ∈ ads s ∨ b ∈ owned δ
  | [], i, s, b, h => .inr h
  | t :: δ, 0, s, b, h => by
    have h' : b ∈ owned (s :: δ) := h
    rw [owned_cons] at h' ⊢
    rcases List.mem_append.mp h' with e | e
    · exact .inl e
    · exact .inr (List.mem_append_right _ e)
  | t :: δ, i + 1, s, b, h => by
    have h' : b ∈ owned (t :: δ.set i s) := h
    rw [owned_cons] at h' ⊢
    rcases List.mem_append.mp h' with e | e
    · exact .inr (List.mem_append_left _ e)
    · rcases owned_set_in (δ := δ) (i := i) e with e | e
      · exact .inl e
      · exact .inr (List.mem_append_right _ e)
theorem owned_set_own {δ : List Sl} {i : Nat} {a b : Addr} {x : D} (h : b ∈ owned (δ.set i (.own a x))) : b = a ∨ b ∈ owned δ :=
  (owned_set_in h).imp List.mem_singleton.mp id
theorem nodup_set : ∀ {δ : List Sl} {i : Nat} {s : Sl}, (owned δ).Nodup → (ads s).Nodup → (∀ b ∈ ads s, b ∉ owned δ) → (owned (δ.set i s)).Nodup
  | [], i, s, h, _, _ => h
  | t :: δ, 0, s, h, hs, hn => by
    show (owned (s :: δ)).Nodup
    rw [owned_cons] at h ⊢
    rw [owned_cons] at hn
    exact List.nodup_append.mpr ⟨hs, (List.nodup_append.mp h).2.1, fun a ha b hb e => hn a ha (by rw [e]; exact List.mem_append_right _ hb)⟩
  | t :: δ, i + 1, s, h, hs, hn => by
    show (owned (t :: δ.set i s)).Nodup
    rw [owned_cons] at h ⊢
    rw [owned_cons] at hn
    have h' := List.nodup_append.mp h
    refine List.nodup_append.mpr ⟨h'.1, nodup_set (δ := δ) (i := i) h'.2.1 hs fun b hb z => hn b hb (List.mem_append_right _ z), fun a ha b hb e => ?_⟩
    rcases owned_set_in hb with q | q
    · exact hn b q (by rw [← e]; exact List.mem_append_left _ ha)
    · exact h'.2.2 a ha b q e
theorem nodup_set_own {δ : List Sl} {i : Nat} {a : Addr} {x : D} (h : (owned δ).Nodup) (hn : a ∉ owned δ) : (owned (δ.set i (.own a x))).Nodup :=
  nodup_set h (show [a].Nodup by simp) fun b hb => by rw [List.mem_singleton.mp hb]; exact hn
/-- the owned of a list where an owned object's content alone is told otherwise -/
theorem owned_set_sameA : ∀ {δ : List Sl} {i : Nat} {s t : Sl}, δ[i]? = some s → ads t = ads s → owned (δ.set i t) = owned δ
  | [], i, s, t, h, _ => by simp at h
  | u :: δ, 0, s, t, h, e => by
    have e2 : u = s := by simpa using h
    subst e2
    show owned (t :: δ) = _
    rw [owned_cons, owned_cons, e]
  | u :: δ, i + 1, s, t, h, e => by
    show owned (u :: δ.set i t) = _
    rw [owned_cons, owned_cons, owned_set_sameA (δ := δ) (i := i) (by simpa using h) e]
theorem owned_set_same {δ : List Sl} {i : Nat} {a : Addr} {x y : D} (h : δ[i]? = some (.own a x)) : owned (δ.set i (.own a y)) = owned δ := owned_set_sameA h rfl
theorem owned_append : ∀ {δ ε : List Sl}, owned (δ ++ ε) = owned δ ++ owned ε
  | [], ε => rfl
  | s :: δ, ε => by
    show owned (s :: (δ ++ ε)) = _
    rw [owned_cons, owned_cons, owned_append (δ := δ) (ε := ε), List.append_assoc]
theorem owned_no (n : Nat) : owned (List.replicate n .no) = [] := by
  induction n with
  | zero => rfl
  | succ n ih => exact ih
theorem SlsR.append : ∀ {δ ε : List Sl} {σ τ : St}, SlsR K G H δ σ → SlsR K G H ε τ → SlsR K G H (δ ++ ε) (σ ++ τ)
  | [], ε, σ, τ, h, h' => by
    have e : σ = [] := h
    subst e
    exact h'
  | s :: δ, ε, σ, τ, h, h' => by
    obtain ⟨ov, σr, e, h1, h2⟩ := h
    subst e
    exact ⟨ov, _, rfl, h1, SlsR.append h2 h'⟩
theorem SlsR.nos : ∀ (σ : St), SlsR K G H (List.replicate σ.length .no) σ
  | [] => rfl
  | ov :: σ => ⟨ov, σ, rfl, trivial, SlsR.nos σ⟩
/-! Frame's turns -/
theorem Frame.there (F : Frame K B G H σ δ) {a : Addr} (ha : a ∈ owned δ) : ∃ o, H a = some o := by
  have there : ∀ {δ : List Sl} {σ : St}, SlsR K G H δ σ → a ∈ owned δ → ∃ o, H a = some o := by
    intro δ
    induction δ with
    | nil => intro σ _ z; cases z
    | cons s δ ih =>
      intro σ h z
      obtain ⟨ov, σr, e, h1, h2⟩ := h
      rw [owned_cons] at z
      rcases List.mem_append.mp z with q | q
      · exact h1.there q
      · exact ih h2 q
  exact there F.sl ha
theorem Frame.ex (F : Frame K B G H σ δ) (e : Ex H H') : Frame K B G H' σ δ := by
  refine ⟨F.exB.trans e, F.exG.trans e, F.dis, F.sl.ex (Ex.refl G) (fun a ha => ?_), F.own, F.nd⟩
  obtain ⟨o, ho⟩ := F.there ha
  exact (e _ _ ho).trans ho.symm
theorem Frame.disN (F : Frame K B G H σ δ) {b : Addr} {o : HO} (h : B b = some o) (n : ∀ xs, o ≠ .tup xs) : G b = none := by
  rcases F.dis b with q | q | ⟨xs, q⟩
  · rw [h] at q; cases q
  · exact q
  · have h1 := F.exB b o h
    have h2 := F.exG b _ q
    rw [h1] at h2
    cases h2
    exact absurd rfl (n xs)
theorem OwnR.obj {a : Addr} {x : D} (h : OwnR K G H a x) : ∃ o, H a = some o ∧ ∀ xs, o ≠ .tup xs := by
  cases x with
  | lst ds => obtain ⟨xs, h1, h2⟩ := h; exact ⟨_, h1, fun _ z => nomatch z⟩
  | dct ds => obtain ⟨xs, h1, h2⟩ := h; exact ⟨_, h1, fun _ z => nomatch z⟩
  | dcT ds => obtain ⟨xs, h1, h2⟩ := h; exact ⟨_, h1, fun _ z => nomatch z⟩
  | obj C ds => obtain ⟨dx, xs, h1, h2⟩ := h; exact ⟨_, h1, fun _ z => nomatch z⟩
  | _ => exact h.elim
theorem SlR.obj {s : Sl} {ov : Option V} {a : Addr} (h : SlR K G H s ov) (ha : a ∈ ads s) : ∃ o, H a = some o ∧ ∀ xs, o ≠ .tup xs := by
  cases s with
  | no => cases ha
  | d x => cases ha
  | own b x => cases List.mem_singleton.mp ha; exact h.2.obj
  | deep b x gs =>
    rcases List.mem_cons.mp ha with q | q
    · subst q; exact h.2.1.obj
    · obtain ⟨w, hw, e⟩ := List.mem_map.mp q
      subst e
      exact (h.2.2 w hw).obj
theorem Frame.obj (F : Frame K B G H σ δ) {a : Addr} (ha : a ∈ owned δ) : ∃ o, H a = some o ∧ ∀ xs, o ≠ .tup xs := by
  have there : ∀ {δ : List Sl} {σ : St}, SlsR K G H δ σ → a ∈ owned δ → ∃ o, H a = some o ∧ ∀ xs, o ≠ .tup xs := by
    intro δ
    induction δ with
    | nil => intro σ _ z; cases z
    | cons s δ ih =>
      intro σ h z
      obtain ⟨ov, σr, e, h1, h2⟩ := h
      rw [owned_cons] at z
      rcases List.mem_append.mp z with q | q
      · exact h1.obj q
      · exact ih h2 q
  exact there F.sl ha
/-- frozen things more -/
theorem Frame.more (F : Frame K B G H σ δ) (eG : Ex G G') (eH : Ex G' H) (dis : ∀ b, AptV (B b) (G' b)) (hn : ∀ a ∈ owned δ, G' a = none) : Frame K B G' H σ δ :=
  ⟨F.exB, eH, dis, F.sl.ex eG (fun _ _ => rfl), fun a ha => ⟨(F.own a ha).1, hn a ha⟩, F.nd⟩
/-- a new frozen object p -/
theorem Frame.fresh (F : Frame K B G H σ δ) {p : Addr} (hp : H p = none) : B p = none ∧ G p = none ∧ p ∉ owned δ := by
  refine ⟨Evl.fresh_back F.exB hp, Evl.fresh_back F.exG hp, fun z => ?_⟩
  obtain ⟨o, ho⟩ := F.there z
  rw [ho] at hp
  cases hp
theorem Frame.laid (F : Frame K B G H σ δ) {p : Addr} {o : HO} (hp : H p = none) : Frame K B (upd G p o) (upd H p o) σ δ := by
  obtain ⟨h1, h2, h3⟩ := F.fresh hp
  refine (F.ex (Ex.new hp)).more (Ex.new h2) (fun a u e => ?_) (fun b => ?_) (fun a ha => ?_)
  · by_cases hb : a = p
    · subst hb; rw [upd_same] at e ⊢; exact e
    · rw [upd_ne hb] at e ⊢; exact F.exG _ _ e
  · by_cases hb : b = p
    · subst hb; exact .inl h1
    · rw [upd_ne hb]; exact F.dis b
  · rw [upd_ne (fun z => h3 (by rw [← z]; exact ha))]
    exact (F.own a ha).2
/-- tuples that stand there are told as frozen -/
theorem Frame.tups (F : Frame K B G H σ δ) (L : List Addr) (hL : ∀ b ∈ L, ∃ xs, H b = some (.tup xs)) : ∃ G1, Ex G G1 ∧ (∀ b ∈ L, G1 b = H b) ∧ Frame K B G1 H σ δ := by
  classical
  let G1 : Hp := fun b => if b ∈ L then H b else G b
  have g1 : ∀ b, b ∈ L → G1 b = H b := fun b hb => if_pos hb
  have g2 : ∀ b, b ∉ L → G1 b = G b := fun b hb => if_neg hb
  have eG : Ex G G1 := fun b o h => by
    by_cases hb : b ∈ L
    · rw [g1 b hb]; exact F.exG b o h
    · rw [g2 b hb]; exact h
  refine ⟨G1, eG, g1, F.more eG (fun b o h => ?_) (fun b => ?_) fun a ha => ?_⟩
  · by_cases hb : b ∈ L
    · rw [g1 b hb] at h; exact h
    · rw [g2 b hb] at h; exact F.exG b o h
  · by_cases hb : b ∈ L
    · obtain ⟨xs, hx⟩ := hL b hb
      exact .inr (.inr ⟨xs, (g1 b hb).trans hx⟩)
    · rw [g2 b hb]; exact F.dis b
  · have hn : a ∉ L := fun hb => by
      obtain ⟨xs, hx⟩ := hL a hb
      obtain ⟨o, ho, n⟩ := F.obj ha
      rw [hx] at ho
      cases ho
      exact n xs rfl
    rw [g2 a hn]
    exact (F.own a ha).2
/-- an object of one's own is told as frozen -/
theorem Frame.freeze (F : Frame K B G H σ δ) {a : Addr} {o : HO} (ha : H a = some o) (hB : B a = none) (hG : G a = none) (hn : a ∉ owned δ) : Frame K B (upd G a o) H σ δ := by
  refine F.more (Ex.new hG) (fun b u e => ?_) (fun b => ?_) (fun b hb => ?_)
  · by_cases q : b = a
    · subst q; rw [upd_same] at e; rw [ha]; exact e
    · rw [upd_ne q] at e; exact F.exG _ _ e
  · by_cases q : b = a
    · subst q; exact .inl hB
    · rw [upd_ne q]; exact F.dis b
  · rw [upd_ne (fun z => hn (by rw [← z]; exact hb))]
    exact (F.own b hb).2
theorem OwnR.rep {a : Addr} {x : D} {o : HO} (h : OwnR K G H a x) (ho : H a = some o) (hG : G a = none) : Rep K (upd G a o) x (.ref a) := by
  cases x with
  | lst ds =>
    obtain ⟨xs, h1, h2⟩ := h
    rw [ho] at h1
    cases h1
    unfold Rep
    exact ⟨a, xs, rfl, upd_same, h2.mono (Ex.new hG)⟩
  | dct ds =>
    obtain ⟨xs, h1, h2⟩ := h
    rw [ho] at h1
    cases h1
    unfold Rep
    exact ⟨a, xs, rfl, Rd.of upd_same, h2.mono (Ex.new hG)⟩
  | dcT ds =>
    obtain ⟨xs, h1, h2⟩ := h
    rw [ho] at h1
    cases h1
    unfold Rep
    exact ⟨a, xs, rfl, Rd.of upd_same, h2.mono (Ex.new hG)⟩
  | obj C ds =>
    obtain ⟨dx, xs, h1, h2⟩ := h
    rw [ho] at h1
    cases h1
    unfold Rep
    exact ⟨a, dx, xs, rfl, upd_same, h2.mono (Ex.new hG)⟩
  | _ => exact h.elim
/-- what is told of a thing's content: at H, its items frozen in G -/
theorem OwnR.repH {a : Addr} {x : D} (eG : Ex G H) (h : OwnR K G H a x) : Rep K H x (.ref a) := by
  cases x with
  | lst ds =>
    obtain ⟨xs, h1, h2⟩ := h
    unfold Rep
    exact ⟨a, xs, rfl, h1, h2.mono eG⟩
  | dct ds =>
    obtain ⟨xs, h1, h2⟩ := h
    unfold Rep
    exact ⟨a, xs, rfl, Rd.of h1, h2.mono eG⟩
  | dcT ds =>
    obtain ⟨xs, h1, h2⟩ := h
    unfold Rep
    exact ⟨a, xs, rfl, Rd.of h1, h2.mono eG⟩
  | obj C ds =>
    obtain ⟨dx, xs, h1, h2⟩ := h
    unfold Rep
    exact ⟨a, dx, xs, rfl, h1, h2.mono eG⟩
  | _ => exact h.elim
theorem Frame.get (F : Frame K B G H σ δ) {i : Nat} {s : Sl} (e : δ[i]? = some s) : ∃ ov, σ[i]? = some ov ∧ SlR K G H s ov := F.sl.get e
theorem view_bor {i : Nat} {a : Addr} {y : D} (h : δ[i]? = some (.own a y)) : view δ (.bor i a) = some y := by simp [view, h]
theorem view_deep {i : Nat} {a : Addr} {y : D} {gs : List (Addr × D)} (h : δ[i]? = some (.deep a y gs)) : view δ (.bor i a) = some y := by simp [view, h]
/-- a slot's own object, or one behind it -/
theorem view_own (F : Frame K B G H σ δ) {i : Nat} {a : Addr} {y : D} (h : view δ (.bor i a) = some y) : OwnR K G H a y ∧ a ∈ owned δ := by
  unfold view at h
  simp only at h
  split at h
  · rename_i b x e
    split at h
    · rename_i q
      subst q
      cases h
      obtain ⟨ov, _, h3⟩ := F.get e
      exact ⟨h3.2, owned_get e⟩
    · cases h
  · rename_i b x gs e
    obtain ⟨ov, _, _, h3, h4⟩ := F.get e
    split at h
    · rename_i q
      subst q
      cases h
      exact ⟨h3, owned_getA e List.mem_cons_self⟩
    · refine ⟨h4.get h, owned_getA e (List.mem_cons_of_mem _ ?_)⟩
      clear h3 h4 e
      induction gs with
      | nil => simp at h
      | cons q gs ih =>
        obtain ⟨c, z⟩ := q
        rw [List.lookup_cons] at h
        by_cases hc : a = c
        · subst hc; exact List.mem_cons_self
        · have hc' : (a == c) = false := by simp [hc]
          rw [hc'] at h
          exact List.mem_cons_of_mem _ (ih h)
  · cases h
/-- a thing as an operand: a new object is frozen -/
def frz : R → R
  | .own _ x => .d x
  | r => r
def RW (K : PySem.W.Frag) (G : Hp) : R → V → Prop
  | .d x, v => Rep K G x v
  | .own _ _, _ => False
  | .deep _ _ _, _ => True
  | .bor _ a, v => v = .ref a
theorem RW.mono {r : R} {v : V} (e : Ex G G') (h : RW K G r v) : RW K G' r v := by
  cases r with
  | d x => exact Rep.mono e h
  | own a x => exact h
  | deep a x gs => trivial
  | bor i a => exact h
theorem view_repH (F : Frame K B G H σ δ) {r : R} {v : V} {x : D} (h : RW K G r v) (e : view δ r = some x) : Rep K H x v := by
  cases r with
  | d y =>
    have e' : y = x := Option.some.inj e
    subst e'
    exact Rep.mono F.exG h
  | own a y => exact h.elim
  | deep a y gs => cases e
  | bor i a =>
    have e1 : v = .ref a := h
    subst e1
    exact (view_own F e).1.repH F.exG
/-- a list (tuple) that is read: its items are frozen -/
theorem view_lstH (F : Frame K B G H σ δ) {r : R} {v : V} {ds : List D} (h : RW K G r v) (e : view δ r = some (.lst ds)) : ∃ a xs, v = .ref a ∧ H a = some (.lst xs) ∧ Reps K G ds xs := by
  cases r with
  | d y =>
    have e' : y = .lst ds := Option.some.inj e
    subst e'
    have h' : Rep K G (.lst ds) v := h
    unfold Rep at h'
    obtain ⟨a, xs, e1, h1, h2⟩ := h'
    exact ⟨a, xs, e1, F.exG _ _ h1, h2⟩
  | own a y => exact h.elim
  | deep a y gs => cases e
  | bor i a =>
    have e1 : v = .ref a := h
    obtain ⟨xs, h3, h4⟩ := (view_own F e).1
    exact ⟨a, xs, e1, h3, h4⟩
theorem view_lst (F : Frame K B G H σ δ) {r : R} {v : V} {ds : List D} (h : RW K G r v) (e : view δ r = some (.lst ds)) : ∃ a xs, v = .ref a ∧ Rd H a (.lst xs) ∧ Reps K G ds xs := by
  obtain ⟨a, xs, e1, h1, h2⟩ := view_lstH F h e
  exact ⟨a, xs, e1, Rd.of h1, h2⟩
theorem view_ro (F : Frame K B G H σ δ) {r : R} {v : V} {ds : List D} (h : RW K G r v) (e : view δ r = some (.ro ds)) : ∃ a xs, v = .ref a ∧ SqL K H a xs ∧ Reps K G ds xs := by
  cases r with
  | d y =>
    have e' : y = .ro ds := Option.some.inj e
    subst e'
    have h' : Rep K G (.ro ds) v := h
    unfold Rep at h'
    obtain ⟨a, xs, e1, h1, h2⟩ := h'
    exact ⟨a, xs, e1, Evl.ex_l F.exG h1, h2⟩
  | own a y => exact h.elim
  | deep a y gs => cases e
  | bor i a => exact (view_own F e).1.elim
theorem view_tupH (F : Frame K B G H σ δ) {r : R} {v : V} {ds : List D} (h : RW K G r v) (e : view δ r = some (.tup ds)) : ∃ a xs, v = .ref a ∧ H a = some (.tup xs) ∧ Reps K G ds xs := by
  cases r with
  | d y =>
    have e' : y = .tup ds := Option.some.inj e
    subst e'
    have h' : Rep K G (.tup ds) v := h
    unfold Rep at h'
    obtain ⟨a, xs, e1, h1, h2⟩ := h'
    exact ⟨a, xs, e1, F.exG _ _ h1, h2⟩
  | own a y => exact h.elim
  | deep a y gs => cases e
  | bor i a => exact (view_own F e).1.elim
theorem view_tup (F : Frame K B G H σ δ) {r : R} {v : V} {ds : List D} (h : RW K G r v) (e : view δ r = some (.tup ds)) : ∃ a xs, v = .ref a ∧ SqT K H a xs ∧ Reps K G ds xs := by
  obtain ⟨a, xs, e1, h1, h2⟩ := view_tupH F h e
  exact ⟨a, xs, e1, SqT.of h1, h2⟩
theorem view_dct (F : Frame K B G H σ δ) {r : R} {v : V} {ds : List (Key × D)} (h : RW K G r v) (e : view δ r = some (.dct ds)) : ∃ a xs, v = .ref a ∧ Rd H a (.dK xs) ∧ RepK K G ds xs := by
  cases r with
  | d y =>
    have e' : y = .dct ds := Option.some.inj e
    subst e'
    have h' : Rep K G (.dct ds) v := h
    unfold Rep at h'
    obtain ⟨a, xs, e1, h1, h2⟩ := h'
    exact ⟨a, xs, e1, Evl.ex_rd F.exG h1, h2⟩
  | own a y => exact h.elim
  | deep a y gs => cases e
  | bor i a =>
    have e1 : v = .ref a := h
    obtain ⟨xs, h3, h4⟩ := (view_own F e).1
    exact ⟨a, xs, e1, Rd.of h3, h4⟩
theorem view_dcT (F : Frame K B G H σ δ) {r : R} {v : V} {ds : List (List Key × D)} (h : RW K G r v) (e : view δ r = some (.dcT ds)) : ∃ a xs, v = .ref a ∧ Rd H a (.dT xs) ∧ RepT K G ds xs := by
  cases r with
  | d y =>
    have e' : y = .dcT ds := Option.some.inj e
    subst e'
    have h' : Rep K G (.dcT ds) v := h
    unfold Rep at h'
    obtain ⟨a, xs, e1, h1, h2⟩ := h'
    exact ⟨a, xs, e1, Evl.ex_rd F.exG h1, h2⟩
  | own a y => exact h.elim
  | deep a y gs => cases e
  | bor i a =>
    have e1 : v = .ref a := h
    obtain ⟨xs, h3, h4⟩ := (view_own F e).1
    exact ⟨a, xs, e1, Rd.of h3, h4⟩
theorem RV.weak (F : Frame K B G H σ δ) {r : R} {v : V} (h : RV K B G H δ r v) : ∃ G1, Ex G G1 ∧ Frame K B G1 H σ δ ∧ RW K G1 (frz r) v := by
  cases r with
  | d x => exact ⟨G, Ex.refl G, F, h⟩
  | own a x =>
    obtain ⟨e1, h1, h2, h3, h4⟩ := h
    subst e1
    obtain ⟨o, ho⟩ := h1.there
    exact ⟨upd G a o, Ex.new h3, F.freeze ho h2 h3 h4, h1.rep ho h3⟩
  | deep a x gs => exact ⟨G, Ex.refl G, F, trivial⟩
  | bor i a => exact ⟨G, Ex.refl G, F, h.1⟩
def adsR : R → List Addr
  | .own a _ => [a]
  | .deep a _ gs => a :: gs.map Prod.fst
  | _ => []
theorem RV.ex {r : R} {v : V} (h : RV K B G H δ r v) (eG : Ex G G') (eH : Ex H H') (hn : ∀ a ∈ adsR r, G' a = none) : RV K B G' H' δ r v := by
  cases r with
  | d x => exact Rep.mono eG h
  | own a x =>
    obtain ⟨e1, h1, h2, h3, h4⟩ := h
    exact ⟨e1, h1.ex eG eH, h2, hn a (List.mem_singleton.mpr rfl), h4⟩
  | deep a x gs =>
    obtain ⟨e1, h1, h2, h3, h4⟩ := h
    exact ⟨e1, h1.ex eG eH, h2.ex eG eH, fun b hb => ⟨(h3 b hb).1, hn b hb, (h3 b hb).2.2⟩, h4⟩
  | bor i a => exact h
end

/-! ### the words -/
/-- where one stands: the written part, and what an error's way out asks -/
structure Cd where
  K : PySem.W.Frag
  xr : Hp → Hp → Prop
  mono : ∀ B G G', Ex G G' → xr B G → xr B G'
abbrev c0 (K : PySem.W.Frag) : Cd := ⟨K, fun _ _ => True, fun _ _ _ _ h => h⟩
/-- an expression, from slots δ: Φ of what it hands on and the slots behind; p: nothing that stood is changed -/
def WE (c : Cd) (p : Bool) (te : TE) (δ : List Sl) (Φ : R → List Sl → Prop) : Prop :=
  ∀ (B G H : Hp) (σ : St) (Q : VK), Frame c.K B G H σ δ → c.xr B G →
    (∀ r δ' v G' H', Φ r δ' → Ex G G' → Frame c.K B G' H' σ δ' → RV c.K B G' H' δ' r v → (p = true → δ' = δ ∧ Ex H H') → Q v H') → te σ H Q
def WT (c : Cd) (p : Bool) (tt : TT) (δ : List Sl) (Φ : Bool → List Sl → Prop) : Prop :=
  ∀ (B G H : Hp) (σ : St) (Q : Bool → Hp → Prop), Frame c.K B G H σ δ → c.xr B G →
    (∀ b δ' G' H', Φ b δ' → Ex G G' → Frame c.K B G' H' σ δ' → (p = true → δ' = δ ∧ Ex H H') → Q b H') → tt σ H Q
/-- arguments: each thing data (bor: a slot's own, lent) -/
def RVs (K : PySem.W.Frag) (G : Hp) : List R → List V → Prop
  | [], vs => vs = []
  | r :: rs, vs => ∃ v vr, vs = v :: vr ∧ RW K G r v ∧ RVs K G rs vr
theorem RVs.mono {K : PySem.W.Frag} {G G' : Hp} (e : Ex G G') : ∀ {rs : List R} {vs : List V}, RVs K G rs vs → RVs K G' rs vs
  | [], _, h => h
  | r :: rs, _, h => by
    obtain ⟨v, vr, e1, h1, h2⟩ := h
    exact ⟨v, vr, e1, h1.mono e, RVs.mono e h2⟩
def WA (c : Cd) (p : Bool) (ta : TA) (δ : List Sl) (Φ : List R → List Sl → Prop) : Prop :=
  ∀ (B G H : Hp) (σ : St) (Q : List V → Hp → Prop), Frame c.K B G H σ δ → c.xr B G →
    (∀ rs δ' vs G' H', Φ rs δ' → Ex G G' → Frame c.K B G' H' σ δ' → RVs c.K G' rs vs → (p = true → δ' = δ ∧ Ex H H') → Q vs H') → ta σ H Q
structure En where
  nx : List Sl → Prop
  rt : R → List Sl → Prop
  bk : List Sl → Prop := fun _ => False
  ct : List Sl → Prop := fun _ => False
structure EnR (c : Cd) (B G : Hp) (E : En) (D : Ends) : Prop where
  nx : ∀ δ' σ' G' H', E.nx δ' → Ex G G' → Frame c.K B G' H' σ' δ' → D.nx σ' H'
  rt : ∀ r δ' v σ' G' H', E.rt r δ' → Ex G G' → Frame c.K B G' H' σ' δ' → RV c.K B G' H' δ' r v → D.rt v H'
  bk : ∀ δ' σ' G' H', E.bk δ' → Ex G G' → Frame c.K B G' H' σ' δ' → D.bk σ' H'
  ct : ∀ δ' σ' G' H', E.ct δ' → Ex G G' → Frame c.K B G' H' σ' δ' → D.ct σ' H'
theorem EnR.mono {c : Cd} {B G G1 : Hp} {E : En} {D : Ends} (h : EnR c B G E D) (e : Ex G G1) : EnR c B G1 E D :=
  ⟨fun δ' σ' G' H' a b => h.nx δ' σ' G' H' a (e.trans b), fun r δ' v σ' G' H' a b => h.rt r δ' v σ' G' H' a (e.trans b), fun δ' σ' G' H' a b => h.bk δ' σ' G' H' a (e.trans b), fun δ' σ' G' H' a b => h.ct δ' σ' G' H' a (e.trans b)⟩
def WS (c : Cd) (t : TS) (δ : List Sl) (E : En) : Prop :=
  ∀ (B G H : Hp) (σ : St) (D : Ends), Frame c.K B G H σ δ → c.xr B G → EnR c B G E D → t D σ H
/-- a target, handed a thing -/
def WG (c : Cd) (g : TG) (r : R) (δ : List Sl) (Φ : List Sl → Prop) : Prop :=
  ∀ (B G H : Hp) (σ : St) (v : V) (Q : St → Hp → Prop), Frame c.K B G H σ δ → c.xr B G → RV c.K B G H δ r v →
    (∀ δ' σ' G' H', Φ δ' → Ex G G' → Frame c.K B G' H' σ' δ' → Q σ' H') → g v σ H Q
end DL

/-! DL1: the rules of the words. -/
namespace DL
open PySem PySem.Spec PyProof.Rows L2
open Evl (Ex)
section
variable {c : Cd} {p : Bool} {δ : List Sl} {te ta tb : TE} {Φ Φ' : R → List Sl → Prop}
/-! ### values -/
theorem we_mono (h : WE c p te δ Φ) (m : ∀ r δ', Φ r δ' → Φ' r δ') : WE c p te δ Φ' := fun B G H σ Q F x k =>
  h B G H σ Q F x fun r δ' v G' H' w => k r δ' v G' H' (m r δ' w)
theorem ws_mono {t : TS} {E E' : En} (h : WS c t δ E) (m1 : ∀ δ', E.nx δ' → E'.nx δ') (m2 : ∀ r δ', E.rt r δ' → E'.rt r δ') (m3 : ∀ δ', E.bk δ' → E'.bk δ') (m4 : ∀ δ', E.ct δ' → E'.ct δ') : WS c t δ E' := fun B G H σ D F x e =>
  h B G H σ D F x ⟨fun δ' σ' G' H' w => e.nx δ' σ' G' H' (m1 _ w), fun r δ' v σ' G' H' w => e.rt r δ' v σ' G' H' (m2 _ _ w), fun δ' σ' G' H' w => e.bk δ' σ' G' H' (m3 _ w), fun δ' σ' G' H' w => e.ct δ' σ' G' H' (m4 _ w)⟩
/-- what a slot hands on -/
def rd (δ : List Sl) (i : Nat) : Option R := match δ[i]? with
  | some (.d x) => some (.d x)
  | some (.own a _) => some (.bor i a)
  | some (.deep a _ _) => some (.bor i a)
  | _ => none
theorem we_var {i : Nat} {r : R} (h : rd δ i = some r) (q : Φ r δ) : WE c p (tVar i) δ Φ := by
  intro B G H σ Q F x k
  unfold rd at h
  split at h
  · rename_i y e
    obtain ⟨ov, e1, v, e2, hr⟩ := F.get e
    subst e2
    cases h
    exact ⟨v, e1, k _ δ v G H q (Ex.refl G) F hr fun _ => ⟨rfl, Ex.refl H⟩⟩
  · rename_i a y e
    obtain ⟨ov, e1, e2, hr⟩ := F.get e
    subst e2
    cases h
    exact ⟨.ref a, e1, k _ δ _ G H q (Ex.refl G) F ⟨rfl, y, view_bor e⟩ fun _ => ⟨rfl, Ex.refl H⟩⟩
  · rename_i a y gs e
    obtain ⟨ov, e1, e2, hr⟩ := F.get e
    subst e2
    cases h
    exact ⟨.ref a, e1, k _ δ _ G H q (Ex.refl G) F ⟨rfl, y, view_deep e⟩ fun _ => ⟨rfl, Ex.refl H⟩⟩
  · cases h
def dOf : V → D
  | .bl b => .bl b
  | .int i => .int i
  | .str x => .str x
  | .ty n => .ty n
  | .ref a => .ptr a
  | _ => .non
def isC : V → Bool
  | .byt _ => false
  | .flt _ => false
  | _ => true
theorem rep_dOf {K : PySem.W.Frag} {G : Hp} {v : V} (h : isC v = true) : Rep K G (dOf v) v := by
  cases v <;> first | (cases h; done) | (unfold dOf Rep; rfl)
theorem rep_bl {K : PySem.W.Frag} {G : Hp} {b : Bool} : Rep K G (.bl b) (.bl b) := by unfold Rep; rfl
theorem rep_int {K : PySem.W.Frag} {G : Hp} {b : Int} : Rep K G (.int b) (.int b) := by unfold Rep; rfl
theorem rep_str {K : PySem.W.Frag} {G : Hp} {b : Str} : Rep K G (.str b) (.str b) := by unfold Rep; rfl
theorem rep_non {K : PySem.W.Frag} {G : Hp} : Rep K G .non .non := by unfold Rep; rfl
theorem rv_bl {K : PySem.W.Frag} {B G H : Hp} {δ : List Sl} {b : Bool} : RV K B G H δ (.d (.bl b)) (.bl b) := rep_bl (K := K) (G := G)
theorem we_c {v : V} (q : Φ (.d (dOf v)) δ) (h : isC v = true := by rfl) : WE c p (tC v) δ Φ := fun B G H σ Q F x k =>
  k _ δ v G H q (Ex.refl G) F (rep_dOf h) fun _ => ⟨rfl, Ex.refl H⟩
/-! ### operators -/
abbrev Dop := D → D → (R → Prop) → Prop
/-- what an operation does, by data -/
def OpD (c : Cd) (r : R2) (f : Dop) : Prop := ∀ (B G H : Hp) (σ : St) (δ : List Sl) (r1 r2 : R) (v1 v2 : V) (x y : D) (Ψ : R → Prop) (Q : VK), Frame c.K B G H σ δ → RW c.K G r1 v1 → RW c.K G r2 v2 → view δ r1 = some x → view δ r2 = some y → f x y Ψ →
  (∀ r v G' H', Ψ r → Ex G G' → Ex H H' → Frame c.K B G' H' σ δ → RV c.K B G' H' δ r v → Q v H') → r v1 v2 H Q
theorem we_op {r : R2} {f : Dop} (ho : OpD c r f) (h : WE c p ta δ fun r1 δ1 => WE c p tb δ1 fun r2 δ2 => ∃ x y, view δ2 (frz r1) = some x ∧ view δ2 (frz r2) = some y ∧ f x y fun r => Φ r δ2) : WE c p (tOp r ta tb) δ Φ := by
  intro B G H σ Q F x k
  refine h B G H σ _ F x fun r1 δ1 v1 G1 H1 w1 e1 F1 rv1 p1 => ?_
  obtain ⟨G1', e1', F1', rw1⟩ := rv1.weak F1
  refine w1 B G1' H1 σ _ F1' (c.mono _ _ _ (e1.trans e1') x) fun r2 δ2 v2 G2 H2 w2 e2 F2 rv2 p2 => ?_
  obtain ⟨G2', e2', F2', rw2⟩ := rv2.weak F2
  obtain ⟨x, y, hx, hy, hd⟩ := w2
  refine ho B G2' H2 σ δ2 _ _ v1 v2 x y _ _ F2' (rw1.mono (e2.trans e2')) rw2 hx hy hd fun r v G' H' q e3 e4 F3 rv3 => ?_
  exact k r δ2 v G' H' q ((e1.trans e1').trans ((e2.trans e2').trans e3)) F3 rv3 fun hp => ⟨(p2 hp).1.trans (p1 hp).1, ((p1 hp).2.trans (p2 hp).2).trans e4⟩
/-- by the data at H alone -/
theorem opd_H {r : R2} {f : Dop} (h : ∀ (H : Hp) (v1 v2 : V) (x y : D) (Ψ : R → Prop) (Q : VK), Rep c.K H x v1 → Rep c.K H y v2 → f x y Ψ → (∀ z v, Ψ (.d z) → (∀ G, Rep c.K G z v) → Q v H) → r v1 v2 H Q) : OpD c r f :=
  fun B G H σ δ r1 r2 v1 v2 x y Ψ Q F h1 h2 e1 e2 hf k => h H v1 v2 x y Ψ Q (view_repH F h1 e1) (view_repH F h2 e2) hf fun z v q hz => k (.d z) v G H q (Ex.refl G) (Ex.refl H) F (hz G)
def dInt (C : Int → Int → Prop) (g : Int → Int → D) : Dop
  | .int i, .int j, k => C i j ∧ k (.d (g i j))
  | _, _, _ => False
theorem opd_I {C : Int → Int → Prop} {g : Int → Int → V} {g' : Int → Int → D} (hg : ∀ G i j, Rep c.K G (g' i j) (g i j)) : OpD c (rI C g) (dInt C g') := opd_H fun H v1 v2 x y Ψ Q h1 h2 hf k => by
  cases x with
  | int i =>
    cases y with
    | int j =>
      unfold Rep at h1 h2
      exact ⟨i, j, h1, h2, hf.1, k _ _ hf.2 fun G => hg G i j⟩
    | _ => exact hf.elim
  | _ => cases y <;> exact hf.elim
def dInt0 (g : Int → Int → D) : Dop
  | .int i, .int j, k => k (.d (g i j))
  | _, _, _ => False
theorem opd_I0 {g : Int → Int → V} {g' : Int → Int → D} (hg : ∀ G i j, Rep c.K G (g' i j) (g i j)) : OpD c (rI0 g) (dInt0 g') := opd_H fun H v1 v2 x y Ψ Q h1 h2 hf k => by
  cases x with
  | int i =>
    cases y with
    | int j =>
      unfold Rep at h1 h2
      exact ⟨i, j, h1, h2, k _ _ hf fun G => hg G i j⟩
    | _ => exact hf.elim
  | _ => cases y <;> exact hf.elim
/-! a new list, a new tuple -/
theorem rv_newL {K : PySem.W.Frag} {B G H : Hp} {σ : St} {δ : List Sl} {q : Addr} {xs : List V} {ds : List D} (F : Frame K B G H σ δ) (hp : H q = none) (h : Reps K G ds xs) : RV K B G (upd H q (.lst xs)) δ (.own q (.lst ds)) (.ref q) := by
  obtain ⟨h1, h2, h3⟩ := F.fresh hp
  exact ⟨rfl, ⟨xs, upd_same, h⟩, h1, h2, h3⟩
theorem rep_newT {K : PySem.W.Frag} {G : Hp} {q : Addr} {xs : List V} {ds : List D} (hp : G q = none) (h : Reps K G ds xs) : Rep K (upd G q (.tup xs)) (.tup ds) (.ref q) := by
  unfold Rep
  exact ⟨q, xs, rfl, upd_same, h.mono (Ex.new hp)⟩
/-! ### arguments -/
theorem wa_nil {Ψ : List R → List Sl → Prop} (q : Ψ [] δ) : WA c p tNil δ Ψ := fun B G H σ Q F x k => k [] δ [] G H q (Ex.refl G) F rfl fun _ => ⟨rfl, Ex.refl H⟩
theorem wa_cons {tr : TA} {Ψ : List R → List Sl → Prop} (h : WE c p te δ fun r δ1 => WA c p tr δ1 fun rs δ2 => Ψ (frz r :: rs) δ2) : WA c p (tCons te tr) δ Ψ := by
  intro B G H σ Q F x k
  refine h B G H σ _ F x fun r1 δ1 v1 G1 H1 w1 e1 F1 rv1 p1 => ?_
  obtain ⟨G1', e1', F1', rw1⟩ := rv1.weak F1
  refine w1 B G1' H1 σ _ F1' (c.mono _ _ _ (e1.trans e1') x) fun rs δ2 vs G2 H2 w2 e2 F2 rv2 p2 => ?_
  exact k _ δ2 (v1 :: vs) G2 H2 w2 ((e1.trans e1').trans e2) F2 ⟨v1, vs, rfl, rw1.mono e2, rv2⟩ fun hp => ⟨(p2 hp).1.trans (p1 hp).1, (p1 hp).2.trans (p2 hp).2⟩
def datas : List R → Option (List D)
  | [] => some []
  | .d x :: rs => (datas rs).map (x :: ·)
  | _ :: _ => none
theorem datas_reps {K : PySem.W.Frag} {G : Hp} : ∀ {rs : List R} {ds : List D} {vs : List V}, datas rs = some ds → RVs K G rs vs → Reps K G ds vs
  | [], ds, vs, e, h => by
    cases e
    have e1 : vs = [] := h
    subst e1
    exact reps_nil
  | .d x :: rs, ds, vs, e, h => by
    obtain ⟨v, vr, e1, h1, h2⟩ := h
    subst e1
    unfold datas at e
    cases q : datas rs with
    | none => rw [q] at e; cases e
    | some es =>
      rw [q] at e
      cases e
      exact reps_cons h1 (datas_reps q h2)
  | .own a x :: rs, ds, vs, e, h => by cases e
  | .bor i a :: rs, ds, vs, e, h => by cases e
theorem we_lst {tr : TA} (h : WA c p tr δ fun rs δ1 => ∃ ds, datas rs = some ds ∧ ds.length ≤ 100000 ∧ ∀ a, Φ (.own a (.lst ds)) δ1) : WE c p (tLst tr) δ Φ := by
  intro B G H σ Q F x k
  refine h B G H σ _ F x fun rs δ1 vs G1 H1 w1 e1 F1 rv1 p1 => ?_
  obtain ⟨ds, hd, hl, w⟩ := w1
  have hr := datas_reps hd rv1
  refine ⟨Evl.sz_of (by rw [reps_length hr]; exact hl), fun q hq => ?_⟩
  exact k _ δ1 _ G1 _ (w q) e1 (F1.ex (Ex.new hq)) (rv_newL F1 hq hr) fun hp => ⟨(p1 hp).1, (p1 hp).2.trans (Ex.new hq)⟩
theorem we_tup {tr : TA} (h : WA c p tr δ fun rs δ1 => ∃ ds, datas rs = some ds ∧ ds.length ≤ 100000 ∧ Φ (.d (.tup ds)) δ1) : WE c p (tTup tr) δ Φ := by
  intro B G H σ Q F x k
  refine h B G H σ _ F x fun rs δ1 vs G1 H1 w1 e1 F1 rv1 p1 => ?_
  obtain ⟨ds, hd, hl, w⟩ := w1
  have hr := datas_reps hd rv1
  refine ⟨Evl.sz_of (by rw [reps_length hr]; exact hl), fun q hq => ?_⟩
  have hG := (F1.fresh hq).2.1
  exact k _ δ1 _ (upd G1 q (.tup vs)) _ w (e1.trans (Ex.new hG)) (F1.laid hq) (rep_newT hG hr) fun hp => ⟨(p1 hp).1, (p1 hp).2.trans (Ex.new hq)⟩
/-! ### tests -/
variable {Φt : Bool → List Sl → Prop} {tt tu : TT}
theorem wt_test (h : WE c p te δ fun r δ1 => ∃ b, r = .d (.bl b) ∧ Φt b δ1) : WT c p (tTest te) δ Φt := by
  intro B G H σ Q F x k
  refine h B G H σ _ F x fun r1 δ1 v1 G1 H1 w1 e1 F1 rv1 p1 => ?_
  obtain ⟨b, e, w⟩ := w1
  subst e
  exact ⟨b, (by have h : Rep c.K G1 (.bl b) v1 := rv1; unfold Rep at h; exact h), k b δ1 G1 H1 w e1 F1 p1⟩
/-- the truth of a thing -/
def truD : D → Option Bool
  | .non => some false
  | .bl b => some b
  | .int i => some (i != 0)
  | .str x => some ((x.length : Int) != 0)
  | .lst ds => some (!ds.isEmpty)
  | .tup ds => some (!ds.isEmpty)
  | .dct ds => some (!ds.isEmpty)
  | _ => none
def strOk : D → Prop
  | .str x => x.length ≤ 16000000
  | _ => True
theorem isEmpty_reps {K : PySem.W.Frag} {G : Hp} {ds : List D} {xs : List V} (h : Reps K G ds xs) : xs.isEmpty = ds.isEmpty := by
  have e := reps_length h
  cases ds <;> cases xs <;> simp_all
theorem isEmpty_repK {K : PySem.W.Frag} {G : Hp} : ∀ {ds : List (Key × D)} {xs : List (Key × V)}, RepK K G ds xs → xs.isEmpty = ds.isEmpty
  | [], xs, h => by unfold RepK at h; subst h; rfl
  | (k, d) :: ds, xs, h => by
    unfold RepK at h
    obtain ⟨v, vr, e, _⟩ := h
    subst e
    rfl
def tTruth (K : PySem.W.Frag) (ta : TE) : TT := fun σ H Q => ta σ H fun x H' => ∃ k, TruV K x H' k ∧ Q k H'
theorem pt_tru {X : Cx} {a : Expr} (ha : PE X a ta) (he : ∀ whole, isTrue a X.env whole = (do let v ← whole; standAt a.pos; holding [v] (truthy v))) : PT X a (tTruth X.K ta) := pt_truth ha he
theorem size16 {n : Nat} (h : n ≤ 16000000) : n ≤ sizeLine := by rw [sizeLine_eq]; omega
theorem wt_truth (h : WE c p te δ fun r δ1 => ∃ x b, view δ1 (frz r) = some x ∧ truD x = some b ∧ strOk x ∧ (∀ ds, x = .dct ds → ∃ i a, r = .bor i a) ∧ Φt b δ1) : WT c p (tTruth c.K te) δ Φt := by
  intro B G H σ Q F x k
  refine h B G H σ _ F x fun r1 δ1 v1 G1 H1 w1 e1 F1 rv1 p1 => ?_
  obtain ⟨G1', e1', F1', rw1⟩ := rv1.weak F1
  obtain ⟨y, b, hv, ht, hs, hd, w⟩ := w1
  refine ⟨b, ?_, k b δ1 G1' H1 w (e1.trans e1') F1' p1⟩
  cases y with
  | non => have h := view_repH F1' rw1 hv; unfold Rep at h; subst h; cases ht; rfl
  | bl _ => have h := view_repH F1' rw1 hv; unfold Rep at h; subst h; cases ht; rfl
  | int _ => have h := view_repH F1' rw1 hv; unfold Rep at h; subst h; cases ht; rfl
  | str z => have h := view_repH F1' rw1 hv; unfold Rep at h; subst h; cases ht; exact ⟨size16 hs, rfl⟩
  | lst ds =>
    obtain ⟨a, xs, e, h1, h2⟩ := view_lst F1' rw1 hv
    subst e
    cases ht
    exact .inl ⟨xs, .inl h1, by rw [isEmpty_reps h2]⟩
  | tup ds =>
    obtain ⟨a, xs, e, h1, h2⟩ := view_tup F1' rw1 hv
    subst e
    cases ht
    exact .inr (.inl ⟨xs, h1, by rw [isEmpty_reps h2]⟩)
  | dct ds =>
    obtain ⟨i, a, e⟩ := hd ds rfl
    subst e
    have e2 : v1 = .ref a := rw1
    subst e2
    obtain ⟨xs, h3, h4⟩ := (view_own F1' hv).1
    cases ht
    exact .inr (.inr ⟨xs, h3, by rw [isEmpty_repK h4]⟩)
  | _ => cases ht
theorem wt_and (h : WT c p tt δ fun b δ1 => (b = true → WT c p tu δ1 Φt) ∧ (b = false → Φt false δ1)) : WT c p (tAnd tt tu) δ Φt := by
  intro B G H σ Q F x k
  refine h B G H σ _ F x fun b δ1 G1 H1 w1 e1 F1 p1 => ?_
  cases b with
  | true => exact w1.1 rfl B G1 H1 σ _ F1 (c.mono _ _ _ e1 x) fun b2 δ2 G2 H2 w2 e2 F2 p2 => k b2 δ2 G2 H2 w2 (e1.trans e2) F2 fun hp => ⟨(p2 hp).1.trans (p1 hp).1, (p1 hp).2.trans (p2 hp).2⟩
  | false => exact k false δ1 G1 H1 (w1.2 rfl) e1 F1 p1
theorem wt_or (h : WT c p tt δ fun b δ1 => (b = true → Φt true δ1) ∧ (b = false → WT c p tu δ1 Φt)) : WT c p (tOr tt tu) δ Φt := by
  intro B G H σ Q F x k
  refine h B G H σ _ F x fun b δ1 G1 H1 w1 e1 F1 p1 => ?_
  cases b with
  | false => exact w1.2 rfl B G1 H1 σ _ F1 (c.mono _ _ _ e1 x) fun b2 δ2 G2 H2 w2 e2 F2 p2 => k b2 δ2 G2 H2 w2 (e1.trans e2) F2 fun hp => ⟨(p2 hp).1.trans (p1 hp).1, (p1 hp).2.trans (p2 hp).2⟩
  | true => exact k true δ1 G1 H1 (w1.1 rfl) e1 F1 p1
theorem wt_not (h : WT c p tt δ fun b δ1 => Φt (!b) δ1) : WT c p (tNot tt) δ Φt := fun B G H σ Q F x k => h B G H σ _ F x fun b δ1 G1 H1 w1 e1 F1 p1 => k (!b) δ1 G1 H1 w1 e1 F1 p1
theorem we_if (h : WT c p tt δ fun b δ1 => (b = true → WE c p ta δ1 Φ) ∧ (b = false → WE c p tb δ1 Φ)) : WE c p (tIf tt ta tb) δ Φ := by
  intro B G H σ Q F x k
  refine h B G H σ _ F x fun b δ1 G1 H1 w1 e1 F1 p1 => ?_
  cases b with
  | true => exact w1.1 rfl B G1 H1 σ _ F1 (c.mono _ _ _ e1 x) fun b2 δ2 v2 G2 H2 w2 e2 F2 rv2 p2 => k b2 δ2 v2 G2 H2 w2 (e1.trans e2) F2 rv2 fun hp => ⟨(p2 hp).1.trans (p1 hp).1, (p1 hp).2.trans (p2 hp).2⟩
  | false => exact w1.2 rfl B G1 H1 σ _ F1 (c.mono _ _ _ e1 x) fun b2 δ2 v2 G2 H2 w2 e2 F2 rv2 p2 => k b2 δ2 v2 G2 H2 w2 (e1.trans e2) F2 rv2 fun hp => ⟨(p2 hp).1.trans (p1 hp).1, (p1 hp).2.trans (p2 hp).2⟩
/-- a op b op' c -/
theorem we_chain {r r' : R2} {f f' : Dop} {tc : TE} (ho : OpD c r f) (ho' : OpD c r' f') (h : WE c p ta δ fun r1 δ1 => WE c p tb δ1 fun r2 δ2 => ∃ x y, view δ2 (frz r1) = some x ∧ view δ2 (frz r2) = some y ∧
    f x y fun r => ∃ b, r = .d (.bl b) ∧ (b = true → WE c p tc δ2 fun r3 δ3 => ∃ y z, view δ3 (frz r2) = some y ∧ view δ3 (frz r3) = some z ∧ f' y z fun r => Φ r δ3) ∧ (b = false → Φ (.d (.bl false)) δ2)) : WE c p (tChain r r' ta tb tc) δ Φ := by
  intro B G H σ Q F x k
  refine h B G H σ _ F x fun r1 δ1 v1 G1 H1 w1 e1 F1 rv1 p1 => ?_
  obtain ⟨G1', e1', F1', rw1⟩ := rv1.weak F1
  refine w1 B G1' H1 σ _ F1' (c.mono _ _ _ (e1.trans e1') x) fun r2 δ2 v2 G2 H2 w2 e2 F2 rv2 p2 => ?_
  obtain ⟨G2', e2', F2', rw2⟩ := rv2.weak F2
  obtain ⟨x', y, hx, hy, hd⟩ := w2
  refine ho B G2' H2 σ δ2 _ _ v1 v2 x' y _ _ F2' (rw1.mono (e2.trans e2')) rw2 hx hy hd fun r v G3 H3 q e3 e4 F3 rv3 => ?_
  obtain ⟨b, e, w, w'⟩ := q
  subst e
  have e5 : v = .bl b := by have h : Rep c.K G3 (.bl b) v := rv3; unfold Rep at h; exact h
  refine ⟨b, e5, ?_⟩
  have eG := (e1.trans e1').trans ((e2.trans e2').trans e3)
  cases b with
  | false => exact k _ δ2 _ G3 H3 (w' rfl) eG F3 rv_bl fun hp => ⟨(p2 hp).1.trans (p1 hp).1, ((p1 hp).2.trans (p2 hp).2).trans e4⟩
  | true =>
    refine w rfl B G3 H3 σ _ F3 (c.mono _ _ _ eG x) fun r4 δ4 v4 G4 H4 w4 e6 F4 rv4 p4 => ?_
    obtain ⟨G4', e4', F4', rw4⟩ := rv4.weak F4
    obtain ⟨y', z, hy', hz, hd'⟩ := w4
    refine ho' B G4' H4 σ δ4 _ _ v2 v4 y' z _ _ F4' (rw2.mono (e3.trans (e6.trans e4'))) rw4 hy' hz hd' fun r v G5 H5 q e7 e8 F5 rv5 => ?_
    exact k r δ4 v G5 H5 q (eG.trans ((e6.trans e4').trans e7)) F5 rv5 fun hp => ⟨((p4 hp).1.trans (p2 hp).1).trans (p1 hp).1, ((((p1 hp).2.trans (p2 hp).2).trans e4).trans (p4 hp).2).trans e8⟩
/-! ### calls of built-ins -/
abbrev Dca := List D → (R → Prop) → Prop
def views (δ : List Sl) : List R → Option (List D)
  | [] => some []
  | r :: rs => match view δ r with
    | some x => (views δ rs).map (x :: ·)
    | none => none
def CaD (c : Cd) (r : List V → Hp → VK → Prop) (f : Dca) : Prop := ∀ (B G H : Hp) (σ : St) (δ : List Sl) (rs : List R) (vs : List V) (ds : List D) (Ψ : R → Prop) (Q : VK), Frame c.K B G H σ δ → RVs c.K G rs vs → views δ rs = some ds → f ds Ψ →
  (∀ r v G' H', Ψ r → Ex G G' → Ex H H' → Frame c.K B G' H' σ δ → RV c.K B G' H' δ r v → Q v H') → r vs H Q
theorem we_cb {r : List V → Hp → VK → Prop} {f : Dca} {tr : TA} (ho : CaD c r f) (h : WA c p tr δ fun rs δ1 => ∃ ds, views δ1 rs = some ds ∧ f ds fun r => Φ r δ1) : WE c p (tCB r tr) δ Φ := by
  intro B G H σ Q F x k
  refine h B G H σ _ F x fun rs δ1 vs G1 H1 w1 e1 F1 rv1 p1 => ?_
  obtain ⟨ds, hd, hf⟩ := w1
  refine ho B G1 H1 σ δ1 rs vs ds _ _ F1 rv1 hd hf fun r v G' H' q e3 e4 F3 rv3 => ?_
  exact k r δ1 v G' H' q (e1.trans e3) F3 rv3 fun hp => ⟨(p1 hp).1, (p1 hp).2.trans e4⟩
theorem views_cons {δ : List Sl} {r : R} {rs : List R} {ds : List D} (h : views δ (r :: rs) = some ds) : ∃ x es, ds = x :: es ∧ view δ r = some x ∧ views δ rs = some es := by
  unfold views at h
  split at h
  · rename_i x e
    cases q : views δ rs with
    | none => rw [q] at h; cases h
    | some es =>
      rw [q] at h
      cases h
      exact ⟨x, es, rfl, e, rfl⟩
  · cases h
theorem views_nil {δ : List Sl} {ds : List D} (h : views δ [] = some ds) : ds = [] := by cases h; rfl
/-- one argument -/
theorem cad_1 {r : List V → Hp → VK → Prop} {f : Dca} (hf : ∀ ds Ψ, f ds Ψ → ds.length = 1) (h : ∀ (B G H : Hp) (σ : St) (δ : List Sl) (r1 : R) (v : V) (x : D) (Ψ : R → Prop) (Q : VK), Frame c.K B G H σ δ → RW c.K G r1 v → view δ r1 = some x → f [x] Ψ →
    (∀ r v G' H', Ψ r → Ex G G' → Ex H H' → Frame c.K B G' H' σ δ → RV c.K B G' H' δ r v → Q v H') → r [v] H Q) : CaD c r f := by
  intro B G H σ δ rs vs ds Ψ Q F hr hv hd k
  have hl := hf ds Ψ hd
  cases rs with
  | nil => have e := views_nil hv; subst e; cases hl
  | cons r1 rs =>
    obtain ⟨x, es, e, e1, e2⟩ := views_cons hv
    subst e
    obtain ⟨v, vr, e3, h1, h2⟩ := hr
    cases es with
    | cons y ys => cases hl
    | nil =>
      cases rs with
      | cons r2 rs => obtain ⟨y, ys, e4, _⟩ := views_cons e2; cases e4
      | nil =>
        have e5 : vr = [] := h2
        subst e5
        subst e3
        exact h B G H σ δ r1 v x Ψ Q F h1 e1 hd k
theorem cad_2 {r : List V → Hp → VK → Prop} {f : Dca} (hf : ∀ ds Ψ, f ds Ψ → ds.length = 2) (h : ∀ (B G H : Hp) (σ : St) (δ : List Sl) (r1 r2 : R) (v w : V) (x y : D) (Ψ : R → Prop) (Q : VK), Frame c.K B G H σ δ → RW c.K G r1 v → RW c.K G r2 w → view δ r1 = some x → view δ r2 = some y → f [x, y] Ψ →
    (∀ r v G' H', Ψ r → Ex G G' → Ex H H' → Frame c.K B G' H' σ δ → RV c.K B G' H' δ r v → Q v H') → r [v, w] H Q) : CaD c r f := by
  intro B G H σ δ rs vs ds Ψ Q F hr hv hd k
  have hl := hf ds Ψ hd
  cases rs with
  | nil => have e := views_nil hv; subst e; cases hl
  | cons r1 rs =>
    obtain ⟨x, es, e, e1, e2⟩ := views_cons hv
    subst e
    obtain ⟨v, vr, e3, h1, h2⟩ := hr
    cases rs with
    | nil => have e := views_nil e2; subst e; cases hl
    | cons r2 rs =>
      obtain ⟨y, ys, e4, e5, e6⟩ := views_cons e2
      subst e4
      obtain ⟨w, wr, e7, h3, h4⟩ := h2
      cases ys with
      | cons _ _ => cases hl
      | nil =>
        cases rs with
        | cons r3 rs => obtain ⟨_, _, e4, _⟩ := views_cons e6; cases e4
        | nil =>
          have e8 : wr = [] := h4
          subst e8
          subst e7
          subst e3
          exact h B G H σ δ r1 r2 v w x y Ψ Q F h1 h3 e1 e5 hd k
end
end DL

/-! DL2: statements, loops, comprehensions, defs. -/
namespace DL
open PySem PySem.Spec PyProof.Rows L2
open Evl (Ex)
section
variable {c : Cd} {p : Bool} {δ : List Sl} {te ta tb : TE} {E : En} {t u : TS} {tt : TT} {g : TG}
theorem ws_seq (h : WS c t δ { E with nx := fun δ' => WS c u δ' E }) : WS c (tSeq t u) δ E := by
  intro B G H σ D F x e
  exact h B G H σ { D with nx := u D } F x ⟨fun δ' σ' G' H' w eG F' => w B G' H' σ' D F' (c.mono _ _ _ eG x) (e.mono eG), e.rt, e.bk, e.ct⟩
theorem ws_next (h : E.nx δ) : WS c tNext δ E := fun B G H σ D F x e => e.nx δ σ G H h (Ex.refl G) F
theorem ws_drop (h : WE c p te δ fun _ δ1 => E.nx δ1) : WS c (tDrop te) δ E := fun B G H σ D F x e =>
  h B G H σ _ F x fun r δ1 v G1 H1 w e1 F1 rv p1 => e.nx δ1 σ G1 H1 w e1 F1
theorem ws_ret (h : WE c p te δ E.rt) : WS c (tRet te) δ E := fun B G H σ D F x e =>
  h B G H σ _ F x fun r δ1 v G1 H1 w e1 F1 rv p1 => e.rt r δ1 v σ G1 H1 w e1 F1 rv
theorem ws_if (h : WT c p tt δ fun b δ1 => (b = true → WS c t δ1 E) ∧ (b = false → WS c u δ1 E)) : WS c (tIfS tt t u) δ E := by
  intro B G H σ D F x e
  refine h B G H σ _ F x fun b δ1 G1 H1 w e1 F1 p1 => ?_
  cases b with
  | true => exact w.1 rfl B G1 H1 σ D F1 (c.mono _ _ _ e1 x) (e.mono e1)
  | false => exact w.2 rfl B G1 H1 σ D F1 (c.mono _ _ _ e1 x) (e.mono e1)
theorem ws_asg (h : WE c p te δ fun r δ1 => WG c g r δ1 E.nx) : WS c (tAsg te g) δ E := by
  intro B G H σ D F x e
  refine h B G H σ _ F x fun r δ1 v G1 H1 w e1 F1 rv p1 => ?_
  exact w B G1 H1 σ v _ F1 (c.mono _ _ _ e1 x) rv fun δ' σ' G' H' q e2 F2 => e.nx δ' σ' G' H' q (e1.trans e2) F2
/-- what a slot holds behind a store -/
def slOf : R → Option Sl
  | .d x => some (.d x)
  | .own a x => some (.own a x)
  | .deep a x gs => some (.deep a x gs)
  | .bor _ _ => none
theorem frame_set {K : PySem.W.Frag} {B G H : Hp} {σ : St} {δ : List Sl} {r : R} {v : V} {s : Sl} {i : Nat} (F : Frame K B G H σ δ) (h : RV K B G H δ r v) (e : slOf r = some s) : Frame K B G H (σ.set i (some v)) (δ.set i s) := by
  cases r with
  | d x =>
    cases e
    have sub := owned_set_no (δ := δ) (i := i) (s := .d x) rfl
    exact ⟨F.exB, F.exG, F.dis, F.sl.set i ⟨v, rfl, h⟩, fun a ha => F.own a (sub.subset ha), F.nd.sublist sub⟩
  | own a x =>
    cases e
    obtain ⟨e1, h1, h2, h3, h4⟩ := h
    subst e1
    refine ⟨F.exB, F.exG, F.dis, F.sl.set i ⟨rfl, h1⟩, fun b hb => ?_, nodup_set_own F.nd h4⟩
    rcases owned_set_own hb with q | q
    · subst q; exact ⟨h2, h3⟩
    · exact F.own b q
  | deep a x gs =>
    cases e
    obtain ⟨e1, h1, h2, h3, h4⟩ := h
    subst e1
    refine ⟨F.exB, F.exG, F.dis, F.sl.set i ⟨rfl, h1, h2⟩, fun b hb => ?_, nodup_set F.nd h4 fun b hb => (h3 b hb).2.2⟩
    rcases owned_set_in hb with q | q
    · exact ⟨(h3 b q).1, (h3 b q).2.1⟩
    · exact F.own b q
  | bor j a => cases e
theorem wg_name {r : R} {i : Nat} {s : Sl} {Φ : List Sl → Prop} (e : slOf r = some s) (h : Φ (δ.set i s)) : WG c (gName i) r δ Φ := fun B G H σ v Q F x rv k =>
  k _ _ G H h (Ex.refl G) (frame_set F rv e)
/-- a new object is told as frozen, then handed on -/
theorem wg_frz {r : R} {Φ : List Sl → Prop} (h : WG c g (frz r) δ Φ) : WG c g r δ Φ := by
  intro B G H σ v Q F x rv k
  cases r with
  | d y => exact h B G H σ v Q F x rv k
  | bor i a => exact h B G H σ v Q F x rv k
  | deep a y gs => exact h B G H σ v Q F x rv k
  | own a y =>
    obtain ⟨G1, e1, F1, r1⟩ := rv.weak F
    exact h B G1 H σ v Q F1 (c.mono _ _ _ e1 x) r1 fun δ' σ' G' H' q e2 F2 => k δ' σ' G' H' q (e1.trans e2) F2
/-- several targets -/
def WGs (c : Cd) (g : TGs) (xs : List D) (δ : List Sl) (Φ : List Sl → Prop) : Prop :=
  ∀ (B G H : Hp) (σ : St) (vs : List V) (Q : St → Hp → Prop), Frame c.K B G H σ δ → c.xr B G → Reps c.K G xs vs →
    (∀ δ' σ' G' H', Φ δ' → Ex G G' → Frame c.K B G' H' σ' δ' → Q σ' H') → g vs σ H Q
theorem wgs_nil {Φ : List Sl → Prop} (h : Φ δ) : WGs c gNil [] δ Φ := fun B G H σ vs Q F x rv k => by
  unfold Reps at rv
  exact ⟨rv, k δ σ G H h (Ex.refl G) F⟩
theorem wgs_cons {gs : TGs} {x : D} {xs : List D} {Φ : List Sl → Prop} (h : WG c g (.d x) δ fun δ1 => WGs c gs xs δ1 Φ) : WGs c (gCons g gs) (x :: xs) δ Φ := fun B G H σ vs Q F z rv k => by
  unfold Reps at rv
  obtain ⟨v, vr, e, h1, h2⟩ := rv
  refine ⟨v, vr, e, h B G H σ v _ F z h1 fun δ1 σ1 G1 H1 q e1 F1 => ?_⟩
  exact q B G1 H1 σ1 vr Q F1 (c.mono _ _ _ e1 z) (h2.mono e1) fun δ' σ' G' H' q e2 F2 => k δ' σ' G' H' q (e1.trans e2) F2
theorem wg_tup {gs : TGs} {n : Nat} {xs : List D} {Φ : List Sl → Prop} (hn : xs.length = n) (h : WGs c gs xs δ Φ) : WG c (gTup c.K n gs) (.d (.tup xs)) δ Φ := fun B G H σ v Q F z rv k => by
  have rv' : Rep c.K G (.tup xs) v := rv
  unfold Rep at rv'
  obtain ⟨a, ys, e, h1, h2⟩ := rv'
  exact ⟨a, ys, e, SqT.of (F.exG _ _ h1), (reps_length h2).trans hn, h B G H σ ys Q F z h2 k⟩
theorem owned_mem : ∀ {δ : List Sl} {b : Addr}, b ∈ owned δ → ∃ (j : Nat) (s : Sl), δ[j]? = some s ∧ b ∈ ads s
  | [], b, h => by cases h
  | s :: δ, b, h => by
    rw [owned_cons] at h
    rcases List.mem_append.mp h with q | q
    · exact ⟨0, s, rfl, q⟩
    · obtain ⟨j, t, e, m⟩ := owned_mem q
      exact ⟨j + 1, t, by simpa using e, m⟩
theorem owned_uniq : ∀ {δ : List Sl} {i j : Nat} {s t : Sl} {b : Addr}, (owned δ).Nodup → δ[i]? = some s → b ∈ ads s → δ[j]? = some t → b ∈ ads t → i = j
  | [], i, j, s, t, b, _, h, _, _, _ => by simp at h
  | u :: δ, i, j, s, t, b, nd, h1, h2, h3, h4 => by
    rw [owned_cons] at nd
    have nd' := List.nodup_append.mp nd
    cases i with
    | zero =>
      cases j with
      | zero => rfl
      | succ j =>
        have e : u = s := by simpa using h1
        subst e
        exact absurd rfl (nd'.2.2 b h2 b (owned_getA (δ := δ) (i := j) (by simpa using h3) h4))
    | succ i =>
      cases j with
      | zero =>
        have e : u = t := by simpa using h3
        subst e
        exact absurd rfl (nd'.2.2 b h4 b (owned_getA (δ := δ) (i := i) (by simpa using h1) h2))
      | succ j =>
        have ih := owned_uniq (δ := δ) (i := i) (j := j) nd'.2.1 (by simpa using h1) h2 (by simpa using h3) h4
        rw [ih]
theorem not_owned_set {δ : List Sl} {i : Nat} {b : Addr} {s t : Sl} (nd : (owned δ).Nodup) (e : δ[i]? = some s) (hb : b ∈ ads s) (ht : ads t = []) : b ∉ owned (δ.set i t) := by
  intro z
  obtain ⟨j, u, e1, m⟩ := owned_mem z
  by_cases q : i = j
  · subst q
    have hl : i < δ.length := (List.getElem?_eq_some_iff.mp e).1
    rw [List.getElem?_set_self hl] at e1
    cases e1
    rw [ht] at m
    cases m
  · rw [List.getElem?_set_ne q] at e1
    exact q (owned_uniq nd e hb e1 m)
theorem owned_set_eq : ∀ {δ : List Sl} {i : Nat} {s t : Sl}, ads s = ads t → owned (δ.set i s) = owned (δ.set i t)
  | [], i, s, t, _ => rfl
  | u :: δ, 0, s, t, e => by
    show owned (s :: δ) = owned (t :: δ)
    rw [owned_cons, owned_cons, e]
  | u :: δ, i + 1, s, t, e => by
    show owned (u :: δ.set i s) = owned (u :: δ.set i t)
    rw [owned_cons, owned_cons, owned_set_eq (δ := δ) e]
/-- a slot's object is frozen from here on -/
theorem frame_frz {K : PySem.W.Frag} {B G H : Hp} {σ : St} {δ : List Sl} {i : Nat} {a : Addr} {x : D} (F : Frame K B G H σ δ) (e : δ[i]? = some (.own a x)) : ∃ G1, Ex G G1 ∧ Frame K B G1 H σ (δ.set i (.d x)) := by
  obtain ⟨ov, h1, h2, h3⟩ := F.get e
  subst h2
  obtain ⟨o, ho⟩ := h3.there
  obtain ⟨hB, hG⟩ := F.own a (owned_get e)
  have hn : a ∉ owned (δ.set i (.d x)) := not_owned_set F.nd e (List.mem_singleton.mpr rfl) rfl
  have F0 : Frame K B G H σ (δ.set i .no) := by
    have sub0 := owned_set_no (δ := δ) (i := i) (s := .no) rfl
    exact ⟨F.exB, F.exG, F.dis, F.sl.setS (ov := none) i (fun _ _ => trivial), fun b hb => F.own b (sub0.subset hb), F.nd.sublist sub0⟩
  have e0 : owned (δ.set i .no) = owned (δ.set i (.d x)) := owned_set_eq rfl
  have F1 := F0.freeze ho hB hG (by rw [e0]; exact hn)
  refine ⟨upd G a o, Ex.new hG, F1.exB, F1.exG, F1.dis, ?_, fun b hb => F1.own b (by rw [e0]; exact hb), by rw [← e0]; exact F1.nd⟩
  have z := F1.sl.set (s := .d x) (ov := some (.ref a)) i ⟨_, rfl, h3.rep ho hG⟩
  rw [List.set_set] at z
  have es : σ.set i (some (.ref a)) = σ := by
    apply List.ext_getElem?
    intro j
    by_cases hj : i = j
    · subst hj
      have hl : i < σ.length := (List.getElem?_eq_some_iff.mp h1).1
      rw [List.getElem?_set_self hl, h1]
    · rw [List.getElem?_set_ne hj]
  rw [es] at z
  exact z
theorem ws_frz (i : Nat) {a : Addr} {x : D} (e : δ[i]? = some (.own a x)) (h : WS c t (δ.set i (.d x)) E) : WS c t δ E := fun B G H σ D F z k => by
  obtain ⟨G1, e1, F1⟩ := frame_frz F e
  exact h B G1 H σ D F1 (c.mono _ _ _ e1 z) (k.mono e1)
/-- what is known of a slot is forgotten -/
theorem frame_forget {K : PySem.W.Frag} {B G H : Hp} {σ : St} {δ : List Sl} (i : Nat) (F : Frame K B G H σ δ) : Frame K B G H σ (δ.set i .no) := by
  have sub0 := owned_set_no (δ := δ) (i := i) (s := .no) rfl
  exact ⟨F.exB, F.exG, F.dis, F.sl.setS (ov := none) i (fun _ _ => trivial), fun b hb => F.own b (sub0.subset hb), F.nd.sublist sub0⟩
/-! ### defs -/
abbrev SpD := List Sl → (R → List Sl → Prop) → Prop
def lift (K : PySem.W.Frag) (S : SpD) : Sp := fun vs H Q _ => ∃ B G as, Frame K B G H (vs.map some) as ∧
  S as fun r as' => ∀ v G' H', Ex G G' → Frame K B G' H' (vs.map some) as' → RV K B G' H' as' r v → Q v H'
/-- the arguments' words: a lent object its slot's -/
def toAs (δ : List Sl) : List R → Option (List Sl)
  | [] => some []
  | .d x :: rs => (toAs δ rs).map (.d x :: ·)
  | .bor i a :: rs => match δ[i]? with
    | some (.own b x) => if a = b then (toAs δ rs).map (.own a x :: ·) else none
    | some (.deep b x gs) => if a = b then (toAs δ rs).map (.deep a x gs :: ·) else none
    | _ => none
  | .own _ _ :: _ => none
  | .deep _ _ _ :: _ => none
def clr (δ : List Sl) : List R → List Sl
  | [] => δ
  | .bor i _ :: rs => (clr δ rs).set i .no
  | _ :: rs => clr δ rs
def fill (δ : List Sl) : List R → List Sl → List Sl
  | .bor i _ :: rs, s :: as => (fill δ rs as).set i s
  | _ :: rs, _ :: as => fill δ rs as
  | _, _ => δ
def backAs (δ : List Sl) (rs : List R) (as : List Sl) : List Sl := fill (clr δ rs) rs as
def noBor : List R → Bool
  | [] => true
  | .d _ :: rs => noBor rs
  | _ :: _ => false
/-- what a call hands back: as data or a new object -/
def ownOut : R → Prop
  | .bor _ _ => False
  | _ => True
/-- the addresses that are lent -/
def lent (δ : List Sl) : List R → List Addr
  | [] => []
  | .bor i _ :: rs => (match δ[i]? with
    | some s => ads s
    | none => []) ++ lent δ rs
  | _ :: rs => lent δ rs
section
variable {K : PySem.W.Frag} {B G G' H H' : Hp} {σ : St}
theorem toAs_owned : ∀ {rs : List R} {as : List Sl}, toAs δ rs = some as → owned as = lent δ rs
  | [], as, e => by cases e; rfl
  | .d x :: rs, as, e => by
    unfold toAs at e
    cases q : toAs δ rs with
    | none => rw [q] at e; cases e
    | some es => rw [q] at e; cases e; have ih := toAs_owned q; exact ih
  | .own a x :: rs, as, e => by cases e
  | .deep a x gs :: rs, as, e => by cases e
  | .bor i a :: rs, as, e => by
    unfold toAs at e
    unfold lent
    split at e
    · rename_i b x hx
      split at e
      · rename_i q2
        subst q2
        cases q : toAs δ rs with
        | none => rw [q] at e; cases e
        | some es =>
          rw [q] at e
          cases e
          rw [hx, owned_cons, toAs_owned q]
      · cases e
    · rename_i b x gs hx
      split at e
      · rename_i q2
        subst q2
        cases q : toAs δ rs with
        | none => rw [q] at e; cases e
        | some es =>
          rw [q] at e
          cases e
          rw [hx, owned_cons, toAs_owned q]
      · cases e
    · cases e
theorem toAs_at (F : Frame K B G H σ δ) : ∀ {rs : List R} {as : List Sl} {i : Nat} {a : Addr}, toAs δ rs = some as → R.bor i a ∈ rs → (∃ s, δ[i]? = some s) ∧ σ[i]? = some (some (.ref a))
  | [], as, i, a, e, h => by cases h
  | r :: rs, as, i, a, e, h => by
    rcases List.mem_cons.mp h with q | q
    · subst q
      unfold toAs at e
      split at e
      · rename_i b x hx
        split at e
        · rename_i q2
          subst q2
          obtain ⟨ov, h1, h2, _⟩ := F.get hx
          exact ⟨⟨_, hx⟩, by rw [h1, h2]⟩
        · cases e
      · rename_i b x gs hx
        split at e
        · rename_i q2
          subst q2
          obtain ⟨ov, h1, h2, _⟩ := F.get hx
          exact ⟨⟨_, hx⟩, by rw [h1, h2]⟩
        · cases e
      · cases e
    · cases r with
      | d x =>
        unfold toAs at e
        cases q2 : toAs δ rs with
        | none => rw [q2] at e; cases e
        | some es => exact toAs_at F q2 q
      | own b x => cases e
      | deep b x gs => cases e
      | bor j b =>
        unfold toAs at e
        split at e
        · split at e
          · cases q2 : toAs δ rs with
            | none => rw [q2] at e; cases e
            | some es => exact toAs_at F q2 q
          · cases e
        · split at e
          · cases q2 : toAs δ rs with
            | none => rw [q2] at e; cases e
            | some es => exact toAs_at F q2 q
          · cases e
        · cases e
theorem toAs_sl (F : Frame K B G H σ δ) : ∀ {rs : List R} {as : List Sl} {vs : List V}, toAs δ rs = some as → RVs K G rs vs → SlsR K G H as (vs.map some)
  | [], as, vs, e, h => by
    cases e
    have e1 : vs = [] := h
    subst e1
    exact (rfl : ([] : St) = [])
  | .d x :: rs, as, vs, e, h => by
    obtain ⟨v, vr, e1, h1, h2⟩ := h
    subst e1
    unfold toAs at e
    cases q : toAs δ rs with
    | none => rw [q] at e; cases e
    | some es =>
      rw [q] at e
      cases e
      exact ⟨some v, vr.map some, rfl, ⟨v, rfl, h1⟩, toAs_sl F q h2⟩
  | .own a x :: rs, as, vs, e, h => by cases e
  | .deep a x gs :: rs, as, vs, e, h => by cases e
  | .bor i a :: rs, as, vs, e, h => by
    obtain ⟨v, vr, e1, h1, h2⟩ := h
    subst e1
    have e2 : v = .ref a := h1
    subst e2
    unfold toAs at e
    split at e
    · rename_i b x hx
      split at e
      · rename_i q2
        subst q2
        cases q : toAs δ rs with
        | none => rw [q] at e; cases e
        | some es =>
          rw [q] at e
          cases e
          obtain ⟨ov, _, _, h3⟩ := F.get hx
          exact ⟨some (.ref a), vr.map some, rfl, ⟨rfl, h3⟩, toAs_sl F q h2⟩
      · cases e
    · rename_i b x gs hx
      split at e
      · rename_i q2
        subst q2
        cases q : toAs δ rs with
        | none => rw [q] at e; cases e
        | some es =>
          rw [q] at e
          cases e
          obtain ⟨ov, _, _, h3⟩ := F.get hx
          exact ⟨some (.ref a), vr.map some, rfl, ⟨rfl, h3⟩, toAs_sl F q h2⟩
      · cases e
    · cases e
theorem clr_no {rs : List R} (h : noBor rs = true) : clr δ rs = δ := by
  induction rs with
  | nil => rfl
  | cons r rs ih =>
    cases r with
    | d x => exact ih h
    | own a x => cases h
    | deep a x gs => cases h
    | bor i a => cases h
theorem fill_no {rs : List R} (h : noBor rs = true) : ∀ as, fill δ rs as = δ := by
  induction rs with
  | nil => intro as; cases as <;> rfl
  | cons r rs ih =>
    intro as
    cases r with
    | d x =>
      cases as with
      | nil => rfl
      | cons s as => exact ih h as
    | own a x => cases h
    | deep a x gs => cases h
    | bor i a => cases h
theorem lent_no {rs : List R} (h : noBor rs = true) : lent δ rs = [] := by
  induction rs with
  | nil => rfl
  | cons r rs ih =>
    cases r with
    | d x => exact ih h
    | own a x => cases h
    | deep a x gs => cases h
    | bor i a => cases h
theorem clr_sub : ∀ (rs : List R), (owned (clr δ rs)).Sublist (owned δ)
  | [] => List.Sublist.refl _
  | .d x :: rs => clr_sub rs
  | .own a x :: rs => clr_sub rs
  | .deep a x gs :: rs => clr_sub rs
  | .bor i a :: rs => (owned_set_no rfl).trans (clr_sub rs)
theorem clr_at : ∀ (rs : List R) {j : Nat}, (clr δ rs)[j]? = some .no ∨ (clr δ rs)[j]? = δ[j]?
  | [], j => .inr rfl
  | .d x :: rs, j => clr_at rs
  | .own a x :: rs, j => clr_at rs
  | .deep a x gs :: rs, j => clr_at rs
  | .bor i a :: rs, j => by
    show ((clr δ rs).set i .no)[j]? = some .no ∨ ((clr δ rs).set i .no)[j]? = δ[j]?
    by_cases h : i = j
    · subst h
      by_cases hl : i < (clr δ rs).length
      · exact .inl (List.getElem?_set_self hl)
      · rw [List.getElem?_set, if_pos rfl, if_neg hl]
        rcases clr_at rs (j := i) with q | q
        · exact absurd (List.getElem?_eq_some_iff.mp q).1 hl
        · rw [← q]
          exact .inr (List.getElem?_eq_none (by omega)).symm
    · rw [List.getElem?_set_ne h]
      exact clr_at rs
theorem clr_bor : ∀ {rs : List R} {i : Nat} {a : Addr} {s : Sl}, R.bor i a ∈ rs → (clr δ rs)[i]? = some s → s = .no
  | [], i, a, s, h, _ => by cases h
  | r :: rs, i, a, s, h, e => by
    rcases List.mem_cons.mp h with q | q
    · subst q
      have e' : ((clr δ rs).set i .no)[i]? = some s := e
      have hl : i < (clr δ rs).length := by simpa using (List.getElem?_eq_some_iff.mp e').1
      rw [List.getElem?_set_self hl] at e'
      cases e'
      rfl
    · cases r with
      | d x => exact clr_bor q e
      | own b x => exact clr_bor q e
      | deep b x gs => exact clr_bor q e
      | bor j b =>
        have e' : ((clr δ rs).set j .no)[i]? = some s := e
        by_cases hj : j = i
        · subst hj
          have hl : j < (clr δ rs).length := by simpa using (List.getElem?_eq_some_iff.mp e').1
          rw [List.getElem?_set_self hl] at e'
          cases e'
          rfl
        · rw [List.getElem?_set_ne hj] at e'
          exact clr_bor q e'
theorem not_clr (nd : (owned δ).Nodup) {rs : List R} {i : Nat} {a b : Addr} {s : Sl} (e : δ[i]? = some s) (hb : b ∈ ads s) (h : R.bor i a ∈ rs) : b ∉ owned (clr δ rs) := by
  intro z
  obtain ⟨j, t, e1, m⟩ := owned_mem z
  rcases clr_at rs (j := j) with q | q
  · rw [q] at e1; cases e1; cases m
  · have e2 : δ[j]? = some t := by rw [← q]; exact e1
    have hij := owned_uniq nd e hb e2 m
    subst hij
    have := clr_bor h e1
    subst this
    cases m
theorem lent_mem : ∀ {rs : List R} {b : Addr}, b ∈ lent δ rs → ∃ i a s, R.bor i a ∈ rs ∧ δ[i]? = some s ∧ b ∈ ads s
  | [], b, h => by cases h
  | .d x :: rs, b, h => by obtain ⟨i, a, s, e, h⟩ := lent_mem (rs := rs) h; exact ⟨i, a, s, List.mem_cons_of_mem _ e, h⟩
  | .own c x :: rs, b, h => by obtain ⟨i, a, s, e, h⟩ := lent_mem (rs := rs) h; exact ⟨i, a, s, List.mem_cons_of_mem _ e, h⟩
  | .deep c x gs :: rs, b, h => by obtain ⟨i, a, s, e, h⟩ := lent_mem (rs := rs) h; exact ⟨i, a, s, List.mem_cons_of_mem _ e, h⟩
  | .bor i a :: rs, b, h => by
    unfold lent at h
    rcases List.mem_append.mp h with q | q
    · split at q
      · rename_i s hs; exact ⟨i, a, s, List.mem_cons_self, hs, q⟩
      · cases q
    · obtain ⟨i, a, s, e, h⟩ := lent_mem (rs := rs) q; exact ⟨i, a, s, List.mem_cons_of_mem _ e, h⟩
/-- the slots filled with what the call has left -/
theorem fill_owned : ∀ {rs : List R} {as : List Sl} {b : Addr}, b ∈ owned (fill δ rs as) → b ∈ owned δ ∨ b ∈ owned as
  | [], as, b, hb => by cases as <;> exact .inl hb
  | r :: rs, [], b, hb => by cases r <;> exact .inl hb
  | r :: rs, s :: as, b, hb => by
    have step : b ∈ owned (fill δ rs as) → b ∈ owned δ ∨ b ∈ owned (s :: as) := fun hb => by
      rcases fill_owned hb with q | q
      · exact .inl q
      · exact .inr (by rw [owned_cons]; exact List.mem_append_right _ q)
    cases r with
    | d x => exact step hb
    | own a x => exact step hb
    | deep a x gs => exact step hb
    | bor i a =>
      have hb' : b ∈ owned ((fill δ rs as).set i s) := hb
      rcases owned_set_in hb' with q | q
      · exact .inr (by rw [owned_cons]; exact List.mem_append_left _ q)
      · exact step q
theorem fill_nodup : ∀ {rs : List R} {as : List Sl}, (owned δ).Nodup → (owned as).Nodup → (∀ a ∈ owned as, a ∉ owned δ) → (owned (fill δ rs as)).Nodup
  | [], as, n, n2, dj => by cases as <;> exact n
  | r :: rs, [], n, n2, dj => by cases r <;> exact n
  | r :: rs, s :: as, n, n2, dj => by
    rw [owned_cons] at n2 dj
    have n2' := List.nodup_append.mp n2
    have ih := fill_nodup (rs := rs) (as := as) n n2'.2.1 (fun b hb => dj b (List.mem_append_right _ hb))
    cases r with
    | d x => exact ih
    | own a x => exact ih
    | deep a x gs => exact ih
    | bor i a =>
      refine nodup_set ih n2'.1 fun b hb z => ?_
      rcases fill_owned z with q | q
      · exact dj b (List.mem_append_left _ hb) q
      · exact n2'.2.2 b hb b q rfl
theorem fill_sl : ∀ {rs : List R} {as : List Sl} {vs : List V}, RVs K G rs vs → SlsR K G' H' as (vs.map some) → (∀ i a, R.bor i a ∈ rs → σ[i]? = some (some (.ref a))) → SlsR K G' H' δ σ → SlsR K G' H' (fill δ rs as) σ
  | [], as, vs, h, h', hb, hs => by cases as <;> exact hs
  | r :: rs, [], vs, h, h', hb, hs => by cases r <;> exact hs
  | .d x :: rs, s :: as, vs, h, h', hb, hs => by
    obtain ⟨v, vr, e1, h1, h2⟩ := h
    subst e1
    obtain ⟨ov, σr, e2, h3, h4⟩ := h'
    cases e2
    have ih := fill_sl h2 h4 (fun i a m => hb i a (List.mem_cons_of_mem _ m)) hs
    exact ih
  | .own a x :: rs, s :: as, vs, h, h', hb, hs => by
    obtain ⟨v, vr, e1, h1, h2⟩ := h
    exact h1.elim
  | .deep a x gs :: rs, s :: as, vs, h, h', hb, hs => by
    obtain ⟨v, vr, e1, h1, h2⟩ := h
    subst e1
    obtain ⟨ov, σr, e2, h3, h4⟩ := h'
    cases e2
    have ih := fill_sl h2 h4 (fun i a m => hb i a (List.mem_cons_of_mem _ m)) hs
    exact ih
  | .bor i a :: rs, s :: as, vs, h, h', hb, hs => by
    obtain ⟨v, vr, e1, h1, h2⟩ := h
    subst e1
    have e3 : v = .ref a := h1
    subst e3
    obtain ⟨ov, σr, e2, h3, h4⟩ := h'
    cases e2
    have ih := fill_sl h2 h4 (fun i a m => hb i a (List.mem_cons_of_mem _ m)) hs
    refine ih.setS (ov := none) i fun ov e => ?_
    rw [hb i a List.mem_cons_self] at e
    cases e
    exact h3
theorem clr_sl : ∀ (rs : List R), SlsR K G H (clr δ rs) σ → (∀ a ∈ owned (clr δ rs), H' a = H a) → Ex G G' → SlsR K G' H' (clr δ rs) σ := fun rs h e eG => h.ex eG e
theorem clr_slR (h : SlsR K G H δ σ) : ∀ (rs : List R), SlsR K G H (clr δ rs) σ
  | [] => h
  | .d x :: rs => clr_slR h rs
  | .own a x :: rs => clr_slR h rs
  | .deep a x gs :: rs => clr_slR h rs
  | .bor i a :: rs => (clr_slR h rs).setS (ov := none) i fun _ _ => trivial
/-- what was lent, given back as it was -/
theorem fill_other : ∀ {rs : List R} {as : List Sl} {ε : List Sl} {j : Nat}, (∀ a, R.bor j a ∉ rs) → (fill ε rs as)[j]? = ε[j]?
  | [], as, ε, j, h => by cases as <;> rfl
  | r :: rs, [], ε, j, h => by cases r <;> rfl
  | r :: rs, s :: as, ε, j, h => by
    have ih := fill_other (rs := rs) (as := as) (ε := ε) (j := j) fun a m => h a (List.mem_cons_of_mem _ m)
    cases r with
    | d x => exact ih
    | own a x => exact ih
    | deep a x gs => exact ih
    | bor i a =>
      show ((fill ε rs as).set i s)[j]? = _
      rw [List.getElem?_set_ne (fun e => by subst e; exact h a List.mem_cons_self)]
      exact ih
theorem clr_other : ∀ {rs : List R} {j : Nat}, (∀ a, R.bor j a ∉ rs) → (clr δ rs)[j]? = δ[j]?
  | [], j, h => rfl
  | r :: rs, j, h => by
    have ih := clr_other (rs := rs) (j := j) fun a m => h a (List.mem_cons_of_mem _ m)
    cases r with
    | d x => exact ih
    | own a x => exact ih
    | deep a x gs => exact ih
    | bor i a =>
      show ((clr δ rs).set i .no)[j]? = _
      rw [List.getElem?_set_ne (fun e => by subst e; exact h a List.mem_cons_self)]
      exact ih
theorem fill_size : ∀ (rs : List R) (as : List Sl) (δ : List Sl), (fill δ rs as).length = δ.length
  | [], as, δ => by cases as <;> rfl
  | r :: rs, [], δ => by cases r <;> rfl
  | r :: rs, s :: as, δ => by
    cases r with
    | d x => exact fill_size rs as δ
    | own a x => exact fill_size rs as δ
    | deep a x gs => exact fill_size rs as δ
    | bor i a => show ((fill δ rs as).set i s).length = _; rw [List.length_set, fill_size rs as δ]
theorem clr_size : ∀ rs : List R, (clr δ rs).length = δ.length
  | [] => rfl
  | r :: rs => by
    cases r with
    | d x => exact clr_size rs
    | own a x => exact clr_size rs
    | deep a x gs => exact clr_size rs
    | bor i a => show ((clr δ rs).set i .no).length = _; rw [List.length_set, clr_size rs]
theorem fill_back : ∀ {rs : List R} {as : List Sl} {ε : List Sl} {j : Nat} {a : Addr}, toAs δ rs = some as → ε.length = δ.length → R.bor j a ∈ rs → (fill ε rs as)[j]? = δ[j]?
  | [], as, ε, j, a, e, hl, h => by cases h
  | r :: rs, as, ε, j, a, e, hl, h => by
    cases r with
    | d x =>
      unfold toAs at e
      cases q : toAs δ rs with
      | none => rw [q] at e; cases e
      | some es =>
        rw [q] at e
        cases e
        rcases List.mem_cons.mp h with z | z
        · cases z
        · exact fill_back (rs := rs) (as := es) (ε := ε) (j := j) (a := a) q hl z
    | own b x => cases e
    | deep b x gs => cases e
    | bor i b =>
      have main : ∀ (s : Sl) (es : List Sl), toAs δ rs = some es → δ[i]? = some s → (fill ε (.bor i b :: rs) (s :: es))[j]? = δ[j]? := fun s es q hs => by
        show ((fill ε rs es).set i s)[j]? = _
        by_cases hj : i = j
        · subst hj
          have hi := (List.getElem?_eq_some_iff.mp hs).1
          rw [List.getElem?_set_self (by rw [fill_size, hl]; exact hi), hs]
        · rw [List.getElem?_set_ne hj]
          rcases List.mem_cons.mp h with z | z
          · cases z; exact absurd rfl hj
          · exact fill_back (rs := rs) (as := es) (ε := ε) (j := j) (a := a) q hl z
      unfold toAs at e
      split at e
      · rename_i c x hx
        split at e
        · rename_i q2
          subst q2
          cases q : toAs δ rs with
          | none => rw [q] at e; cases e
          | some es => rw [q] at e; cases e; exact main _ es q hx
        · cases e
      · rename_i c x gs hx
        split at e
        · rename_i q2
          subst q2
          cases q : toAs δ rs with
          | none => rw [q] at e; cases e
          | some es => rw [q] at e; cases e; exact main _ es q hx
        · cases e
      · cases e
theorem toAs_back {rs : List R} {as : List Sl} (h : toAs δ rs = some as) : backAs δ rs as = δ := by
  apply List.ext_getElem?
  intro j
  unfold backAs
  by_cases q : ∃ a, R.bor j a ∈ rs
  · obtain ⟨a, q⟩ := q
    exact fill_back h (clr_size rs) q
  · have q' : ∀ a, R.bor j a ∉ rs := fun a m => q ⟨a, m⟩
    rw [fill_other q', clr_other q']
/-- THE CALL: the callee's frame, and back -/
theorem call_in {rs : List R} {as : List Sl} {vs : List V} (F : Frame K B G H σ δ) (hv : RVs K G rs vs) (hto : toAs δ rs = some as) (nd : (owned as).Nodup) :
    ∃ Bc, Frame K Bc G H (vs.map some) as ∧ ∀ (as' : List Sl) (G' H' : Hp), Ex G G' → Frame K Bc G' H' (vs.map some) as' → Frame K B G' H' σ (backAs δ rs as') ∧ (∀ (r : R) (v : V), ownOut r → RV K Bc G' H' as' r v → RV K B G' H' (backAs δ rs as') r v) ∧ (noBor rs = true → backAs δ rs as' = δ ∧ Ex H H') := by
  have hown := toAs_owned hto
  have hlent : ∀ a ∈ lent δ rs, B a = none ∧ G a = none ∧ a ∉ owned (clr δ rs) := fun a ha => by
    obtain ⟨i, b, s, hi, hx, hm⟩ := lent_mem ha
    exact ⟨(F.own a (owned_getA hx hm)).1, (F.own a (owned_getA hx hm)).2, not_clr F.nd hx hm hi⟩
  have hσ : ∀ i a, R.bor i a ∈ rs → σ[i]? = some (some (.ref a)) := fun i a h => (toAs_at F hto h).2
  let Bc : Hp := fun b => if (G b).isSome = true ∨ b ∈ owned as then none else H b
  have bc_some : ∀ b o, H b = some o → G b = none → b ∉ owned as → Bc b = some o := fun b o h1 h2 h3 => by
    show (if (G b).isSome = true ∨ b ∈ owned as then none else H b) = some o
    rw [if_neg (by rw [h2]; simp [h3])]
    exact h1
  have bc_none : ∀ b, Bc b = none → (G b).isSome = true ∨ b ∈ owned as ∨ H b = none := fun b h => by
    have h' : (if (G b).isSome = true ∨ b ∈ owned as then none else H b) = none := h
    by_cases q : (G b).isSome = true ∨ b ∈ owned as
    · rcases q with q | q
      · exact .inl q
      · exact .inr (.inl q)
    · rw [if_neg q] at h'
      exact .inr (.inr h')
  have bc_H : ∀ b o, Bc b = some o → H b = some o ∧ G b = none ∧ b ∉ owned as := fun b o h => by
    have h' : (if (G b).isSome = true ∨ b ∈ owned as then none else H b) = some o := h
    by_cases q : (G b).isSome = true ∨ b ∈ owned as
    · rw [if_pos q] at h'; cases h'
    · rw [if_neg q] at h'
      refine ⟨h', ?_, fun z => q (.inr z)⟩
      cases e : G b with
      | none => rfl
      | some u => exact absurd (.inl (by rw [e]; rfl)) q
  refine ⟨Bc, ⟨fun b o h => (bc_H b o h).1, F.exG, fun b => ?_, toAs_sl F hto hv, fun a ha => ⟨?_, ?_⟩, nd⟩, fun as' G' H' eG F' => ?_⟩
  · cases e : Bc b with
    | none => exact .inl rfl
    | some o => exact .inr (.inl (bc_H b o e).2.1)
  · cases e : Bc a with
    | none => rfl
    | some o => exact absurd ha (bc_H a o e).2.2
  · rw [hown] at ha
    exact (hlent a ha).2.1
  · -- behind the call
    have keep : ∀ b o, H b = some o → G b = none → b ∉ owned as → H' b = some o ∧ AptV (some o) (G' b) := fun b o h1 h2 h3 => by
      have h4 := bc_some b o h1 h2 h3
      refine ⟨F'.exB b o h4, ?_⟩
      have q := F'.dis b
      rw [h4] at q
      exact q
    have hclr : ∀ a ∈ owned (clr δ rs), (∃ o, H a = some o ∧ ∀ xs, o ≠ .tup xs) ∧ G a = none ∧ B a = none ∧ a ∉ owned as := fun a ha => by
      have ha' := (clr_sub rs).subset ha
      exact ⟨F.obj ha', (F.own a ha').2, (F.own a ha').1, fun z => by rw [hown] at z; exact (hlent a z).2.2 ha⟩
    have sl0 : SlsR K G' H' (clr δ rs) σ := clr_sl (H := H) rs (clr_slR F.sl rs) (fun a ha => by
      obtain ⟨⟨o, h1, _⟩, h2, _, h3⟩ := hclr a ha
      rw [h1, (keep a o h1 h2 h3).1]) eG
    have newB : ∀ b, Bc b = none → G' b = none → B b = none ∧ b ∉ owned (clr δ rs) := fun b h h3 => by
      rcases bc_none b h with q | q | q
      · cases e : G b with
        | none => rw [e] at q; cases q
        | some o => rw [eG b o e] at h3; cases h3
      · rw [hown] at q
        exact ⟨(hlent b q).1, (hlent b q).2.2⟩
      · refine ⟨Evl.fresh_back F.exB q, fun z => ?_⟩
        obtain ⟨⟨o, h5, _⟩, _⟩ := hclr b z
        rw [q] at h5
        cases h5
    have F2 : Frame K B G' H' σ (backAs δ rs as') := by
      refine ⟨fun b o h => ?_, F'.exG, fun b => ?_, fill_sl hv F'.sl hσ sl0, fun a ha => ?_, fill_nodup (F.nd.sublist (clr_sub rs)) F'.nd fun a ha => (newB a (F'.own a ha).1 (F'.own a ha).2).2⟩
      · have h1 := F.exB b o h
        have nl : b ∉ owned as := fun z => by
          rw [hown] at z
          rw [(hlent b z).1] at h
          cases h
        rcases F.dis b with q | q | ⟨xs, q⟩
        · rw [h] at q; cases q
        · exact (keep b o h1 q nl).1
        · have h2 := F.exG b _ q
          rw [h1] at h2
          cases h2
          exact F'.exG b _ (eG b _ q)
      · cases e : B b with
        | none => exact .inl rfl
        | some o =>
          have h1 := F.exB b o e
          have nl : b ∉ owned as := fun z => by
            rw [hown] at z
            rw [(hlent b z).1] at e
            cases e
          rcases F.dis b with q | q | ⟨xs, q⟩
          · rw [e] at q; cases q
          · exact (keep b o h1 q nl).2
          · exact .inr (.inr ⟨xs, eG b _ q⟩)
      · rcases fill_owned ha with q | q2
        · obtain ⟨⟨o, h1, n⟩, h2, h4, h3⟩ := hclr a q
          exact ⟨h4, F'.disN (bc_some a o h1 h2 h3) n⟩
        · exact ⟨(newB a (F'.own a q2).1 (F'.own a q2).2).1, (F'.own a q2).2⟩
    refine ⟨F2, fun r v hr rv => ?_, fun hn => ⟨?_, fun b o h => ?_⟩⟩
    · cases r with
      | d x => exact rv
      | bor i a => exact hr.elim
      | own a x =>
        obtain ⟨e1, h1, h2, h3, h4⟩ := rv
        have hBa := newB a h2 h3
        refine ⟨e1, h1, hBa.1, h3, fun z => ?_⟩
        rcases fill_owned z with q | q
        · exact hBa.2 q
        · exact h4 q
      | deep a x gs =>
        obtain ⟨e1, h1, h2, h3, h4⟩ := rv
        refine ⟨e1, h1, h2, fun b hb => ?_, h4⟩
        obtain ⟨q1, q2, q3⟩ := h3 b hb
        have hBa := newB b q1 q2
        refine ⟨hBa.1, q2, fun z => ?_⟩
        rcases fill_owned z with q | q
        · exact hBa.2 q
        · exact q3 q
    · unfold backAs
      rw [fill_no hn, clr_no hn]
    · cases e : G b with
      | some u =>
        have h1 := F.exG b u e
        rw [h] at h1
        cases h1
        exact F'.exG b o (eG b o e)
      | none => exact (keep b o h e (by rw [hown, lent_no hn]; exact fun z => by cases z)).1
/-- THE CALL: from the arguments' words to the caller's slots behind it -/
theorem call_core {S : SpD} {Φ : R → List Sl → Prop} {rs : List R} {as : List Sl} {vs : List V} {Q : VK} {X : XK} (F : Frame K B G H σ δ) (hv : RVs K G rs vs) (hto : toAs δ rs = some as) (nd : (owned as).Nodup)
    (hS : ∀ Ψ : R → List Sl → Prop, (∀ r as', ownOut r → Φ r (backAs δ rs as') → Ψ r as') → S as Ψ)
    (k : ∀ r δ' v G' H', Φ r δ' → Ex G G' → Frame K B G' H' σ δ' → RV K B G' H' δ' r v → (noBor rs = true → δ' = δ ∧ Ex H H') → Q v H') : lift K S vs H Q X := by
  obtain ⟨Bc, F0, hb⟩ := call_in F hv hto nd
  refine ⟨Bc, G, as, F0, hS _ fun r as' hr hΦ v G' H' eG F' rv => ?_⟩
  obtain ⟨F2, hr2, hn⟩ := hb as' G' H' eG F'
  exact k r _ v G' H' hΦ eG F2 (hr2 r v hr rv) hn
end
theorem we_call {S : SpD} {tr : TA} {X : XK} {Φ : R → List Sl → Prop} (h : WA c p tr δ fun rs δ1 => ∃ as, toAs δ1 rs = some as ∧ (owned as).Nodup ∧ (p = true → noBor rs = true) ∧
    ∀ Ψ : R → List Sl → Prop, (∀ r as', ownOut r → Φ r (backAs δ1 rs as') → Ψ r as') → S as Ψ) : WE c p (tCall (lift c.K S) [] X tr) δ Φ := by
  intro B G H σ Q F x k
  refine h B G H σ _ F x fun rs δ1 vs G1 H1 w e1 F1 rv p1 => ?_
  obtain ⟨as, hto, nd, hp, hS⟩ := w
  show lift c.K S (vs ++ []) H1 Q X
  rw [List.append_nil]
  exact call_core F1 rv hto nd hS fun r δ' v G' H' q eG F' rv' n => k r δ' v G' H' q (e1.trans eG) F' rv' fun hp' => ⟨(n (hp hp')).1.trans (p1 hp').1, (p1 hp').2.trans (n (hp hp')).2⟩
/-- the parameters' words behind the body -/
def parOk : List Sl → List Sl → Prop
  | .own a _ :: as, .own b _ :: δ => b = a ∧ parOk as δ
  | .own a _ :: as, .deep b _ _ :: δ => b = a ∧ parOk as δ
  | .own _ _ :: _, _ => False
  | .deep a _ _ :: as, .deep b _ _ :: δ => b = a ∧ parOk as δ
  | .deep a _ _ :: as, .own b _ :: δ => b = a ∧ parOk as δ
  | .deep _ _ _ :: _, _ => False
  | _ :: as, _ :: δ => parOk as δ
  | _ :: _, [] => False
  | [], _ => True
def parBack : List Sl → List Sl → List Sl
  | .own _ _ :: as, s :: δ => s :: parBack as δ
  | .deep _ _ _ :: as, s :: δ => s :: parBack as δ
  | s :: as, _ :: δ => s :: parBack as δ
  | _, _ => []
/-- a slot's own, handed back -/
def outR (δ : List Sl) (i : Nat) : Option (Addr × R) := match δ[i]? with
  | some (.own a x) => some (a, .own a x)
  | some (.deep a x gs) => some (a, .deep a x gs)
  | _ => none
/-- what the body hands back -/
def RetD (as : List Sl) (Φ : R → List Sl → Prop) (r : R) (δ : List Sl) : Prop := parOk as δ ∧ match r with
  | .d x => Φ (.d x) (parBack as δ)
  | .own a x => Φ (.own a x) (parBack as δ)
  | .deep a x gs => Φ (.deep a x gs) (parBack as δ)
  | .bor i a => as.length ≤ i ∧ ∃ r', outR δ i = some (a, r') ∧ Φ r' (parBack as δ)
abbrev defEn (as : List Sl) (Φ : R → List Sl → Prop) : En := { nx := RetD as Φ (.d .non), rt := RetD as Φ }
section
variable {K : PySem.W.Frag} {B G G' H H' : Hp} {σ : St}
/-- parOk, slot by slot -/
def root : Sl → Option Addr
  | .own a _ => some a
  | .deep a _ _ => some a
  | _ => none
theorem parOk_cons {s t : Sl} {as δ : List Sl} (h : parOk (s :: as) (t :: δ)) : (root s = none ∨ root t = root s) ∧ parOk as δ := by
  cases s with
  | no => exact ⟨.inl rfl, h⟩
  | d x => exact ⟨.inl rfl, h⟩
  | own a x =>
    cases t with
    | no => exact h.elim
    | d x => exact h.elim
    | own b y => exact ⟨.inr (congrArg some h.1), h.2⟩
    | deep b y gs => exact ⟨.inr (congrArg some h.1), h.2⟩
  | deep a x gs =>
    cases t with
    | no => exact h.elim
    | d x => exact h.elim
    | own b y => exact ⟨.inr (congrArg some h.1), h.2⟩
    | deep b y gs => exact ⟨.inr (congrArg some h.1), h.2⟩
theorem parBack_cons (s t : Sl) (as δ : List Sl) : parBack (s :: as) (t :: δ) = (if (root s).isSome = true then t else s) :: parBack as δ := by cases s <;> rfl
theorem root_sl {s : Sl} {ov : Option V} {a : Addr} (h : SlR K G H s ov) (e : root s = some a) : ov = some (.ref a) := by
  cases s with
  | no => cases e
  | d x => cases e
  | own b x => cases e; exact h.1
  | deep b x gs => cases e; exact h.1
theorem ads_none {s : Sl} (h : root s = none) : ads s = [] := by cases s <;> first | rfl | cases h
theorem root_any {s : Sl} {ov ov' : Option V} (h : SlR K G H s ov) (e : ov' = ov) : SlR K G H s ov' := by subst e; exact h
theorem par_sl : ∀ {as δ : List Sl} {vs : List V} {σ : St}, SlsR K G H as (vs.map some) → parOk as δ → SlsR K G' H' δ σ → Ex G G' → SlsR K G' H' (parBack as δ) (vs.map some)
  | [], δ, vs, σ, h, ok, h', e => by
    cases vs with
    | nil => cases δ <;> exact (rfl : ([] : St) = [])
    | cons v vs => have z : some v :: vs.map some = [] := h; cases z
  | s :: as, [], vs, σ, h, ok, h', e => by cases s <;> exact ok.elim
  | s :: as, t :: δ, vs, σ, h, ok, h', e => by
    obtain ⟨ov, σr, e1, h1, h2⟩ := h
    obtain ⟨ov', σr', e1', h1', h2'⟩ := h'
    obtain ⟨hr, ok⟩ := parOk_cons ok
    cases vs with
    | nil => cases e1
    | cons v vs =>
      cases e1
      rw [parBack_cons]
      refine ⟨some v, vs.map some, rfl, ?_, par_sl h2 ok h2' e⟩
      cases q : root s with
      | none => exact SlR.ex e (fun a ha => by rw [show (if (none : Option Addr).isSome = true then t else s) = s from rfl, ads_none q] at ha; cases ha) h1
      | some a =>
        rcases hr with z | z
        · rw [q] at z; cases z
        · rw [q] at z
          exact root_any h1' ((root_sl h1 q).trans (root_sl h1' z).symm)
theorem parBack_sub' : ∀ {as δ : List Sl}, parOk as δ → (owned (parBack as δ)).Sublist (owned (δ.take as.length))
  | [], δ, _ => by cases δ <;> exact List.nil_sublist _
  | s :: as, [], ok => by cases s <;> exact ok.elim
  | s :: as, t :: δ, ok => by
    obtain ⟨hr, ok⟩ := parOk_cons ok
    rw [parBack_cons]
    show List.Sublist _ (owned (t :: δ.take as.length))
    rw [owned_cons, owned_cons]
    refine List.Sublist.append ?_ (parBack_sub' ok)
    cases q : root s with
    | none => show List.Sublist (ads s) _; rw [ads_none q]; exact List.nil_sublist _
    | some a => exact List.Sublist.refl _
theorem owned_take (δ : List Sl) (n : Nat) : (owned (δ.take n)).Sublist (owned δ) := by
  have e : owned δ = owned (δ.take n) ++ owned (δ.drop n) := by rw [← owned_append, List.take_append_drop]
  rw [e]
  exact List.sublist_append_left _ _
theorem parBack_sub {as δ : List Sl} (ok : parOk as δ) : (owned (parBack as δ)).Sublist (owned δ) := (parBack_sub' ok).trans (owned_take δ _)
/-- an owned place beyond the parameters is none of theirs -/
theorem parBack_not {as δ : List Sl} {i : Nat} {b : Addr} {s : Sl} (nd : (owned δ).Nodup) (ok : parOk as δ) (hi : as.length ≤ i) (e : δ[i]? = some s) (hb : b ∈ ads s) : b ∉ owned (parBack as δ) := by
  intro z
  have z1 := (parBack_sub' ok).subset z
  have z2 : b ∈ owned (δ.drop as.length) := owned_getA (i := i - as.length) (by rw [List.getElem?_drop, show as.length + (i - as.length) = i by omega]; exact e) hb
  have e2 : owned δ = owned (δ.take as.length) ++ owned (δ.drop as.length) := by rw [← owned_append, List.take_append_drop]
  rw [e2] at nd
  exact (List.nodup_append.mp nd).2.2 b z1 b z2 rfl
/-- a slot's own, handed back: as a new one -/
theorem outR_rv {as δ : List Sl} {i : Nat} {a : Addr} {r : R} {v : V} (F : Frame K B G H σ δ) (ok : parOk as δ) (hi : as.length ≤ i) (h : outR δ i = some (a, r)) (hv : v = .ref a) : RV K B G H (parBack as δ) r v ∧ ownOut r := by
  unfold outR at h
  split at h
  · rename_i b x ex
    cases h
    obtain ⟨ov, _, _, h3⟩ := F.get ex
    have hm : a ∈ ads (.own a x) := List.mem_singleton.mpr rfl
    exact ⟨⟨hv, h3, (F.own a (owned_get ex)).1, (F.own a (owned_get ex)).2, parBack_not F.nd ok hi ex hm⟩, trivial⟩
  · rename_i b x gs ex
    cases h
    obtain ⟨ov, _, _, h3, h4⟩ := F.get ex
    refine ⟨⟨hv, h3, h4, fun b hb => ⟨(F.own b (owned_getA ex hb)).1, (F.own b (owned_getA ex hb)).2, parBack_not F.nd ok hi ex hb⟩, ?_⟩, trivial⟩
    obtain ⟨l1, l2, e⟩ := List.append_of_mem (List.mem_of_getElem? ex)
    have nd := F.nd
    rw [e, owned_append, owned_cons] at nd
    exact (List.nodup_append.mp (List.nodup_append.mp nd).2.1).1
  · cases h
/-- A DEF: its body from its parameters' words -/
theorem lift_body {S : SpD} {t : TS} {N : List Str} {vs : List V} {H : Hp} {Q : VK} {X : XK} (h : lift K S vs H Q X)
    (hb : ∀ as Φ, as.length = vs.length → S as Φ → WS (c0 K) t (as ++ List.replicate (N.length - as.length) .no) (defEn as Φ)) : t { nx := fun _ H' => Q .non H', rt := Q } (start N vs) H := by
  obtain ⟨B, G, as, F, hS⟩ := h
  have hl : as.length = vs.length := by have e := F.sl.len; simpa using e.symm
  have F0 : Frame K B G H (L2.start N vs) (as ++ List.replicate (N.length - as.length) .no) := by
    have e0 : owned (as ++ List.replicate (N.length - as.length) .no) = owned as := by rw [owned_append, owned_no, List.append_nil]
    refine ⟨F.exB, F.exG, F.dis, ?_, by rw [e0]; exact F.own, by rw [e0]; exact F.nd⟩
    unfold L2.start
    rw [hl]
    refine F.sl.append ?_
    have z := SlsR.nos (K := K) (G := G) (H := H) (List.replicate (N.length - vs.length) none)
    rw [List.length_replicate] at z
    exact z
  have fin : ∀ (δ' : List Sl) (σ' : St) (G' H' : Hp), parOk as δ' → Ex G G' → Frame K B G' H' σ' δ' → Frame K B G' H' (vs.map some) (parBack as δ') := fun δ' σ' G' H' ok e F' =>
    ⟨F'.exB, F'.exG, F'.dis, par_sl F.sl ok F'.sl e, fun a ha => F'.own a ((parBack_sub ok).subset ha), F'.nd.sublist (parBack_sub ok)⟩
  refine hb as _ hl hS B G H (L2.start N vs) _ F0 trivial ⟨fun δ' σ' G' H' w eG F' => ?_, fun r δ' v σ' G' H' w eG F' rv => ?_, fun _ _ _ _ w => w.elim, fun _ _ _ _ w => w.elim⟩
  · exact w.2 .non G' H' eG (fin δ' σ' G' H' w.1 eG F') (rep_non (K := K) (G := G'))
  · obtain ⟨ok, w⟩ := w
    cases r with
    | d x => exact w v G' H' eG (fin δ' σ' G' H' ok eG F') rv
    | own a x =>
      obtain ⟨e1, h1, h2, h3, h4⟩ := rv
      exact w v G' H' eG (fin δ' σ' G' H' ok eG F') ⟨e1, h1, h2, h3, fun z => h4 ((parBack_sub ok).subset z)⟩
    | deep a x gs =>
      obtain ⟨e1, h1, h2, h3, h4⟩ := rv
      exact w v G' H' eG (fin δ' σ' G' H' ok eG F') ⟨e1, h1, h2, fun b hb => ⟨(h3 b hb).1, (h3 b hb).2.1, fun z => (h3 b hb).2.2 ((parBack_sub ok).subset z)⟩, h4⟩
    | bor i a =>
      obtain ⟨hi, r', ex, w⟩ := w
      obtain ⟨e1, _⟩ := rv
      exact w v G' H' eG (fin δ' σ' G' H' ok eG F') (outR_rv F' ok hi ex e1).1
end
end
end DL

/-! DL3: loops and comprehensions. -/
namespace DL
open PySem PySem.Spec PyProof.Rows L2
open Evl (Ex)
section
variable {c : Cd} {p : Bool} {δ : List Sl} {te ta tb : TE} {E : En} {t u : TS} {tt : TT} {g : TG}
/-! ### what is walked -/
def Yl (K : PySem.W.Frag) (G : Hp) (ds : List D) (Y : Nat → Hp → V → Hp → Prop) : Prop := ∀ i H2 x H3, i < ds.length → Y i H2 x H3 →
  (H3 = H2 ∧ ∃ d, ds[i]? = some d ∧ Rep K G d x) ∨ ∃ (T : Addr) (o : HO) (d : D), H2 T = none ∧ H3 = upd H2 T o ∧ ds[i]? = some d ∧ ∀ G2, Ex G G2 → G2 T = none → Rep K (upd G2 T o) d x
def WI (c : Cd) (p : Bool) (wi : TI) (δ : List Sl) (Φ : List D → List Sl → Prop) : Prop :=
  ∀ (B G H : Hp) (σ : St) (R : It → Hp → Prop), Frame c.K B G H σ δ → c.xr B G →
    (∀ ds δ' J G' H', Φ ds δ' → Ex G G' → Frame c.K B G' H' σ δ' → (p = true → δ' = δ ∧ Ex H H') →
      (∃ Gd Y, Walk J ds.length Gd Y ∧ (∀ H2, Ex G' H2 → Gd H2) ∧ Yl c.K G' ds Y) → R J H') → wi σ H R
theorem sql {K : PySem.W.Frag} {H : Hp} {a : Addr} {xs : List V} (h : Rd H a (.lst xs)) : SqL K H a xs := Or.inl h
def rangeD (lo : Int) (n : Nat) : List D := (List.range n).map fun (i : Nat) => D.int (lo + (i : Int))
theorem rangeD_len (lo : Int) (n : Nat) : (rangeD lo n).length = n := by unfold rangeD; simp
theorem rangeD_get {lo : Int} {n i : Nat} {d : D} (h : (rangeD lo n)[i]? = some d) : i < n ∧ d = .int (lo + i) := by
  unfold rangeD at h
  rw [List.getElem?_map] at h
  by_cases hi : i < n
  · rw [List.getElem?_range hi] at h
    cases h
    exact ⟨hi, rfl⟩
  · rw [List.getElem?_eq_none (by simpa using hi)] at h
    cases h
theorem rangeD_at {lo : Int} {n i : Nat} (h : i < n) : (rangeD lo n)[i]? = some (.int (lo + i)) := by
  unfold rangeD
  rw [List.getElem?_map, List.getElem?_range h]
  rfl
theorem wi_range1 {tr : TA} {Φ : List D → List Sl → Prop} (h : WA c p tr δ fun rs δ1 => ∃ j : Int, rs = [.d (.int j)] ∧ -(2 ^ 62) ≤ j ∧ j < 2 ^ 62 ∧ Φ (rangeD 0 j.toNat) δ1) : WI c p (iRng1 tr) δ Φ := by
  intro B G H σ R F x k
  refine h B G H σ _ F x fun rs δ1 vs G1 H1 w e1 F1 rv p1 => ?_
  obtain ⟨j, e, h1, h2, w⟩ := w
  subst e
  obtain ⟨v, vr, e2, h3, h4⟩ := rv
  have e3 : vr = [] := h4
  have e4 : v = .int j := by have h3' : Rep c.K G1 (.int j) v := h3; unfold Rep at h3'; exact h3'
  subst e4
  subst e3
  subst e2
  refine ⟨j, rfl, h1, h2, k _ δ1 _ G1 H1 w e1 F1 p1 ⟨_, YFn fun q => .int (0 + (q : Int)), by rw [rangeD_len]; exact walk_range, fun _ _ => trivial, fun i2 H2 y H3 hi (yy : YFn (fun q => .int (0 + (q : Int))) i2 H2 y H3) => .inl ⟨yy.1, _, rangeD_at (by rw [rangeD_len] at hi; exact hi), ?_⟩⟩⟩
  rw [yy.2]
  exact rep_int
def signsD (z : Str) : List D := z.cps.toList.map fun ch => D.str ⟨#[ch]⟩
theorem yl_pair {K : PySem.W.Frag} {G : Hp} {f g : Nat → Option V} {ds : List D} (h : ∀ i x y, i < ds.length → f i = some x → g i = some y → ∃ d e, ds[i]? = some (.tup [d, e]) ∧ Rep K G d x ∧ Rep K G e y) : Yl K G ds (YPair f g) := by
  intro i H2 v H3 hi y
  obtain ⟨T, x, z, e1, h1, e2, e3, e4⟩ := y
  obtain ⟨d, e, h2, h3, h4⟩ := h i x z hi e3 e4
  refine .inr ⟨T, _, .tup [d, e], h1, e2, h2, fun G2 eG hT => ?_⟩
  rw [e1]
  exact rep_newT hT (reps_cons (h3.mono eG) (reps_one (h4.mono eG)))
def enumD (ds : List D) : List D := (List.range ds.length).map fun (i : Nat) => D.tup [.int (i : Int), ds.getD i .non]
theorem wi_enum {tr : TA} {Φ : List D → List Sl → Prop} (h : WA c p tr δ fun rs δ1 => ∃ ds, rs = [.d (.lst ds)] ∧ Φ (enumD ds) δ1) : WI c p (iEnum c.K tr) δ Φ := by
  intro B G H σ R F x k
  refine h B G H σ _ F x fun rs δ1 vs G1 H1 w e1 F1 rv p1 => ?_
  obtain ⟨ds, e, w⟩ := w
  subst e
  obtain ⟨v, vr, e2, h3, h4⟩ := rv
  have e3 : vr = [] := h4
  have h3' : Rep c.K G1 (.lst ds) v := h3
  unfold Rep at h3'
  obtain ⟨a, xs, e4, h5, h6⟩ := h3'
  subst e4 e3 e2
  have el : (enumD ds).length = xs.length := by unfold enumD; simp [reps_length h6]
  refine ⟨a, xs, rfl, .inl (Rd.of (F1.exG _ _ h5)), k _ δ1 _ G1 H1 w e1 F1 p1 ⟨_, _, by rw [el]; exact walk_enum, fun H2 e => sql (Rd.of (e _ _ h5)), yl_pair fun i x y hi hx hy => ?_⟩⟩
  cases hx
  obtain ⟨d, hd, hr⟩ := reps_getV h6 hy
  have hi2 : i < ds.length := (List.getElem?_eq_some_iff.mp hd).1
  refine ⟨.int i, d, ?_, rep_int, hr⟩
  unfold enumD
  rw [List.getElem?_map, List.getElem?_range hi2]
  show some (D.tup [.int (i : Int), ds.getD i .non]) = _
  rw [List.getD_eq_getElem?_getD, hd]
  rfl
def zipD (ds es : List D) : List D := (ds.zip es).map fun q => D.tup [q.1, q.2]
/-! ### loops -/
theorem ws_for {wi : TI} (h : WI c p wi δ fun ds δ1 => ∃ I : Nat → List Sl → Prop, I 0 δ1 ∧
    (∀ i d δ2, ds[i]? = some d → I i δ2 → WG c g (.d d) δ2 fun δ3 => WS c t δ3 { E with nx := I (i + 1), ct := I (i + 1), bk := E.nx }) ∧ ∀ δ2, I ds.length δ2 → E.nx δ2) : WS c (tFor wi g t) δ E := by
  intro B G H σ Dd F x e
  refine h B G H σ _ F x fun ds δ1 J G1 H1 w e1 F1 p1 ww => ?_
  obtain ⟨I, i0, it, iend⟩ := w
  obtain ⟨Gd, Y, W, hG, hY⟩ := ww
  refine for_it W (fun i σ' H' => ∃ δ' G', I i δ' ∧ Ex G1 G' ∧ Frame c.K B G' H' σ' δ') ⟨δ1, G1, i0, Ex.refl G1, F1⟩ (fun i σ' H' _ ⟨δ', G', _, e2, F2⟩ => hG H' (e2.trans F2.exG)) (fun i y σ' H2 H3 hi pv yy => ?_) fun σ' H' ⟨δ', G', hI, e2, F2⟩ => e.nx δ' σ' G' H' (iend δ' hI) (e1.trans e2) F2
  obtain ⟨δ', G', hI, e2, F2⟩ := pv
  have go : ∀ (d : D) (G2 H2 : Hp), ds[i]? = some d → Ex G1 G2 → Frame c.K B G2 H2 σ' δ' → Rep c.K G2 d y → g y σ' H2 fun σ2 H2 => t { Dd with nx := fun σ' H' => ∃ δ' G', I (i + 1) δ' ∧ Ex G1 G' ∧ Frame c.K B G' H' σ' δ', ct := fun σ' H' => ∃ δ' G', I (i + 1) δ' ∧ Ex G1 G' ∧ Frame c.K B G' H' σ' δ', bk := Dd.nx } σ2 H2 := by
    intro d G2 H2 hd e3 F3 hr
    refine it i d δ' hd hI B G2 H2 σ' y _ F3 (c.mono _ _ _ (e1.trans e3) x) hr fun δ3 σ3 G3 H3 hws e4 F4 => ?_
    have e5 := e3.trans e4
    refine hws B G3 H3 σ3 _ F4 (c.mono _ _ _ (e1.trans e5) x) ⟨fun δ4 σ4 G4 H4 w e6 F5 => ⟨δ4, G4, w, e5.trans e6, F5⟩, fun r δ4 v σ4 G4 H4 w e6 F5 => e.rt r δ4 v σ4 G4 H4 w (e1.trans (e5.trans e6)) F5, fun δ4 σ4 G4 H4 w e6 F5 => e.nx δ4 σ4 G4 H4 w (e1.trans (e5.trans e6)) F5, fun δ4 σ4 G4 H4 w e6 F5 => ⟨δ4, G4, w, e5.trans e6, F5⟩⟩
  rcases hY i H2 y H3 hi yy with ⟨q1, d, hd, hr⟩ | ⟨T, o, d, hT, q1, hd, hr⟩
  · subst q1
    exact go d G' H3 hd e2 F2 (hr.mono e2)
  · subst q1
    have hT' := (F2.fresh hT).2.1
    exact go d (upd G' T o) _ hd (e2.trans (Ex.new hT')) (F2.laid hT) (hr G' e2 hT')
theorem ws_while {I : Nat → List Sl → Prop} (n : Nat) (h0 : I n δ) (hs : ∀ m δ', I m δ' → WT c p tt δ' fun b δ2 => (b = true → WS c t δ2 { E with nx := fun δ3 => ∃ m', m' < m ∧ I m' δ3, ct := fun δ3 => ∃ m', m' < m ∧ I m' δ3, bk := E.nx }) ∧ (b = false → E.nx δ2)) : WS c (tWhile tt t) δ E := by
  intro B G H σ Dd F x e
  refine ⟨fun m σ' H' => ∃ δ' G', I m δ' ∧ Ex G G' ∧ Frame c.K B G' H' σ' δ', ⟨n, δ, G, h0, Ex.refl G, F⟩, fun m σ1 H1 w => ?_⟩
  obtain ⟨δ1, G1, hI, e1, F1⟩ := w
  refine hs m δ1 hI B G1 H1 σ1 _ F1 (c.mono _ _ _ e1 x) fun b δ2 G2 H2 w e2 F2 p2 => ?_
  have e3 := e1.trans e2
  cases b with
  | true =>
    rw [if_pos rfl]
    refine ⟨fun σ' H' => ∃ m', m' < m ∧ ∃ δ' G', I m' δ' ∧ Ex G G' ∧ Frame c.K B G' H' σ' δ', fun σ' H' z => z, ?_⟩
    exact w.1 rfl B G2 H2 σ1 _ F2 (c.mono _ _ _ e3 x) ⟨fun δ4 σ4 G4 H4 ⟨m', hm, w⟩ e6 F5 => ⟨m', hm, δ4, G4, w, e3.trans e6, F5⟩, fun r δ4 v σ4 G4 H4 w e6 F5 => e.rt r δ4 v σ4 G4 H4 w (e3.trans e6) F5, fun δ4 σ4 G4 H4 w e6 F5 => e.nx δ4 σ4 G4 H4 w (e3.trans e6) F5, fun δ4 σ4 G4 H4 ⟨m', hm, w⟩ e6 F5 => ⟨m', hm, δ4, G4, w, e3.trans e6, F5⟩⟩
  | false =>
    rw [if_neg Bool.false_ne_true]
    exact e.nx δ2 σ1 G2 H2 (w.2 rfl) e3 F2
/-! ### comprehensions -/
theorem wipe_get {σ : St} {j : Nat} : ∀ {vs : List Nat}, (wipe σ vs)[j]? = if j ∈ vs ∧ j < σ.length then some none else σ[j]?
  | [] => by simp [wipe]
  | v :: vs => by
    have ih := wipe_get (σ := σ) (j := j) (vs := vs)
    show ((wipe σ vs).set v none)[j]? = _
    rw [List.getElem?_set]
    by_cases e : v = j
    · subst e
      rw [if_pos rfl, wipe_length]
      by_cases hl : v < σ.length
      · rw [if_pos hl, if_pos ⟨List.mem_cons_self, hl⟩]
      · rw [if_neg hl, if_neg (fun z => hl z.2), List.getElem?_eq_none (by omega)]
    · rw [if_neg e, ih]
      have hne : (j ∈ v :: vs) ↔ j ∈ vs := by simp [Ne.symm e]
      simp only [hne]
theorem wipe_wipe (σ : St) (vs : List Nat) : wipe (wipe σ vs) vs = wipe σ vs := by
  apply List.ext_getElem?
  intro j
  rw [wipe_get, wipe_get, wipe_length]
  by_cases h : j ∈ vs ∧ j < σ.length
  · rw [if_pos h, if_pos h]
  · rw [if_neg h]
theorem wipe_set {σ : St} {vs : List Nat} {j : Nat} {x : Option V} (h : j ∈ vs) : wipe (σ.set j x) vs = wipe σ vs := by
  apply List.ext_getElem?
  intro i
  rw [wipe_get, wipe_get, List.length_set]
  by_cases q : i ∈ vs ∧ i < σ.length
  · rw [if_pos q, if_pos q]
  · rw [if_neg q, if_neg q, List.getElem?_set]
    by_cases e : j = i
    · subst e
      have hl : ¬ j < σ.length := fun z => q ⟨h, z⟩
      rw [if_pos rfl, if_neg hl, List.getElem?_eq_none (by omega)]
    · rw [if_neg e]
def wipeS (δ : List Sl) : List Nat → List Sl
  | [] => δ
  | v :: vs => (wipeS δ vs).set v .no
def restS (δ ε : List Sl) : List Nat → List Sl
  | [] => ε
  | v :: vs => match δ[v]? with
    | some s => (restS δ (ε.set v .no) vs).set v s
    | none => restS δ (ε.set v .no) vs
def nonOwn (δ : List Sl) : List Nat → Prop
  | [] => True
  | v :: vs => (match δ[v]? with
    | some (.own _ _) => False
    | some (.deep _ _ _) => False
    | _ => True) ∧ nonOwn δ vs
theorem nonOwn_ads {δ : List Sl} {v : Nat} {vs : List Nat} {s : Sl} (n : nonOwn δ (v :: vs)) (e : δ[v]? = some s) : ads s = [] := by
  have n1 := n.1
  rw [e] at n1
  cases s <;> first | rfl | exact n1.elim
section
variable {K : PySem.W.Frag} {B G G' H H' : Hp} {σ : St}
theorem wipeS_sub : ∀ vs : List Nat, (owned (wipeS δ vs)).Sublist (owned δ)
  | [] => List.Sublist.refl _
  | v :: vs => (owned_set_no rfl).trans (wipeS_sub vs)
theorem wipeS_sl (h : SlsR K G H δ σ) : ∀ vs : List Nat, SlsR K G H (wipeS δ vs) (wipe σ vs)
  | [] => h
  | v :: vs => (wipeS_sl h vs).set v trivial
theorem frame_wipe (F : Frame K B G H σ δ) (vs : List Nat) : Frame K B G H (wipe σ vs) (wipeS δ vs) :=
  ⟨F.exB, F.exG, F.dis, wipeS_sl F.sl vs, fun a ha => F.own a ((wipeS_sub vs).subset ha), F.nd.sublist (wipeS_sub vs)⟩
theorem sl_any : ∀ {ε : List Sl} {σ : St} {v : Nat} {ov : Option V}, SlsR K G H ε (σ.set v ov) → SlsR K G H (ε.set v .no) σ
  | ε, [], v, ov, h => by
    have h' : SlsR K G H ε [] := h
    cases ε with
    | nil => exact h'
    | cons s ε => obtain ⟨_, _, e, _⟩ := h'; cases e
  | [], w :: σ, v, ov, h => by
    have e : (w :: σ).set v ov = [] := h
    cases v <;> cases e
  | s :: ε, w :: σ, 0, ov, h => by
    obtain ⟨ow, σr, e, h1, h2⟩ := h
    cases e
    exact ⟨w, σ, rfl, trivial, h2⟩
  | s :: ε, w :: σ, v + 1, ov, h => by
    obtain ⟨ow, σr, e, h1, h2⟩ := h
    cases e
    exact ⟨w, σ, rfl, h1, sl_any h2⟩
theorem restS_sl (h : SlsR K G H δ σ) (eG : Ex G G') : ∀ {vs : List Nat} {ε : List Sl}, nonOwn δ vs → SlsR K G' H' ε (wipe σ vs) → SlsR K G' H' (restS δ ε vs) σ
  | [], ε, _, h' => h'
  | v :: vs, ε, n, h' => by
    have h1 : SlsR K G' H' (ε.set v .no) (wipe σ vs) := sl_any (ov := none) h'
    have ih := restS_sl h eG n.2 h1
    unfold restS
    cases e : δ[v]? with
    | none => exact ih
    | some s =>
      refine ih.setS (ov := none) v fun ov eo => ?_
      obtain ⟨ov', e1, h2⟩ := h.get e
      rw [eo] at e1
      cases e1
      have n1 := nonOwn_ads n e
      exact h2.ex eG (fun a z => by rw [n1] at z; cases z)
theorem restS_sub : ∀ {vs : List Nat} {ε : List Sl}, nonOwn δ vs → (owned (restS δ ε vs)).Sublist (owned ε)
  | [], ε, _ => List.Sublist.refl _
  | v :: vs, ε, n => by
    have ih := (restS_sub (vs := vs) (ε := ε.set v .no) n.2).trans (owned_set_no rfl)
    unfold restS
    cases e : δ[v]? with
    | none => exact ih
    | some s =>
      exact (owned_set_no (nonOwn_ads n e)).trans ih
end
theorem owned_set_non : ∀ {δ : List Sl} {v : Nat}, (∀ s, δ[v]? = some s → ads s = []) → owned (δ.set v .no) = owned δ
  | [], v, _ => rfl
  | s :: δ, 0, h => by
    show owned (.no :: δ) = _
    rw [owned_cons, owned_cons, h s rfl]
    rfl
  | s :: δ, v + 1, h => by
    show owned (s :: δ.set v .no) = _
    rw [owned_cons, owned_cons, owned_set_non (δ := δ) (v := v) (fun t e => h t (by simpa using e))]
theorem wipeS_get {δ : List Sl} {j : Nat} : ∀ {vs : List Nat}, (wipeS δ vs)[j]? = some .no ∨ (wipeS δ vs)[j]? = δ[j]?
  | [] => .inr rfl
  | v :: vs => by
    show ((wipeS δ vs).set v .no)[j]? = some .no ∨ ((wipeS δ vs).set v .no)[j]? = δ[j]?
    have ih := wipeS_get (δ := δ) (j := j) (vs := vs)
    by_cases e : v = j
    · subst e
      by_cases hl : v < (wipeS δ vs).length
      · exact .inl (List.getElem?_set_self hl)
      · rw [List.set_eq_of_length_le (by omega)]
        exact ih
    · rw [List.getElem?_set_ne e]
      exact ih
theorem wipeS_own {δ : List Sl} : ∀ {vs : List Nat}, nonOwn δ vs → owned (wipeS δ vs) = owned δ
  | [], _ => rfl
  | v :: vs, n => by
    have ih := wipeS_own (vs := vs) n.2
    show owned ((wipeS δ vs).set v .no) = owned δ
    rw [owned_set_non, ih]
    intro s e
    rcases wipeS_get (δ := δ) (j := v) (vs := vs) with q | q
    · rw [q] at e; cases e; rfl
    · rw [q] at e
      exact nonOwn_ads n e
/-- a comprehension's target -/
def WGc (g : TG) (K : PySem.W.Frag) (d : D) (ε : List Sl) (vs : List Nat) (Φ : List Sl → Prop) : Prop :=
  ∀ (B G H : Hp) (σ : St) (v : V) (Q : St → Hp → Prop), Frame K B G H σ ε → Rep K G d v → (∀ ε' σ', Φ ε' → owned ε' = owned ε → Frame K B G H σ' ε' → wipe σ' vs = wipe σ vs → Q σ' H) → g v σ H Q
theorem owned_set_d {ε : List Sl} {j : Nat} {d : D} (h : ε[j]? = some .no) : owned (ε.set j (.d d)) = owned ε := owned_set_sameA h rfl
theorem wgc_name {K : PySem.W.Frag} {d : D} {ε : List Sl} {vs : List Nat} {j : Nat} {Φ : List Sl → Prop} (hj : j ∈ vs) (hε : ε[j]? = some .no) (h : Φ (ε.set j (.d d))) : WGc (gName j) K d ε vs Φ := fun B G H σ v Q F r k =>
  k _ _ h (owned_set_d hε) (frame_set (r := .d d) F r rfl) (wipe_set hj)
def WGcs (g : TGs) (K : PySem.W.Frag) (ds : List D) (ε : List Sl) (vs : List Nat) (Φ : List Sl → Prop) : Prop :=
  ∀ (B G H : Hp) (σ : St) (v : List V) (Q : St → Hp → Prop), Frame K B G H σ ε → Reps K G ds v → (∀ ε' σ', Φ ε' → owned ε' = owned ε → Frame K B G H σ' ε' → wipe σ' vs = wipe σ vs → Q σ' H) → g v σ H Q
theorem wgcs_nil {K : PySem.W.Frag} {ε : List Sl} {vs : List Nat} {Φ : List Sl → Prop} (h : Φ ε) : WGcs gNil K [] ε vs Φ := fun B G H σ v Q F r k => by
  unfold Reps at r
  exact ⟨r, k ε σ h rfl F rfl⟩
theorem wgcs_cons {gs : TGs} {K : PySem.W.Frag} {d : D} {ds : List D} {ε : List Sl} {vs : List Nat} {Φ : List Sl → Prop} (h : WGc g K d ε vs fun ε1 => WGcs gs K ds ε1 vs Φ) : WGcs (gCons g gs) K (d :: ds) ε vs Φ := fun B G H σ v Q F r k => by
  unfold Reps at r
  obtain ⟨v1, vr, e, h1, h2⟩ := r
  refine ⟨v1, vr, e, h B G H σ v1 _ F h1 fun ε1 σ1 w o1 F1 e1 => ?_⟩
  exact w B G H σ1 vr Q F1 h2 fun ε2 σ2 w2 o2 F2 e2 => k ε2 σ2 w2 (o2.trans o1) F2 (e2.trans e1)
theorem wgc_tup {gs : TGs} {K : PySem.W.Frag} {n : Nat} {ds : List D} {ε : List Sl} {vs : List Nat} {Φ : List Sl → Prop} (hn : ds.length = n) (h : WGcs gs K ds ε vs Φ) : WGc (gTup K n gs) K (.tup ds) ε vs Φ := fun B G H σ v Q F r k => by
  have r' : Rep K G (.tup ds) v := r
  unfold Rep at r'
  obtain ⟨a, ys, e, h1, h2⟩ := r'
  exact ⟨a, ys, e, SqT.of (F.exG _ _ h1), (reps_length h2).trans hn, h B G H σ ys Q F h2 k⟩
theorem take_get {α : Type} {ds : List α} {i : Nat} {d : α} (h : ds[i]? = some d) : ds.take (i + 1) = ds.take i ++ [d] := by
  rw [List.take_add_one, h]
  rfl
/-- a pure comprehension -/
theorem we_lcP {wi : TI} {vs : List Nat} {Φ : R → List Sl → Prop} (h : WI c p wi δ fun ds δ1 => nonOwn δ1 vs ∧ ds.length ≤ 100000 ∧ ∃ kf : DL.D → Option DL.D,
    (∀ (i : Nat) (d : DL.D), ds[i]? = some d → WGc g c.K d (wipeS δ1 vs) vs fun ε1 => WT (c0 c.K) true tt ε1 fun b ε2 => (b = true → WE (c0 c.K) true te ε2 fun r _ => ∃ x, frz r = .d x ∧ kf d = some x) ∧ (b = false → kf d = none)) ∧
    ∀ a, Φ (.own a (.lst (ds.filterMap kf))) δ1) : WE c p (tLc wi g tt te vs) δ Φ := by
  intro B G H σ Q F x k
  refine h B G H σ _ F x fun ds δ1 J G1 H1 w e1 F1 p1 ww => ?_
  obtain ⟨hno, hlen, kf, step, w⟩ := w
  obtain ⟨Gd, Y, W, hG, hY⟩ := ww
  intro D hD
  obtain ⟨hB, hG1, hO⟩ := F1.fresh hD
  refine lc_it W (fun i H' => ∃ G' xs, Ex G1 G' ∧ Ex H1 H' ∧ Frame c.K B G' H' σ δ1 ∧ H' D = some (.lst xs) ∧ Reps c.K G' ((ds.take i).filterMap kf) xs ∧ G' D = none) ⟨G1, [], Ex.refl G1, Ex.new hD, F1.ex (Ex.new hD), upd_same, by simpa using reps_nil, hG1⟩
    (fun i H' _ ⟨G', xs, e2, _, F2, _⟩ => hG H' (e2.trans F2.exG)) (fun i y H2 H3 hi pv yy => ?_) fun H' pv => ?_
  · obtain ⟨G', xs, e2, eH, F2, hx, hr, hGD⟩ := pv
    have hOD : ∀ a ∈ owned δ1, a ≠ D := fun a ha z => hO (by rw [← z]; exact ha)
    have go : ∀ (d : DL.D) (G2 H2 : Hp), ds[i]? = some d → Ex G1 G2 → Ex H1 H2 → Frame c.K B G2 H2 σ δ1 → H2 D = some (.lst xs) → Reps c.K G2 ((ds.take i).filterMap kf) xs → G2 D = none → Rep c.K G2 d y → g y (wipe σ vs) H2 fun σ2 H2 => wipe σ2 vs = wipe σ vs ∧ tt σ2 H2 fun b H3 =>
        if b = true then te σ2 H3 fun y H4 => ∃ acc, H4 D = some (.lst acc) ∧ acc.length < sizeLine ∧ ∃ G' xs, Ex G1 G' ∧ Ex H1 (upd H4 D (.lst (acc ++ [y]))) ∧ Frame c.K B G' (upd H4 D (.lst (acc ++ [y]))) σ δ1 ∧ (upd H4 D (.lst (acc ++ [y]))) D = some (.lst xs) ∧ Reps c.K G' ((ds.take (i + 1)).filterMap kf) xs ∧ G' D = none
        else ∃ G' xs, Ex G1 G' ∧ Ex H1 H3 ∧ Frame c.K B G' H3 σ δ1 ∧ H3 D = some (.lst xs) ∧ Reps c.K G' ((ds.take (i + 1)).filterMap kf) xs ∧ G' D = none := by
      intro d G2 H2 hd e3 eH3 F3 hx3 hr3 hGD3 hrep
      have Fb : Frame c.K (upd B D (.lst xs)) G2 H2 (wipe σ vs) (wipeS δ1 vs) := by
        have Fw := frame_wipe F3 vs
        refine ⟨fun b o e => ?_, Fw.exG, fun b => ?_, Fw.sl, fun a ha => ⟨?_, (Fw.own a ha).2⟩, Fw.nd⟩
        · by_cases q : b = D
          · subst q; rw [upd_same] at e; rw [hx3]; exact e
          · rw [upd_ne q] at e; exact Fw.exB b o e
        · by_cases q : b = D
          · subst q; exact .inr (.inl hGD3)
          · rw [upd_ne q]; exact Fw.dis b
        · rw [upd_ne (hOD a ((wipeS_sub vs).subset ha))]
          exact (Fw.own a ha).1
      refine step i d hd _ G2 H2 (wipe σ vs) y _ Fb hrep fun ε1 σ1 hw og Fg ew => ⟨ew.trans (wipe_wipe σ vs), ?_⟩
      refine hw _ G2 H2 σ1 _ Fg trivial fun b ε2 G4 H4 w4 e4 F4 p4 => ?_
      obtain ⟨_, eH4⟩ := p4 rfl
      have hx4 := eH4 D _ hx3
      have dis4 : G4 D = none := F4.disN upd_same (fun _ z => nomatch z)
      have F4' : Frame c.K B G4 H4 σ δ1 := by
        refine (F3.ex eH4).more e4 F4.exG (fun b => ?_) fun a ha => ?_
        · by_cases q : b = D
          · subst q; exact .inr (.inl dis4)
          · have z := F4.dis b; rw [upd_ne q] at z; exact z
        · have own4 : owned ε2 = owned δ1 := by
            rw [(p4 rfl).1, og, wipeS_own hno]
          exact (F4.own a (by rw [own4]; exact ha)).2
      cases b with
      | false =>
        rw [if_neg Bool.false_ne_true]
        refine ⟨G4, xs, e3.trans e4, eH3.trans eH4, F4', hx4, ?_, dis4⟩
        rw [take_get hd, List.filterMap_append]
        have e0 : [d].filterMap kf = [] := by simp [w4.2 rfl]
        rw [e0, List.append_nil]
        exact hr3.mono e4
      | true =>
        rw [if_pos rfl]
        refine w4.1 rfl _ G4 H4 σ1 _ F4 trivial fun r ε5 v5 G5 H5 w5 e5 F5 rv5 p5 => ?_
        obtain ⟨eε5, eH5⟩ := p5 rfl
        obtain ⟨z, hz, hkf⟩ := w5
        have hx5 := eH5 D _ hx4
        have dis5 : G5 D = none := F5.disN upd_same (fun _ z => nomatch z)
        have own5 : ∀ a ∈ owned δ1, G5 a = none := fun a ha => (F5.own a (by rw [eε5, (p4 rfl).1, og, wipeS_own hno]; exact ha)).2
        have F5' : Frame c.K B G5 H5 σ δ1 := (F4'.ex eH5).more e5 F5.exG (fun b => by
          by_cases q : b = D
          · subst q; exact .inr (.inl dis5)
          · have z := F5.dis b; rw [upd_ne q] at z; exact z) own5
        have rep5 : ∃ G6, Ex G5 G6 ∧ Frame c.K B G6 H5 σ δ1 ∧ Rep c.K G6 z v5 ∧ G6 D = none := by
          cases r with
          | d y =>
            cases hz
            exact ⟨G5, Ex.refl G5, F5', rv5, dis5⟩
          | bor i a => cases hz
          | deep a y gs => cases hz
          | own a y =>
            cases hz
            obtain ⟨q1, q2, q3, q4, q5⟩ := rv5
            subst q1
            obtain ⟨o, ho⟩ := q2.there
            have haD : a ≠ D := fun q => by subst q; rw [upd_same] at q3; cases q3
            rw [upd_ne haD] at q3
            have hao : a ∉ owned δ1 := fun q => q5 (by rw [eε5, (p4 rfl).1, og, wipeS_own hno]; exact q)
            exact ⟨upd G5 a o, Ex.new q4, F5'.freeze ho q3 q4 hao, q2.rep ho q4, by rw [upd_ne haD.symm]; exact dis5⟩
        obtain ⟨G6, e6, F6, hr6, dis6⟩ := rep5
        have hlx : xs.length ≤ 100000 := by
          rw [reps_length hr3]
          exact Nat.le_trans (List.length_filterMap_le _ _) (by rw [List.length_take]; omega)
        have hout : Ex H1 (upd H5 D (.lst (xs ++ [v5]))) := Ex.mut ((eH3.trans eH4).trans eH5) hD
        refine ⟨xs, hx5, Nat.lt_of_le_of_lt hlx (by rw [sizeLine_eq]; decide), G6, xs ++ [v5], (e3.trans e4).trans (e5.trans e6), hout, ?_, upd_same, ?_, dis6⟩
        · -- D is foreign to the frame
          have mv : ∀ {G : Hp}, Frame c.K B G H5 σ δ1 → G D = none → Frame c.K B G (upd H5 D (.lst (xs ++ [v5]))) σ δ1 := fun {G} F hG => by
            refine ⟨fun b o e => ?_, fun b o e => ?_, F.dis, F.sl.ex (Ex.refl G) (fun a ha => upd_ne (hOD a ha)), F.own, F.nd⟩
            · by_cases q : b = D
              · subst q; rw [hB] at e; cases e
              · rw [upd_ne q]; exact F.exB b o e
            · by_cases q : b = D
              · subst q; rw [hG] at e; cases e
              · rw [upd_ne q]; exact F.exG b o e
          exact mv F6 dis6
        · rw [take_get hd, List.filterMap_append]
          have e0 : [d].filterMap kf = [z] := by simp [hkf]
          rw [e0]
          exact reps_append (hr3.mono ((e4.trans e5).trans e6)) (reps_one hr6)
    rcases hY i H2 y H3 hi yy with ⟨q1, d, hd, hrep⟩ | ⟨T, o, d, hT, q1, hd, hrep⟩
    · subst q1
      exact go d G' H3 hd e2 eH F2 hx hr hGD (hrep.mono e2)
    · subst q1
      have hT' := (F2.fresh hT).2.1
      have hTD : D ≠ T := fun q => by subst q; rw [hx] at hT; cases hT
      exact go d (upd G' T o) _ hd (e2.trans (Ex.new hT')) (eH.trans (Ex.new hT)) (F2.laid hT) (by rw [upd_ne hTD]; exact hx) (hr.mono (Ex.new hT')) (by rw [upd_ne hTD]; exact hGD) (hrep G' e2 hT')
  · obtain ⟨G', xs, e2, eH, F2, hx, hr, hGD⟩ := pv
    rw [List.take_length] at hr
    exact k _ δ1 _ G' H' (w D) (e1.trans e2) F2 ⟨rfl, ⟨xs, hx, hr⟩, hB, hGD, hO⟩ fun hp => ⟨(p1 hp).1, (p1 hp).2.trans eH⟩
end
end DL

/-! DL4: operators, built-ins and methods, by data. -/
namespace DL
open PySem PySem.Spec PyProof.Rows L2
open Evl (Ex)
section
variable {X : Cx}
/-- list + list, whatever is read -/
def rCatR : R2 := fun x y H Q => ∃ l b xs zs, x = .ref l ∧ y = .ref b ∧ Rd H l (.lst xs) ∧ Rd H b (.lst zs) ∧ xs.length + zs.length ≤ sizeLine ∧ ∀ p, H p = none → Q (.ref p) (upd H p (.lst (xs ++ zs)))
theorem op_catR : OpR X (binaryOp .Add) rCatR := by
  intro pins s σ H x y v u Q I rx ry h
  obtain ⟨l, b, xs, zs, rfl, rfl, hH, hB, hz, q⟩ := h
  cases rx
  cases ry
  obtain ⟨z, its, n, r, e⟩ := (hH.ok I.hok : ObjOk X.prog X.w H s.heap l (.lst xs))
  obtain ⟨z2, its2, n2, r2, e2⟩ := (hB.ok I.hok : ObjOk X.prog X.w H s.heap b (.lst zs))
  have hl := r.length
  have hl2 := r2.length
  refine PySem.P.add_list e e2 ?_ (by rw [List.size_toArray, List.size_toArray]; omega)
  have ea : its.toArray ++ its2.toArray = (its ++ its2).toArray := by simp
  rw [ea]
  exact ⟨.ref _, _, I.lnew (t' := s.toks) (r.append r2) (by rw [List.length_append]; omega), rfl, q _ I.fresh⟩
def rAddS : R2 := fun x y H Q => ∃ i j, x = .str i ∧ y = .str j ∧ i.length + j.length ≤ sizeLine ∧ Q (.str (i ++ j)) H
def rAddA : R2 := fun x y H Q => rI0 (fun i j => .int (i + j)) x y H Q ∨ rAddS x y H Q ∨ rCatR x y H Q
theorem op_addA : OpR X (binaryOp .Add) rAddA := op_add.or (OpR.or op_add_str op_catR)
def rMulA : R2 := fun x y H Q => rI CMul (fun i j => .int (i * j)) x y H Q ∨ rI CMulX (fun i j => .int (i * j)) x y H Q
theorem op_mulA : OpR X (binaryOp .Mult) rMulA := op_mul.or op_mulX
def rEqA (K : PySem.W.Frag) : R2 := fun x y H Q => rEq x y H Q ∨ rEqD K x y H Q
def rNeA (K : PySem.W.Frag) : R2 := fun x y H Q => rNe x y H Q ∨ rNeD K x y H Q
theorem op_eqA (hu : X.A.units + 64 < cLine) : OpR X (compareOp .Eq) (rEqA X.K) := op_eq.or (op_eqD hu)
theorem op_neA (hu : X.A.units + 64 < cLine) : OpR X (compareOp .NotEq) (rNeA X.K) := op_ne.or (op_neD hu)
def rInS : R2 := fun x y H Q => ∃ (c : Nat) (z : Str), x = .str ⟨#[c]⟩ ∧ y = .str z ∧ Q (.bl (decide (c ∈ z.cps.toList))) H
def rNotInS : R2 := fun x y H Q => ∃ (c : Nat) (z : Str), x = .str ⟨#[c]⟩ ∧ y = .str z ∧ Q (.bl (!decide (c ∈ z.cps.toList))) H
def rInA (K : PySem.W.Frag) : R2 := fun x y H Q => rInS x y H Q ∨ rIn K false x y H Q
def rNotInA (K : PySem.W.Frag) : R2 := fun x y H Q => rNotInS x y H Q ∨ rIn K true x y H Q
theorem op_inA : OpR X (compareOp .In) (rInA X.K) := op_in_sign.or op_in_seq
theorem op_notInA : OpR X (compareOp .NotIn) (rNotInA X.K) := op_notIn_sign.or op_notIn_seq
end
section
variable {c : Cd}
/-- + -/
def dAdd : Dop
  | .int i, .int j, k => k (.d (.int (i + j)))
  | .str x, .str y, k => x.length + y.length ≤ 16000000 ∧ k (.d (.str (x ++ y)))
  | .lst xs, .lst ys, k => xs.length + ys.length ≤ 100000 ∧ ∀ a, k (.own a (.lst (xs ++ ys)))
  | _, _, _ => False
theorem opd_add : OpD c rAddA dAdd := by
  intro B G H σ δ r1 r2 v1 v2 x y Ψ Q F h1 h2 e1 e2 hf k
  cases x with
  | int i =>
    cases y with
    | int j =>
      have q1 := view_repH F h1 e1
      have q2 := view_repH F h2 e2
      unfold Rep at q1 q2
      exact .inl ⟨i, j, q1, q2, k (.d (.int (i + j))) _ G H hf (Ex.refl G) (Ex.refl H) F (rep_int (K := c.K) (G := G))⟩
    | _ => exact hf.elim
  | str i =>
    cases y with
    | str j =>
      have q1 := view_repH F h1 e1
      have q2 := view_repH F h2 e2
      unfold Rep at q1 q2
      exact .inr (.inl ⟨i, j, q1, q2, size16 hf.1, k (.d (.str (i ++ j))) _ G H hf.2 (Ex.refl G) (Ex.refl H) F (rep_str (K := c.K) (G := G))⟩)
    | _ => exact hf.elim
  | lst xs =>
    cases y with
    | lst ys =>
      obtain ⟨a, vs, q1, q2, q3⟩ := view_lst F h1 e1
      obtain ⟨b, ws, q4, q5, q6⟩ := view_lst F h2 e2
      refine .inr (.inr ⟨a, b, vs, ws, q1, q4, q2, q5, ?_, fun q hq => ?_⟩)
      · rw [reps_length q3, reps_length q6]
        exact Evl.sz_of hf.1
      · exact k _ _ G _ (hf.2 q) (Ex.refl G) (Ex.new hq) (F.ex (Ex.new hq)) (rv_newL F hq (reps_append q3 q6))
    | _ => exact hf.elim
  | _ => exact hf.elim
theorem opd_sub : OpD c (rI0 fun i j => .int (i - j)) (dInt0 fun i j => .int (i - j)) := opd_I0 fun G i j => rep_int
theorem opd_fdiv : OpD c (rI CDivW fun i j => .int (i / j)) (dInt CDivW fun i j => .int (i / j)) := opd_I fun G i j => rep_int
theorem opd_mod : OpD c (rI (fun _ j => 0 < j) fun i j => .int (i % j)) (dInt (fun _ j => 0 < j) fun i j => .int (i % j)) := opd_I fun G i j => rep_int
theorem opd_pow : OpD c (rI CPow fun i j => .int (i ^ j.toNat)) (dInt CPow fun i j => .int (i ^ j.toNat)) := opd_I fun G i j => rep_int
theorem opd_lt : OpD c (rI0 fun i j => .bl (decide (i < j))) (dInt0 fun i j => .bl (decide (i < j))) := opd_I0 fun G i j => rep_bl
theorem opd_le : OpD c (rI0 fun i j => .bl (decide (i ≤ j))) (dInt0 fun i j => .bl (decide (i ≤ j))) := opd_I0 fun G i j => rep_bl
theorem opd_gt : OpD c (rI0 fun i j => .bl (decide (j < i))) (dInt0 fun i j => .bl (decide (j < i))) := opd_I0 fun G i j => rep_bl
/-- == of scalars -/
def sEq : D → D → Option Bool
  | .int i, .int j => some (decide (i = j))
  | .str i, .str j => some (decide (i = j))
  | .bl i, .bl j => some (decide (i = j))
  | .non, .non => some true
  | .non, .int _ => some false | .int _, .non => some false | .non, .bl _ => some false | .bl _, .non => some false | .non, .str _ => some false | .str _, .non => some false
  | .int _, .str _ => some false | .str _, .int _ => some false | .bl _, .str _ => some false | .str _, .bl _ => some false
  | _, _ => none
mutual
def py : D → Option PyData
  | .non => some .none
  | .bl b => some (.bool b)
  | .int i => some (.int i)
  | .str x => some (.str x)
  | .lst xs => (pys xs).map .list
  | .tup xs => (pys xs).map .tuple
  | _ => none
def pys : List D → Option (List PyData)
  | [] => some []
  | x :: xs => match py x with
    | some d => (pys xs).map (d :: ·)
    | none => none
end
mutual
theorem py_dp {K : PySem.W.Frag} {H : Hp} : ∀ {x : D} {v : V} {d : PyData}, py x = some d → Rep K H x v → Dp K H v d
  | .non, v, d, e, h => by unfold Rep at h; unfold py at e; subst h; cases e; exact .non
  | .bl _, v, d, e, h => by unfold Rep at h; unfold py at e; subst h; cases e; exact .bl _
  | .int _, v, d, e, h => by unfold Rep at h; unfold py at e; subst h; cases e; exact .int _
  | .str _, v, d, e, h => by unfold Rep at h; unfold py at e; subst h; cases e; exact .str _
  | .lst xs, v, d, e, h => by
    unfold Rep at h
    unfold py at e
    obtain ⟨a, ys, e1, h1, h2⟩ := h
    subst e1
    cases q : pys xs with
    | none => rw [q] at e; cases e
    | some ds => rw [q] at e; cases e; exact .lst (.inl (Rd.of h1)) (pys_dp q h2)
  | .tup xs, v, d, e, h => by
    unfold Rep at h
    unfold py at e
    obtain ⟨a, ys, e1, h1, h2⟩ := h
    subst e1
    cases q : pys xs with
    | none => rw [q] at e; cases e
    | some ds => rw [q] at e; cases e; exact .tup (SqT.of h1) (pys_dp q h2)
  | .ty _, v, d, e, h => by unfold py at e; cases e
  | .ro _, v, d, e, h => by unfold py at e; cases e
  | .ptr _, v, d, e, h => by unfold py at e; cases e
  | .dct _, v, d, e, h => by unfold py at e; cases e
  | .obj _ _, v, d, e, h => by unfold py at e; cases e
  | .dcT _, v, d, e, h => by unfold py at e; cases e
theorem pys_dp {K : PySem.W.Frag} {H : Hp} : ∀ {xs : List D} {vs : List V} {ds : List PyData}, pys xs = some ds → Reps K H xs vs → DpAll K H vs ds
  | [], vs, ds, e, h => by unfold Reps at h; unfold pys at e; subst h; cases e; exact .nil
  | x :: xs, vs, ds, e, h => by
    unfold Reps at h
    obtain ⟨v, vr, e1, h1, h2⟩ := h
    subst e1
    unfold pys at e
    cases q : py x with
    | none => rw [q] at e; cases e
    | some d =>
      rw [q] at e
      simp only at e
      cases q2 : pys xs with
      | none => rw [q2] at e; cases e
      | some es => rw [q2] at e; cases e; exact .cons (py_dp q h1) (pys_dp q2 h2)
end
def dEqF (f : Bool → Bool) : Dop := fun x y k => (∃ b, sEq x y = some b ∧ k (.d (.bl (f b)))) ∨ ∃ d e, py x = some d ∧ py y = some e ∧ SeqAt.shaped d = true ∧ SeqAt.shaped e = true ∧ k (.d (.bl (f (PyData.eqv d e))))
theorem sEq_scal {H : Hp} {K : PySem.W.Frag} {x y : D} {v w : V} {b : Bool} (h : sEq x y = some b) (h1 : Rep K H x v) (h2 : Rep K H y w) : scal v w = true ∧ decide (v = w) = b := by
  cases x <;> cases y <;> first | (cases h; done) | (unfold Rep at h1 h2; subst h1; subst h2; cases h; exact ⟨rfl, by simp⟩)
theorem opd_eq : OpD c (rEqA c.K) (dEqF id) := by
  intro B G H σ δ r1 r2 v1 v2 x y Ψ Q F h1 h2 e1 e2 hf k
  have q1 := view_repH F h1 e1
  have q2 := view_repH F h2 e2
  rcases hf with ⟨b, hb, kb⟩ | ⟨d, e, hd, he, sd, se, kb⟩
  · obtain ⟨z1, z2⟩ := sEq_scal hb q1 q2
    refine .inl ⟨z1, ?_⟩
    rw [z2]
    exact k _ _ G H kb (Ex.refl G) (Ex.refl H) F (rv_bl (K := c.K))
  · exact .inr ⟨d, e, py_dp hd q1, py_dp he q2, sd, se, k _ _ G H kb (Ex.refl G) (Ex.refl H) F (rv_bl (K := c.K))⟩
theorem opd_ne : OpD c (rNeA c.K) (dEqF not) := by
  intro B G H σ δ r1 r2 v1 v2 x y Ψ Q F h1 h2 e1 e2 hf k
  have q1 := view_repH F h1 e1
  have q2 := view_repH F h2 e2
  rcases hf with ⟨b, hb, kb⟩ | ⟨d, e, hd, he, sd, se, kb⟩
  · obtain ⟨z1, z2⟩ := sEq_scal hb q1 q2
    refine .inl ⟨z1, ?_⟩
    rw [z2]
    exact k _ _ G H kb (Ex.refl G) (Ex.refl H) F (rv_bl (K := c.K))
  · exact .inr ⟨d, e, py_dp hd q1, py_dp he q2, sd, se, k _ _ G H kb (Ex.refl G) (Ex.refl H) F (rv_bl (K := c.K))⟩
/-! in -/
def flatD : D → Bool
  | .non => true | .bl _ => true | .int _ => true | .str _ => true | _ => false
/-- == of flat things, as in tells them -/
def eqF : D → D → Bool
  | .int i, .int j => decide (i = j)
  | .str i, .str j => decide (i = j)
  | .bl i, .bl j => decide (i = j)
  | .non, .non => true
  | .int i, .bl b => decide (i = if b then 1 else 0)
  | .bl b, .int i => decide (i = if b then 1 else 0)
  | _, _ => false
theorem flat_rep {K : PySem.W.Frag} {H : Hp} {x : D} {v : V} (h : flatD x = true) (r : Rep K H x v) : flatV v = true := by
  cases x <;> first | (cases h; done) | (unfold Rep at r; subst r; rfl)
theorem flats_rep {K : PySem.W.Frag} {H : Hp} : ∀ {xs : List D} {vs : List V}, xs.all flatD = true → Reps K H xs vs → vs.all flatV = true
  | [], vs, _, r => by unfold Reps at r; subst r; rfl
  | x :: xs, vs, h, r => by
    unfold Reps at r
    obtain ⟨v, vr, e, h1, h2⟩ := r
    subst e
    rw [List.all_cons, Bool.and_eq_true] at h
    rw [List.all_cons, flat_rep h.1 h1, flats_rep h.2 h2]
    rfl
theorem eqF_V {K : PySem.W.Frag} {H : Hp} {x y : D} {v w : V} (hx : flatD x = true) (hy : flatD y = true) (r1 : Rep K H x v) (r2 : Rep K H y w) : eqV v w = eqF x y := by
  cases x <;> first | (cases hx; done) | (cases y <;> first | (cases hy; done) | (unfold Rep at r1 r2; subst r1; subst r2; simp [eqV, eqF, Bool.beq_eq_decide_eq, eq_comm]; done) | (unfold Rep at r1 r2; subst r1; subst r2; rename_i a b; cases a <;> simp [eqV, eqF, eq_comm]; done) | (unfold Rep at r1 r2; subst r1; subst r2; rename_i a b; cases b <;> simp [eqV, eqF, eq_comm]; done))
def inD (x : D) (xs : List D) : Bool := xs.any fun y => eqF y x
theorem inD_V {K : PySem.W.Frag} {H : Hp} {x : D} {v : V} (hx : flatD x = true) (r1 : Rep K H x v) : ∀ {ys : List D} {ws : List V}, ys.all flatD = true → Reps K H ys ws → inV v ws = inD x ys
  | [], ws, _, r => by unfold Reps at r; subst r; rfl
  | y :: ys, ws, h, r => by
    unfold Reps at r
    obtain ⟨w, wr, e, h1, h2⟩ := r
    subst e
    rw [List.all_cons, Bool.and_eq_true] at h
    have ih := inD_V hx r1 h.2 h2
    unfold inV inD at ih ⊢
    rw [List.any_cons, List.any_cons, ih, eqF_V h.1 hx h1 r1]
def dIn (f : Bool → Bool) : Dop
  | .str x, .str y, k => ∃ ch, x = ⟨#[ch]⟩ ∧ k (.d (.bl (f (decide (ch ∈ y.cps.toList)))))
  | x, .lst ys, k => flatD x = true ∧ ys.all flatD = true ∧ k (.d (.bl (f (inD x ys))))
  | x, .tup ys, k => flatD x = true ∧ ys.all flatD = true ∧ k (.d (.bl (f (inD x ys))))
  | _, _, _ => False
theorem opd_inF (neg : Bool) {r : R2} (hr : ∀ v w H Q, (∃ (ch : Nat) (z : Str), v = .str ⟨#[ch]⟩ ∧ w = .str z ∧ Q (.bl (neg ^^ decide (ch ∈ z.cps.toList))) H) ∨ rIn c.K neg v w H Q → r v w H Q) : OpD c r (dIn (neg ^^ ·)) := by
  intro B G H σ δ r1 r2 v1 v2 x y Ψ Q F h1 h2 e1 e2 hf k
  apply hr
  have q1 := view_repH F h1 e1
  cases y with
  | str z =>
    cases x with
    | str x =>
      obtain ⟨ch, ex, kk⟩ := hf
      subst ex
      have q2 := view_repH F h2 e2
      unfold Rep at q1 q2
      exact .inl ⟨ch, z, q1, q2, k _ _ G H kk (Ex.refl G) (Ex.refl H) F (rv_bl (K := c.K))⟩
    | _ => exact hf.elim
  | lst ys =>
    have hf' : flatD x = true ∧ ys.all flatD = true ∧ Ψ (.d (.bl (neg ^^ inD x ys))) := by cases x <;> exact hf
    obtain ⟨a, ws, q4, q5, q6⟩ := view_lst F h2 e2
    refine .inr ⟨a, ws, q4, .inl (.inl q5), flat_rep hf'.1 q1, flats_rep hf'.2.1 q6, ?_⟩
    rw [inD_V hf'.1 q1 hf'.2.1 (q6.mono F.exG)]
    have kk := k _ _ G H hf'.2.2 (Ex.refl G) (Ex.refl H) F (rv_bl (K := c.K))
    cases neg <;> simpa using kk
  | tup ys =>
    have hf' : flatD x = true ∧ ys.all flatD = true ∧ Ψ (.d (.bl (neg ^^ inD x ys))) := by cases x <;> exact hf
    obtain ⟨a, ws, q4, q5, q6⟩ := view_tup F h2 e2
    refine .inr ⟨a, ws, q4, .inr q5, flat_rep hf'.1 q1, flats_rep hf'.2.1 q6, ?_⟩
    rw [inD_V hf'.1 q1 hf'.2.1 (q6.mono F.exG)]
    have kk := k _ _ G H hf'.2.2 (Ex.refl G) (Ex.refl H) F (rv_bl (K := c.K))
    cases neg <;> simpa using kk
  | _ => cases x <;> exact hf.elim
theorem opd_in : OpD c (rInA c.K) (dIn (false ^^ ·)) := opd_inF false fun v w H Q h => by
  rcases h with ⟨ch, z, a, b, q⟩ | h
  · exact .inl ⟨ch, z, a, b, by simpa using q⟩
  · exact .inr h
theorem opd_notIn : OpD c (rNotInA c.K) (dIn (true ^^ ·)) := opd_inF true fun v w H Q h => by
  rcases h with ⟨ch, z, a, b, q⟩ | h
  · exact .inl ⟨ch, z, a, b, by simpa using q⟩
  · exact .inr h
/-! subscripts -/
def dIx : Dop
  | .lst xs, .int i, k => ∃ x, atI xs i = some x ∧ k (.d x)
  | .tup xs, .int i, k => ∃ x, atI xs i = some x ∧ k (.d x)
  | .ro xs, .int i, k => ∃ x, atI xs i = some x ∧ k (.d x)
  | .str z, .int i, k => z.length ≤ 16000000 ∧ ∃ ch, atI z.cps.toList i = some ch ∧ k (.d (.str ⟨#[ch]⟩))
  | _, _, _ => False
theorem reps_atI {K : PySem.W.Frag} {G : Hp} {xs : List D} {vs : List V} {i : Int} {x : D} (h : Reps K G xs vs) (e : atI xs i = some x) : ∃ v, atI vs i = some v ∧ Rep K G x v := by
  unfold atI at e ⊢
  rw [reps_length h]
  cases q : ixN xs.length i with
  | none => rw [q] at e; cases e
  | some j =>
    rw [q] at e
    exact reps_get h e
theorem opd_ix : OpD c (rIx c.K) dIx := by
  intro B G H σ δ r1 r2 v1 v2 x y Ψ Q F h1 h2 e1 e2 hf k
  cases y with
  | int i =>
    have q2 := view_repH F h2 e2
    unfold Rep at q2
    cases x with
    | lst xs =>
      obtain ⟨z, hz, kk⟩ := hf
      obtain ⟨a, vs, q3, q4, q5⟩ := view_lst F h1 e1
      obtain ⟨v, q6, q7⟩ := reps_atI q5 hz
      exact .inl ⟨a, vs, i, v, q3, q2, .inl q4, q6, k _ _ G H kk (Ex.refl G) (Ex.refl H) F q7⟩
    | ro xs =>
      obtain ⟨z, hz, kk⟩ := hf
      obtain ⟨a, vs, q3, q4, q5⟩ := view_ro F h1 e1
      obtain ⟨v, q6, q7⟩ := reps_atI q5 hz
      exact .inl ⟨a, vs, i, v, q3, q2, q4, q6, k _ _ G H kk (Ex.refl G) (Ex.refl H) F q7⟩
    | tup xs =>
      obtain ⟨z, hz, kk⟩ := hf
      obtain ⟨a, vs, q3, q4, q5⟩ := view_tup F h1 e1
      obtain ⟨v, q6, q7⟩ := reps_atI q5 hz
      exact .inr (.inl ⟨a, vs, i, v, q3, q2, q4, q6, k _ _ G H kk (Ex.refl G) (Ex.refl H) F q7⟩)
    | str z =>
      obtain ⟨hl, ch, hc, kk⟩ := hf
      have q1 := view_repH F h1 e1
      unfold Rep at q1
      exact .inr (.inr ⟨z, i, ch, q1, q2, size16 hl, hc, k _ _ G H kk (Ex.refl G) (Ex.refl H) F (rep_str (K := c.K) (G := G))⟩)
    | _ => exact hf.elim
  | _ => cases x <;> exact hf.elim
end
end DL

/-! DL5: built-ins and methods, by data. -/
namespace DL
open PySem PySem.Spec PyProof.Rows L2
open Evl (Ex)
section
variable {X : Cx}
def rMulS : R2 := fun x y H Q => ∃ (z : Str) (n : Int), x = .str z ∧ y = .int n ∧ (z.length ≤ 1000 ∧ n ≤ 4000 ∧ -4000 ≤ n) ∧ Q (.str (Txt.mul z n)) H
theorem mulOk_small {z : Str} {n : Int} (h : z.length ≤ 1000 ∧ n ≤ 4000 ∧ -4000 ≤ n) : MulOk z n := by
  obtain ⟨h1, h2, h3⟩ := h
  refine ⟨?_, fun h4 _ => ?_, fun h4 _ => ?_⟩
  · rw [decide_eq_false (by omega), decide_eq_false (by omega)]; rfl
  · have : (2 ^ 63 - 1) / (4000 : Int) ≤ (2 ^ 63 - 1) / n := by
      have hn : 0 < n := by omega
      exact (Int.le_ediv_iff_mul_le hn).mpr (Int.le_trans (Int.mul_le_mul_of_nonneg_left h2 (by decide)) (by decide))
    have e : (2 ^ 63 - 1) / (4000 : Int) = 2305843009213693 := by decide
    omega
  · have h5 : z.length * n.toNat ≤ 1000 * 4000 := Nat.mul_le_mul h1 (by omega)
    unfold Builtin.Str.tooLong
    rw [decide_eq_false]
    have := sizeLine_eq
    omega
theorem op_mulS : OpR X (binaryOp .Mult) rMulS := by
  intro pins s σ H x y v u Q I rx ry h
  obtain ⟨z, n, rfl, rfl, hz, q⟩ := h
  obtain ⟨t, rfl⟩ := rx
  obtain ⟨t', rfl⟩ := ry
  exact SB.mul (mulOk_small hz) fun t' k => ⟨.str _, H, I.tok _, ⟨_, rfl⟩, q⟩
end
section
variable {c : Cd} {p : Bool} {δ : List Sl} {te ta tb : TE} {Φ : R → List Sl → Prop}
def rMulB : R2 := fun x y H Q => rMulA x y H Q ∨ rMulS x y H Q
theorem op_mulB {X : Cx} : OpR X (binaryOp .Mult) rMulB := op_mulA.or op_mulS
def dMul : Dop
  | .int i, .int j, k => (CMul i j ∨ CMulX i j) ∧ k (.d (.int (i * j)))
  | .str z, .int n, k => (z.length ≤ 1000 ∧ n ≤ 4000 ∧ -4000 ≤ n) ∧ k (.d (.str (Txt.mul z n)))
  | _, _, _ => False
theorem opd_mulB : OpD c rMulB dMul := by
  intro B G H σ δ r1 r2 v1 v2 x y Ψ Q F h1 h2 e1 e2 hf k
  cases y with
  | int j =>
    have q2 := view_repH F h2 e2
    unfold Rep at q2
    cases x with
    | int i =>
      have q1 := view_repH F h1 e1
      unfold Rep at q1
      have kk := k (.d (.int (i * j))) (.int (i * j)) G H hf.2 (Ex.refl G) (Ex.refl H) F (rep_int (K := c.K) (G := G))
      rcases hf.1 with z | z
      · exact .inl (.inl ⟨i, j, q1, q2, z, kk⟩)
      · exact .inl (.inr ⟨i, j, q1, q2, z, kk⟩)
    | str z =>
      have q1 := view_repH F h1 e1
      unfold Rep at q1
      exact .inr ⟨z, j, q1, q2, hf.1, k _ _ G H hf.2 (Ex.refl G) (Ex.refl H) F (rep_str (K := c.K) (G := G))⟩
    | _ => exact hf.elim
  | _ => cases x <;> exact hf.elim
/-! a unary operation -/
theorem we_neg (h : WE c p ta δ fun r δ1 => ∃ i, r = .d (.int i) ∧ Φ (.d (.int (-i))) δ1) : WE c p (tUn (rU fun i => .int (-i)) ta) δ Φ := by
  intro B G H σ Q F x k
  refine h B G H σ _ F x fun r1 δ1 v1 G1 H1 w1 e1 F1 rv1 p1 => ?_
  obtain ⟨i, e, w⟩ := w1
  subst e
  have e2 : v1 = .int i := by have h : Rep c.K G1 (.int i) v1 := rv1; unfold Rep at h; exact h
  exact ⟨i, e2, k _ δ1 _ G1 H1 w e1 F1 (rep_int (K := c.K) (G := G1)) p1⟩
/-! is None, is True -/
def isNon : D → Bool
  | .non => true
  | _ => false
theorem rep_non_iff {K : PySem.W.Frag} {G : Hp} {x : D} {v : V} (h : Rep K G x v) : decide (v = .non) = isNon x := by
  cases x <;> first | (unfold Rep at h; subst h; rfl) | (unfold Rep at h; obtain ⟨a, _, e, _⟩ := h; subst e; rfl) | (unfold Rep at h; obtain ⟨a, _, _, e, _⟩ := h; subst e; rfl)
def dIsN (f : Bool → Bool) : Dop := fun x y k => y = .non ∧ k (.d (.bl (f (isNon x))))
theorem opd_isN : OpD c (fun x y H Q => y = .non ∧ Q (.bl (decide (x = .non))) H) (dIsN id) := opd_H fun H v1 v2 x y Ψ Q h1 h2 hf k => by
  obtain ⟨e, w⟩ := hf
  subst e
  unfold Rep at h2
  refine ⟨h2, ?_⟩
  rw [rep_non_iff h1]
  exact k _ _ w fun G => rep_bl
theorem opd_notN : OpD c (fun x y H Q => y = .non ∧ Q (.bl (!decide (x = .non))) H) (dIsN not) := opd_H fun H v1 v2 x y Ψ Q h1 h2 hf k => by
  obtain ⟨e, w⟩ := hf
  subst e
  unfold Rep at h2
  refine ⟨h2, ?_⟩
  rw [rep_non_iff h1]
  exact k _ _ w fun G => rep_bl
def dIsB (f : Bool → Bool) : Dop
  | .bl a, .bl b, k => k (.d (.bl (f (decide (a = b)))))
  | _, _, _ => False
/-! ### slices -/
def WO (c : Cd) (p : Bool) (to : TO) (δ : List Sl) (Φ : Option Int → List Sl → Prop) : Prop :=
  ∀ (B G H : Hp) (σ : St) (Q : Option Int → Hp → Prop), Frame c.K B G H σ δ → c.xr B G →
    (∀ o δ' G' H', Φ o δ' → Ex G G' → Frame c.K B G' H' σ δ' → (p = true → δ' = δ ∧ Ex H H') → Q o H') → to σ H Q
theorem wo_no {Ψ : Option Int → List Sl → Prop} (h : Ψ none δ) : WO c p tNoPart δ Ψ := fun B G H σ Q F x k => k none δ G H h (Ex.refl G) F fun _ => ⟨rfl, Ex.refl H⟩
theorem wo_part {Ψ : Option Int → List Sl → Prop} (h : WE c p te δ fun r δ1 => ∃ i, r = .d (.int i) ∧ Ψ (some i) δ1) : WO c p (tPart te) δ Ψ := by
  intro B G H σ Q F x k
  refine h B G H σ _ F x fun r1 δ1 v1 G1 H1 w1 e1 F1 rv1 p1 => ?_
  obtain ⟨i, e, w⟩ := w1
  subst e
  have e2 : v1 = .int i := by have h : Rep c.K G1 (.int i) v1 := rv1; unfold Rep at h; exact h
  exact ⟨i, e2, k _ δ1 G1 H1 w e1 F1 p1⟩
def rSlA (K : PySem.W.Frag) : V → Option Int → Option Int → Hp → VK → Prop := fun x lo hi H Q => rSlL K x lo hi H Q ∨ rSlS x lo hi H Q
theorem sl_A {X : Cx} : L2.SlR X (rSlA X.K) := sl_list.or sl_str
def cutD (xs : List D) (lo hi : Option Int) : List D := (xs.drop (HT.sIx xs.length 0 lo)).take (HT.sIx xs.length xs.length hi - HT.sIx xs.length 0 lo)
theorem reps_cut {K : PySem.W.Frag} {G : Hp} {xs : List D} {vs : List V} {lo hi : Option Int} (h : Reps K G xs vs) : Reps K G (cutD xs lo hi) (cutV vs lo hi) := by
  unfold cutD cutV
  rw [reps_length h]
  exact reps_take _ (reps_drop _ h)
def dSl : D → Option Int → Option Int → (R → Prop) → Prop
  | .lst xs, lo, hi, k => ∀ a, k (.own a (.lst (cutD xs lo hi)))
  | .str z, lo, hi, k => z.length ≤ 16000000 ∧ k (.d (.str (cutS z lo hi)))
  | _, _, _, _ => False
theorem we_sl {to th : TO} (h : WE c p te δ fun r1 δ1 => WO c p to δ1 fun lo δ2 => WO c p th δ2 fun hi δ3 => ∃ x, view δ3 (frz r1) = some x ∧ dSl x lo hi fun r => Φ r δ3) : WE c p (tSl (rSlA c.K) te to th) δ Φ := by
  intro B G H σ Q F x k
  refine h B G H σ _ F x fun r1 δ1 v1 G1 H1 w1 e1 F1 rv1 p1 => ?_
  obtain ⟨G1', e1', F1', rw1⟩ := rv1.weak F1
  refine w1 B G1' H1 σ _ F1' (c.mono _ _ _ (e1.trans e1') x) fun lo δ2 G2 H2 w2 e2 F2 p2 => ?_
  refine w2 B G2 H2 σ _ F2 (c.mono _ _ _ ((e1.trans e1').trans e2) x) fun hi δ3 G3 H3 w3 e3 F3 p3 => ?_
  obtain ⟨y, hy, hd⟩ := w3
  have eG := (e1.trans e1').trans (e2.trans e3)
  have rw3 := rw1.mono (e2.trans e3)
  have pp : p = true → δ3 = δ ∧ Ex H H3 := fun hp => ⟨((p3 hp).1.trans (p2 hp).1).trans (p1 hp).1, ((p1 hp).2.trans (p2 hp).2).trans (p3 hp).2⟩
  cases y with
  | lst xs =>
    obtain ⟨a, vs, q1, q2, q3⟩ := view_lst F3 rw3 hy
    exact .inl ⟨a, vs, q1, .inl q2, fun q hq => k _ δ3 _ G3 _ (hd q) eG (F3.ex (Ex.new hq)) (rv_newL F3 hq (reps_cut q3)) fun hp => ⟨(pp hp).1, (pp hp).2.trans (Ex.new hq)⟩⟩
  | str z =>
    have q1 := view_repH F3 rw3 hy
    unfold Rep at q1
    exact .inr ⟨z, q1, size16 hd.1, k _ δ3 _ G3 H3 hd.2 eG F3 (rep_str (K := c.K) (G := G3)) pp⟩
  | _ => exact hd.elim
/-! ### built-ins -/
theorem cad_one {r : List V → Hp → VK → Prop} {f : D → (R → Prop) → Prop} (h : ∀ (B G H : Hp) (σ : St) (δ : List Sl) (r1 : R) (v : V) (x : D) (Ψ : R → Prop) (Q : VK), Frame c.K B G H σ δ → RW c.K G r1 v → view δ r1 = some x → f x Ψ →
    (∀ r v G' H', Ψ r → Ex G G' → Ex H H' → Frame c.K B G' H' σ δ → RV c.K B G' H' δ r v → Q v H') → r [v] H Q) : CaD c r fun ds k => ∃ x, ds = [x] ∧ f x k :=
  cad_1 (fun ds Ψ ⟨x, e, _⟩ => by subst e; rfl) fun B G H σ δ r1 v x Ψ Q F h1 h2 ⟨y, e, hf⟩ k => by cases e; exact h B G H σ δ r1 v x Ψ Q F h1 h2 hf k
theorem cad_two {r : List V → Hp → VK → Prop} {f : D → D → (R → Prop) → Prop} (h : ∀ (B G H : Hp) (σ : St) (δ : List Sl) (r1 r2 : R) (v w : V) (x y : D) (Ψ : R → Prop) (Q : VK), Frame c.K B G H σ δ → RW c.K G r1 v → RW c.K G r2 w → view δ r1 = some x → view δ r2 = some y → f x y Ψ →
    (∀ r v G' H', Ψ r → Ex G G' → Ex H H' → Frame c.K B G' H' σ δ → RV c.K B G' H' δ r v → Q v H') → r [v, w] H Q) : CaD c r fun ds k => ∃ x y, ds = [x, y] ∧ f x y k :=
  cad_2 (fun ds Ψ ⟨x, y, e, _⟩ => by subst e; rfl) fun B G H σ δ r1 r2 v w x y Ψ Q F h1 h2 h3 h4 ⟨x', y', e, hf⟩ k => by cases e; exact h B G H σ δ r1 r2 v w x y Ψ Q F h1 h2 h3 h4 hf k
/-- len -/
def lenD : D → Option Nat
  | .str z => some z.length
  | .lst xs => some xs.length
  | .tup xs => some xs.length
  | .ro xs => some xs.length
  | _ => none
def rLenA (K : PySem.W.Frag) : List V → Hp → VK → Prop := fun xs H Q => ∃ x n, xs = [x] ∧ LenV K x H n ∧ Q (.int n) H
theorem cad_len : CaD c (rLenA c.K) fun ds k => ∃ x, ds = [x] ∧ strOk x ∧ ∃ n, lenD x = some n ∧ k (.d (.int (n : Int))) := cad_one fun B G H σ δ r1 v x Ψ Q F h1 e1 hf k => by
  obtain ⟨hs, n, hn, kk⟩ := hf
  refine ⟨v, n, rfl, ?_, k _ _ G H kk (Ex.refl G) (Ex.refl H) F (rep_int (K := c.K) (G := G))⟩
  cases x with
  | str z => have q := view_repH F h1 e1; unfold Rep at q; subst q; cases hn; exact ⟨size16 hs, rfl⟩
  | lst xs =>
    obtain ⟨a, vs, q1, q2, q3⟩ := view_lst F h1 e1
    subst q1
    cases hn
    exact .inl ⟨vs, .inl q2, (reps_length q3).symm⟩
  | ro xs =>
    obtain ⟨a, vs, q1, q2, q3⟩ := view_ro F h1 e1
    subst q1
    cases hn
    exact .inl ⟨vs, q2, (reps_length q3).symm⟩
  | tup xs =>
    obtain ⟨a, vs, q1, q2, q3⟩ := view_tup F h1 e1
    subst q1
    cases hn
    exact .inr ⟨vs, q2, (reps_length q3).symm⟩
  | _ => cases hn
def rMax2 : List V → Hp → VK → Prop := fun xs H Q => ∃ i j, xs = [.int i, .int j] ∧ Q (.int (if j > i then j else i)) H
def rMin2 : List V → Hp → VK → Prop := fun xs H Q => ∃ i j, xs = [.int i, .int j] ∧ Q (.int (if j < i then j else i)) H
def dInt2 (g : Int → Int → Int) : D → D → (R → Prop) → Prop
  | .int i, .int j, k => k (.d (.int (g i j)))
  | _, _, _ => False
theorem cad_max2 : CaD c rMax2 fun ds k => ∃ x y, ds = [x, y] ∧ dInt2 (fun i j => if j > i then j else i) x y k := cad_two fun B G H σ δ r1 r2 v w x y Ψ Q F h1 h2 e1 e2 hf k => by
  cases x with
  | int i =>
    cases y with
    | int j =>
      have q1 := view_repH F h1 e1
      have q2 := view_repH F h2 e2
      unfold Rep at q1 q2
      subst q1 q2
      exact ⟨i, j, rfl, k _ _ G H hf (Ex.refl G) (Ex.refl H) F (rep_int (K := c.K) (G := G))⟩
    | _ => exact hf.elim
  | _ => exact hf.elim
theorem cad_min2 : CaD c rMin2 fun ds k => ∃ x y, ds = [x, y] ∧ dInt2 (fun i j => if j < i then j else i) x y k := cad_two fun B G H σ δ r1 r2 v w x y Ψ Q F h1 h2 e1 e2 hf k => by
  cases x with
  | int i =>
    cases y with
    | int j =>
      have q1 := view_repH F h1 e1
      have q2 := view_repH F h2 e2
      unfold Rep at q1 q2
      subst q1 q2
      exact ⟨i, j, rfl, k _ _ G H hf (Ex.refl G) (Ex.refl H) F (rep_int (K := c.K) (G := G))⟩
    | _ => exact hf.elim
  | _ => exact hf.elim
/-- int(..): of an int, a bool, a text -/
def rIntA : List V → Hp → VK → Prop := fun xs H Q => ((∃ i, xs = [.int i] ∧ Q (.int i) H) ∨ ∃ k, xs = [.bl k] ∧ Q (.int (if k then 1 else 0)) H) ∨ ∃ a n, xs = [.str a] ∧ PySem.intText? a = some n ∧ a.length ≤ 640 ∧ Q (.int n) H
theorem call_intA {X : Cx} : CallR X (.type "int") rIntA := call_int1.or call_int_str
def dIntC : D → (R → Prop) → Prop
  | .int i, k => k (.d (.int i))
  | .bl b, k => k (.d (.int (if b then 1 else 0)))
  | .str a, k => ∃ n, PySem.intText? a = some n ∧ a.length ≤ 640 ∧ k (.d (.int n))
  | _, _ => False
theorem cad_int : CaD c rIntA fun ds k => ∃ x, ds = [x] ∧ dIntC x k := cad_one fun B G H σ δ r1 v x Ψ Q F h1 e1 hf k => by
  have q := view_repH F h1 e1
  cases x with
  | int i => unfold Rep at q; subst q; exact .inl (.inl ⟨i, rfl, k _ _ G H hf (Ex.refl G) (Ex.refl H) F (rep_int (K := c.K) (G := G))⟩)
  | bl i => unfold Rep at q; subst q; exact .inl (.inr ⟨i, rfl, k _ _ G H hf (Ex.refl G) (Ex.refl H) F (rep_int (K := c.K) (G := G))⟩)
  | str a =>
    unfold Rep at q
    subst q
    obtain ⟨n, h3, h4, kk⟩ := hf
    exact .inr ⟨a, n, rfl, h3, h4, k _ _ G H kk (Ex.refl G) (Ex.refl H) F (rep_int (K := c.K) (G := G))⟩
  | _ => exact hf.elim
def rStrI : List V → Hp → VK → Prop := fun xs H Q => ∃ i, xs = [.int i] ∧ i.natAbs.log2 < 1920 ∧ Q (.str (toString i)) H
theorem cad_str : CaD c rStrI fun ds k => ∃ x, ds = [x] ∧ ∃ i, x = .int i ∧ i.natAbs.log2 < 1920 ∧ k (.d (.str (toString i))) := cad_one fun B G H σ δ r1 v x Ψ Q F h1 e1 hf k => by
  have q := view_repH F h1 e1
  obtain ⟨i, e, h2, kk⟩ := hf
  subst e
  unfold Rep at q
  subst q
  exact ⟨i, rfl, h2, k _ _ G H kk (Ex.refl G) (Ex.refl H) F (rep_str (K := c.K) (G := G))⟩
/-- all, any of a list of truths -/
def blsD : List D → Option (List Bool)
  | [] => some []
  | .bl b :: r => (blsD r).map (b :: ·)
  | _ :: _ => none
theorem bls_rep {K : PySem.W.Frag} {G : Hp} : ∀ {xs : List D} {bs : List Bool} {vs : List V}, blsD xs = some bs → Reps K G xs vs → vs = bs.map V.bl
  | [], bs, vs, e, h => by cases e; unfold Reps at h; exact h
  | x :: xs, bs, vs, e, h => by
    unfold Reps at h
    obtain ⟨v, vr, e1, h1, h2⟩ := h
    cases x with
    | bl b =>
      unfold blsD at e
      cases q : blsD xs with
      | none => rw [q] at e; cases e
      | some cs =>
        rw [q] at e
        cases e
        unfold Rep at h1
        rw [e1, h1, bls_rep q h2]
        rfl
    | _ => cases e
theorem blsD_map (bs : List Bool) : blsD (bs.map D.bl) = some bs := by
  induction bs with
  | nil => rfl
  | cons b bs ih =>
    show (blsD (bs.map D.bl)).map (b :: ·) = _
    rw [ih]
    rfl
theorem cad_all : CaD c (rAll c.K) fun ds k => ∃ x, ds = [x] ∧ ∃ xs bs, x = .lst xs ∧ blsD xs = some bs ∧ k (.d (.bl (bs.all id))) := cad_one fun B G H σ δ r1 v x Ψ Q F h1 e1 hf k => by
  obtain ⟨xs, bs, e, hb, kk⟩ := hf
  subst e
  obtain ⟨a, vs, q1, q2, q3⟩ := view_lst F h1 e1
  subst q1
  have e3 := bls_rep hb q3
  subst e3
  exact ⟨a, bs, rfl, .inl q2, k _ _ G H kk (Ex.refl G) (Ex.refl H) F (rv_bl (K := c.K))⟩
/-- list(..) of a list, a tuple -/
def rListA (K : PySem.W.Frag) : List V → Hp → VK → Prop := fun xs H Q => ∃ p ys, xs = [.ref p] ∧ (SqL K H p ys ∨ SqT K H p ys) ∧ ∀ l, H l = none → Q (.ref l) (upd H l (.lst ys))
def seqD : D → Option (List D)
  | .lst xs => some xs
  | .tup xs => some xs
  | _ => none
theorem cad_list : CaD c (rListA c.K) fun ds k => ∃ x, ds = [x] ∧ ∃ xs, seqD x = some xs ∧ ∀ a, k (.own a (.lst xs)) := cad_one fun B G H σ δ r1 v x Ψ Q F h1 e1 hf k => by
  obtain ⟨xs, e, kk⟩ := hf
  cases x with
  | lst ys =>
    cases e
    obtain ⟨a, vs, q1, q2, q3⟩ := view_lst F h1 e1
    subst q1
    exact ⟨a, vs, rfl, .inl (.inl q2), fun l hl => k _ _ G _ (kk l) (Ex.refl G) (Ex.new hl) (F.ex (Ex.new hl)) (rv_newL F hl q3)⟩
  | tup ys =>
    cases e
    obtain ⟨a, vs, q1, q2, q3⟩ := view_tup F h1 e1
    subst q1
    exact ⟨a, vs, rfl, .inr q2, fun l hl => k _ _ G _ (kk l) (Ex.refl G) (Ex.new hl) (F.ex (Ex.new hl)) (rv_newL F hl q3)⟩
  | _ => cases e
/-- tuple(..) of a list, a tuple -/
def rTupA (K : PySem.W.Frag) : List V → Hp → VK → Prop := fun xs H Q => ∃ p ys, xs = [.ref p] ∧ ((SqL K H p ys ∧ ∀ l, H l = none → Q (.ref l) (upd H l (.tup ys))) ∨ (SqT K H p ys ∧ Q (.ref p) H))
theorem cad_tuple : CaD c (rTupA c.K) fun ds k => ∃ x, ds = [x] ∧ ∃ xs, seqD x = some xs ∧ k (.d (.tup xs)) := cad_one fun B G H σ δ r1 v x Ψ Q F h1 e1 hf k => by
  obtain ⟨xs, e, kk⟩ := hf
  cases x with
  | lst ys =>
    cases e
    obtain ⟨a, vs, q1, q2, q3⟩ := view_lst F h1 e1
    subst q1
    refine ⟨a, vs, rfl, .inl ⟨.inl q2, fun l hl => ?_⟩⟩
    have hG := (F.fresh hl).2.1
    exact k _ _ (upd G l (.tup vs)) _ kk (Ex.new hG) (Ex.new hl) (F.laid hl) (rep_newT hG q3)
  | tup ys =>
    cases e
    cases r1 with
    | d y =>
      have e' : y = .tup xs := Option.some.inj e1
      subst e'
      obtain ⟨a, vs, q1, q2, q3⟩ := view_tup F (r := .d (.tup xs)) (δ := δ) h1 rfl
      subst q1
      exact ⟨a, vs, rfl, .inr ⟨q2, k _ _ G H kk (Ex.refl G) (Ex.refl H) F h1⟩⟩
    | own a y => exact h1.elim
    | deep a y gs => cases e1
    | bor i a =>
      exact (view_own F e1).1.elim
  | _ => cases e
/-! isinstance -/
def tyD : D → Option String
  | .non => some "NoneType" | .bl _ => some "bool" | .int _ => some "int" | .str _ => some "str" | .lst _ => some "list" | .tup _ => some "tuple" | .dct _ => some "dict" | _ => none
theorem tyD_ok {B G H : Hp} {σ : St} {δ : List Sl} {r1 : R} {v : V} {x : D} {T : String} (F : Frame c.K B G H σ δ) (h1 : RW c.K G r1 v) (e1 : view δ r1 = some x) (h : tyD x = some T) : TyX c.K H v (.type T) := by
  cases x with
  | non => have q := view_repH F h1 e1; unfold Rep at q; subst q; cases h; exact .base .non
  | bl b => have q := view_repH F h1 e1; unfold Rep at q; subst q; cases h; exact .base (.bl b)
  | int b => have q := view_repH F h1 e1; unfold Rep at q; subst q; cases h; exact .base (.int b)
  | str b => have q := view_repH F h1 e1; unfold Rep at q; subst q; cases h; exact .base (.str b)
  | lst xs =>
    obtain ⟨a, vs, q1, q2, q3⟩ := view_lst F h1 e1
    subst q1
    cases h
    rcases q2 with q2 | ⟨o, q2⟩
    · exact .base (.lst q2)
    · exact .base (.frz q2)
  | tup xs =>
    obtain ⟨a, vs, q1, q2, q3⟩ := view_tup F h1 e1
    subst q1
    cases h
    rcases q2 with (q2 | ⟨o, q2⟩) | ⟨o, its, n, hk, hc, _⟩
    · exact .base (.tup q2)
    · exact .fTuple q2
    · exact .kTuple hk hc
  | dct xs =>
    obtain ⟨a, vs, q1, q2, q3⟩ := view_dct F h1 e1
    subst q1
    cases h
    rcases q2 with q2 | ⟨o, q2⟩
    · exact .base (.dK q2)
    · exact .fDict q2
  | _ => cases h
/-- which of the built-in types a thing is of: decided by their names -/
def isTy (a b : String) : Option Bool := kitB a b
def isiD (x : D) : D → Option Bool
  | .ty b => (tyD x).bind fun a => kitB a b
  | _ => none
def anyTy (x : D) : List D → Option Bool
  | [] => some false
  | y :: ys => match isiD x y with
    | some true => some true
    | some false => anyTy x ys
    | none => none
def rIsiA (K : PySem.W.Frag) : List V → Hp → VK → Prop := fun xs H Q => rIsi K xs H Q ∨ rIsiT K xs H Q
theorem call_isiA {X : Cx} : CallR X (.builtin "isinstance") (rIsiA X.K) := call_isi.or call_isiT
theorem cad_isi : CaD c (rIsiA c.K) fun ds k => ∃ x y, ds = [x, y] ∧ ∃ b, isiD x y = some b ∧ k (.d (.bl b)) := cad_two fun B G H σ δ r1 r2 v w x y Ψ Q F h1 h2 e1 e2 hf k => by
  obtain ⟨b, hb, kk⟩ := hf
  cases y with
  | ty n =>
    have q2 := view_repH F h2 e2
    unfold Rep at q2
    subst q2
    cases ht : tyD x with
    | none => unfold isiD at hb; rw [ht] at hb; cases hb
    | some T =>
      unfold isiD at hb
      rw [ht] at hb
      exact .inl ⟨v, .ty n, .type T, .type n, b, rfl, .ty n, tyD_ok F h1 e1 ht, kit_ty hb, k _ _ G H kk (Ex.refl G) (Ex.refl H) F (rv_bl (K := c.K))⟩
  | _ => cases hb
end
end DL

/-! DL6: what changes a list or a dict of one's own; methods of texts; displays of dicts; a walk over a list, a tuple or a text. -/
namespace DL
open PySem PySem.Spec PyProof.Rows L2
open Evl (Ex)
section
variable {X : Cx} {tg : Expr}
/-- for .. in e: e a list, a tuple or a text -/
def iAny (K : PySem.W.Frag) (te : TE) : TI := fun σ H R => te σ H fun x H1 => (∃ a, x = .ref a ∧ (∃ xs, SqL K H1 a xs) ∧ R (Itl K a) H1) ∨ (∃ a, x = .ref a ∧ (∃ xs, SqT K H1 a xs) ∧ R (Itt K a) H1) ∨ ∃ z, x = .str z ∧ R (Its z) H1
theorem pi_any {l : Expr} {tl : TE} (hl : PE X l tl) : PI X tg l (iAny X.K tl) := by
  refine ⟨fun pins s σ H R I h => ?_⟩
  let PX : PI X tg l (iAny X.K tl) → True := fun _ => trivial
  refine thn (hl.run pins s σ H _ I h) fun v s1 ⟨x, H1, I1, r1, q1⟩ => ?_
  rcases q1 with ⟨a, e, ⟨xs, hq⟩, q⟩ | ⟨a, e, ⟨xs, hq⟩, q⟩ | ⟨z, e, q⟩
  · subst e
    cases r1
    obtain ⟨its, rv, p, hz⟩ := I1.list hq
    refine wpAny_pyIter_list p.isList ?_
    refine ⟨s1.heap.objs.size, [s1.heap.objs.size], _, _, H1, rfl, I1.kept (t' := s1.toks) fun b o e => Heap.get?_push_of_some _ e, turn_list a _, ⟨_, Heap.get?_push_size _ rfl, rfl, rfl⟩, fun b hb => ?_, q⟩
    have e : b = s1.heap.objs.size := by simpa using hb
    subst e
    exact I1.fpOk (Nat.le_refl _) (I1.hok.fresh (Nat.le_refl _))
  · subst e
    cases r1
    obtain ⟨its, rv, p, hz⟩ := I1.tuple hq
    refine wpAny_pyIter_tuple (show s1.heap.IsTuple a its.toArray from p) ?_
    refine ⟨s1.heap.objs.size, [s1.heap.objs.size], _, _, H1, rfl, I1.kept (t' := s1.toks) fun b o e => Heap.get?_push_of_some _ e, turn_tuple a _, ⟨_, Heap.get?_push_size _ rfl, rfl, rfl⟩, fun b hb => ?_, q⟩
    have e : b = s1.heap.objs.size := by simpa using hb
    subst e
    exact I1.fpOk (Nat.le_refl _) (I1.hok.fresh (Nat.le_refl _))
  · subst e
    obtain ⟨t, rfl⟩ := r1
    cases ha : z.cps.all (· < 128)
    · exact wpAny_pyIter_wide ha (pi_one (tk := s1.toks) I1 _ (turn_str _ z t "str_iterator" (.inr rfl)) ⟨_, Heap.get?_push_size _ rfl, rfl, rfl⟩ q)
    · exact wpAny_pyIter_ascii ha (pi_one (tk := s1.toks) I1 _ (turn_str _ z t "str_ascii_iterator" (.inl rfl)) ⟨_, Heap.get?_push_size _ rfl, rfl, rfl⟩ q)
end
section
variable {c : Cd} {p : Bool} {δ : List Sl} {te ta tb : TE} {E : En} {t u : TS} {tt : TT} {g : TG}
/-- the things that a list, a tuple, a text hands on -/
def itemsD : D → Option (List D)
  | .lst xs => some xs
  | .tup xs => some xs
  | .str z => some (signsD z)
  | _ => none
theorem wi_any {Φ : List D → List Sl → Prop} (h : WE c p te δ fun r δ1 => ∃ y ds, frz r = .d y ∧ itemsD y = some ds ∧ Φ ds δ1) : WI c p (iAny c.K te) δ Φ := by
  intro B G H σ R F x k
  refine h B G H σ _ F x fun r δ1 v G1 H1 w e1 F1 rv p1 => ?_
  obtain ⟨y, ds, e, hi, w⟩ := w
  obtain ⟨G1', e1', F1', rw1⟩ := rv.weak F1
  rw [e] at rw1
  cases y with
  | lst ys =>
    cases hi
    have rw2 : Rep c.K G1' (.lst ds) v := rw1
    unfold Rep at rw2
    obtain ⟨a, xs, e2, h1, h2⟩ := rw2
    refine .inl ⟨a, e2, ⟨xs, .inl (Rd.of (F1'.exG _ _ h1))⟩, k ds δ1 _ G1' H1 w (e1.trans e1') F1' p1 ⟨_, YAt xs, by rw [← reps_length h2]; exact walk_list, fun H2 e3 => sql (Rd.of (e3 _ _ h1)), fun i H2 x H3 hi (y : YAt xs i H2 x H3) => .inl ⟨y.1, ?_⟩⟩⟩
    obtain ⟨d, hd, hr⟩ := reps_getV h2 y.2
    exact ⟨d, hd, hr⟩
  | tup ys =>
    cases hi
    have rw2 : Rep c.K G1' (.tup ds) v := rw1
    unfold Rep at rw2
    obtain ⟨a, xs, e2, h1, h2⟩ := rw2
    refine .inr (.inl ⟨a, e2, ⟨xs, SqT.of (F1'.exG _ _ h1)⟩, k ds δ1 _ G1' H1 w (e1.trans e1') F1' p1 ⟨_, YAt xs, by rw [← reps_length h2]; exact walk_tup, fun H2 e3 => SqT.of (e3 _ _ h1), fun i H2 x H3 hi (y : YAt xs i H2 x H3) => .inl ⟨y.1, ?_⟩⟩⟩)
    obtain ⟨d, hd, hr⟩ := reps_getV h2 y.2
    exact ⟨d, hd, hr⟩
  | str z =>
    cases hi
    have e2 : v = .str z := by have h : Rep c.K G1' (.str z) v := rw1; unfold Rep at h; exact h
    have el : (signsD z).length = z.cps.size := by unfold signsD; simp
    refine .inr (.inr ⟨z, e2, k _ δ1 _ G1' H1 w (e1.trans e1') F1' p1 ⟨_, fun i H2 y H3 => H3 = H2 ∧ ∃ c, z.cps[i]? = some c ∧ y = .str ⟨#[c]⟩, by rw [el]; exact walk_str, fun _ _ => trivial, fun i H2 y H3 hi (yy : H3 = H2 ∧ ∃ c, z.cps[i]? = some c ∧ y = .str ⟨#[c]⟩) => .inl ⟨yy.1, ?_⟩⟩⟩)
    obtain ⟨_, ch, hc, ey⟩ := yy
    refine ⟨.str ⟨#[ch]⟩, ?_, ?_⟩
    · unfold signsD
      rw [List.getElem?_map, Array.getElem?_toList, hc]
      rfl
    · rw [ey]; exact rep_str
  | _ => cases hi
/-! ### an object of one's own is changed -/
theorem frame_mut {K : PySem.W.Frag} {B G H : Hp} {σ : St} {δ : List Sl} {i : Nat} {a : Addr} {x y : D} {o : HO} (F : Frame K B G H σ δ) (e : δ[i]? = some (.own a x)) (h : OwnR K G (upd H a o) a y) : Frame K B G (upd H a o) σ (δ.set i (.own a y)) := by
  obtain ⟨hB, hG⟩ := F.own a (owned_get e)
  have hn : a ∉ owned (δ.set i .no) := not_owned_set F.nd e (List.mem_singleton.mpr rfl) rfl
  have F0 := frame_forget i F
  have F1 : Frame K B G (upd H a o) σ (δ.set i .no) := by
    refine ⟨fun b u q => ?_, fun b u q => ?_, F0.dis, F0.sl.ex (Ex.refl G) (fun b hb => upd_ne fun z => hn (by rw [← z]; exact hb)), F0.own, F0.nd⟩
    · by_cases z : b = a
      · subst z; rw [hB] at q; cases q
      · rw [upd_ne z]; exact F0.exB b u q
    · by_cases z : b = a
      · subst z; rw [hG] at q; cases q
      · rw [upd_ne z]; exact F0.exG b u q
  obtain ⟨ov, h1, h2, _⟩ := F.get e
  have z := F1.sl.setS (s := .own a y) (ov := none) i fun ov' e' => by
    rw [h1] at e'
    cases e'
    exact ⟨h2, h⟩
  rw [List.set_set] at z
  refine ⟨F1.exB, F1.exG, F1.dis, z, fun b hb => ?_, by rw [owned_set_same e]; exact F.nd⟩
  rw [owned_set_same e] at hb
  exact F.own b hb
theorem own_lst {K : PySem.W.Frag} {B G H : Hp} {σ : St} {δ : List Sl} {i : Nat} {a : Addr} {ds : List D} (F : Frame K B G H σ δ) (e : δ[i]? = some (.own a (.lst ds))) : ∃ xs, H a = some (.lst xs) ∧ Reps K G ds xs := by
  obtain ⟨ov, _, _, h⟩ := F.get e
  exact h
/-- a method that changes a list: by its items and the arguments -/
abbrev Dmu := List D → List D → (List D → D → Prop) → Prop
def MuL (r : V → List V → Hp → VK → Prop) (f : Dmu) : Prop := ∀ (K : PySem.W.Frag) (G H : Hp) (a : Addr) (xs : List V) (ds es : List D) (vs : List V) (Ψ : List D → D → Prop) (Q : VK), H a = some (.lst xs) → Ex G H → Reps K G ds xs → Reps K G es vs → f ds es Ψ →
  (∀ ds' xs' z v, Ψ ds' z → Reps K G ds' xs' → Rep K G z v → Q v (upd H a (.lst xs'))) → r (.ref a) vs H Q
theorem we_mu {r : V → List V → Hp → VK → Prop} {f : Dmu} {tr : TA} {Φ : R → List Sl → Prop} (hm : MuL r f) (h : WE c false te δ fun r1 δ1 => ∃ i a, r1 = .bor i a ∧ (∃ ds, δ1[i]? = some (.own a (.lst ds))) ∧ WA c false tr δ1 fun rs δ2 => ∃ ds es, datas rs = some es ∧ δ2[i]? = some (.own a (.lst ds)) ∧
    f ds es fun ds' z => Φ (.d z) (δ2.set i (.own a (.lst ds')))) : WE c false (tBM c.K "list" r te tr) δ Φ := by
  intro B G H σ Q F x k
  refine h B G H σ _ F x fun r1 δ1 v1 G1 H1 w1 e1 F1 rv1 p1 => ?_
  obtain ⟨i, a, er, ⟨ds0, hd0⟩, w1⟩ := w1
  subst er
  obtain ⟨ev, _⟩ := rv1
  subst ev
  obtain ⟨xs0, hx0, _⟩ := own_lst F1 hd0
  refine ⟨.inl ⟨rfl, xs0, SqL.of hx0⟩, ?_⟩
  refine w1 B G1 H1 σ _ F1 (c.mono _ _ _ e1 x) fun rs δ2 vs G2 H2 w2 e2 F2 rv2 p2 => ?_
  obtain ⟨ds, es, he, hd, hf⟩ := w2
  obtain ⟨xs, hx, hr⟩ := own_lst F2 hd
  refine hm c.K G2 H2 a xs ds es vs _ Q hx F2.exG hr (datas_reps he rv2) hf fun ds' xs' z v q hr' hz => ?_
  exact k _ _ v G2 _ q (e1.trans e2) (frame_mut F2 hd ⟨xs', upd_same, hr'⟩) hz fun hp => by cases hp
theorem reps_one' {K : PySem.W.Frag} {G : Hp} {x : D} {vs : List V} (h : Reps K G [x] vs) : ∃ v, vs = [v] ∧ Rep K G x v := by
  unfold Reps at h
  obtain ⟨v, vr, e, h1, h2⟩ := h
  unfold Reps at h2
  subst h2
  exact ⟨v, e, h1⟩
theorem mu_append : MuL rAppend fun ds es k => ∃ x, es = [x] ∧ ds.length < 100000 ∧ k (ds ++ [x]) .non := fun K G H a xs ds es vs Ψ Q hx eG hr he hf k => by
  obtain ⟨x, e, hl, q⟩ := hf
  subst e
  obtain ⟨v, e2, h2⟩ := reps_one' he
  subst e2
  exact ⟨a, xs, v, rfl, rfl, hx, Evl.sz_lt (by rw [reps_length hr]; exact hl), k _ _ _ _ q (reps_append hr (reps_one h2)) rep_non⟩
/-! ### methods that change nothing -/
def tyM (T : String) : D → Prop
  | .str _ => T = "str"
  | .lst _ => T = "list"
  | _ => False
theorem tyM_ok {B G H : Hp} {σ : St} {δ : List Sl} {r1 : R} {v : V} {x : D} {T : String} (F : Frame c.K B G H σ δ) (h1 : RW c.K G r1 v) (e1 : view δ r1 = some x) (h : tyM T x) : tyV c.K T v H := by
  cases x with
  | str z => have q := view_repH F h1 e1; unfold Rep at q; subst q; exact h
  | lst xs =>
    obtain ⟨a, vs, q1, q2, q3⟩ := view_lst F h1 e1
    subst q1
    exact .inl ⟨h, vs, .inl q2⟩
  | _ => exact h.elim
abbrev Dme := D → List D → (R → Prop) → Prop
def MeD (c : Cd) (r : V → List V → Hp → VK → Prop) (f : Dme) : Prop := ∀ (B G H : Hp) (σ : St) (δ : List Sl) (r1 : R) (rs : List R) (v : V) (vs : List V) (x : D) (ds : List D) (Ψ : R → Prop) (Q : VK), Frame c.K B G H σ δ → RW c.K G r1 v → RVs c.K G rs vs → view δ r1 = some x → views δ rs = some ds → f x ds Ψ →
  (∀ r v G' H', Ψ r → Ex G G' → Ex H H' → Frame c.K B G' H' σ δ → RV c.K B G' H' δ r v → Q v H') → r v vs H Q
theorem we_bm {T : String} {r : V → List V → Hp → VK → Prop} {f : Dme} {tr : TA} {Φ : R → List Sl → Prop} (hm : MeD c r f) (h : WE c p te δ fun r1 δ1 => (∃ x, view δ1 (frz r1) = some x ∧ tyM T x) ∧ WA c p tr δ1 fun rs δ2 => ∃ x ds, view δ2 (frz r1) = some x ∧ views δ2 rs = some ds ∧ f x ds fun r => Φ r δ2) : WE c p (tBM c.K T r te tr) δ Φ := by
  intro B G H σ Q F x k
  refine h B G H σ _ F x fun r1 δ1 v1 G1 H1 w1 e1 F1 rv1 p1 => ?_
  obtain ⟨G1', e1', F1', rw1⟩ := rv1.weak F1
  obtain ⟨⟨y, hy, ht⟩, w1⟩ := w1
  refine ⟨tyM_ok F1' rw1 hy ht, ?_⟩
  refine w1 B G1' H1 σ _ F1' (c.mono _ _ _ (e1.trans e1') x) fun rs δ2 vs G2 H2 w2 e2 F2 rv2 p2 => ?_
  obtain ⟨z, ds, hz, hds, hf⟩ := w2
  exact hm B G2 H2 σ δ2 _ rs v1 vs z ds _ Q F2 (rw1.mono e2) rv2 hz hds hf fun r v G' H' q e3 e4 F3 rv3 => k r δ2 v G' H' q ((e1.trans e1').trans (e2.trans e3)) F3 rv3 fun hp => ⟨(p2 hp).1.trans (p1 hp).1, ((p1 hp).2.trans (p2 hp).2).trans e4⟩
/-- texts among data -/
def strsD : List D → Option (List Str)
  | [] => some []
  | .str b :: r => (strsD r).map (b :: ·)
  | _ :: _ => none
theorem strs_rep {K : PySem.W.Frag} {G : Hp} : ∀ {xs : List D} {bs : List Str} {vs : List V}, strsD xs = some bs → Reps K G xs vs → vs = bs.map V.str
  | [], bs, vs, e, h => by cases e; unfold Reps at h; exact h
  | x :: xs, bs, vs, e, h => by
    unfold Reps at h
    obtain ⟨v, vr, e1, h1, h2⟩ := h
    cases x with
    | str b =>
      unfold strsD at e
      cases q : strsD xs with
      | none => rw [q] at e; cases e
      | some cs =>
        rw [q] at e
        cases e
        unfold Rep at h1
        rw [e1, h1, strs_rep q h2]
        rfl
    | _ => cases e
theorem strsD_map (bs : List Str) : strsD (bs.map D.str) = some bs := by
  induction bs with
  | nil => rfl
  | cons b bs ih =>
    show (strsD (bs.map D.str)).map (b :: ·) = _
    rw [ih]
    rfl
def rJoinA (K : PySem.W.Frag) : V → List V → Hp → VK → Prop := fun x xs H Q => ∃ a p, ∃ ys : List Str, x = .str a ∧ xs = [.ref p] ∧ (SqL K H p (ys.map V.str) ∨ SqT K H p (ys.map V.str)) ∧ (ys.map (·.length)).sum + ys.length * a.length ≤ 16777216 ∧ Q (.str (Txt.join a ys)) H
theorem med_join : MeD c (rJoinA c.K) fun x ds k => ∃ a xs ys, x = .str a ∧ ds = [.lst xs] ∧ strsD xs = some ys ∧ (ys.map (·.length)).sum + ys.length * a.length ≤ 16777216 ∧ k (.d (.str (Str.join a ys))) := by
  intro B G H σ δ r1 rs v vs x ds Ψ Q F h1 hr e1 e2 hf k
  obtain ⟨a, xs, ys, ex, ed, hs, hl, q⟩ := hf
  subst ex ed
  have q1 := view_repH F h1 e1
  unfold Rep at q1
  cases rs with
  | nil => cases views_nil e2
  | cons r2 rs =>
    obtain ⟨x', es, e3, e4, e5⟩ := views_cons e2
    cases e3
    obtain ⟨w, wr, e6, h3, h4⟩ := hr
    cases rs with
    | cons r3 rs => obtain ⟨_, _, e7, _⟩ := views_cons e5; cases e7
    | nil =>
      have e8 : wr = [] := h4
      subst e8 e6
      obtain ⟨b, us, q2, q3, q4⟩ := view_lst F h3 e4
      have e9 := strs_rep hs q4
      subst e9 q2
      refine ⟨a, b, ys, q1, rfl, .inl (.inl q3), hl, ?_⟩
      rw [show Txt.join a ys = Str.join a ys from TL.join_eq a ys]
      exact k _ _ G H q (Ex.refl G) (Ex.refl H) F (rep_str (K := c.K) (G := G))
theorem views_one {r2 : R} {rs : List R} {K : PySem.W.Frag} {G : Hp} {vs : List V} {x : D} (e : views δ rs = some [x]) (h : RVs K G rs vs) : ∃ r w, rs = [r] ∧ vs = [w] ∧ view δ r = some x ∧ RW K G r w := by
  cases rs with
  | nil => cases views_nil e
  | cons r2 rs =>
    obtain ⟨x', es, e3, e4, e5⟩ := views_cons e
    cases e3
    obtain ⟨w, wr, e6, h3, h4⟩ := h
    cases rs with
    | cons r3 rs => obtain ⟨_, _, e7, _⟩ := views_cons e5; cases e7
    | nil =>
      have e8 : wr = [] := h4
      subst e8
      exact ⟨r2, w, rfl, e6, e4, h3⟩
def rFindA : V → List V → Hp → VK → Prop := fun x xs H Q => ∃ a b, x = .str a ∧ xs = [.str b] ∧ Q (.int (Txt.find a b)) H
/-! ### dicts -/
theorem we_dnew {Φ : R → List Sl → Prop} (h : ∀ a, Φ (.own a (.dct [])) δ) : WE c p tDNewK δ Φ := by
  intro B G H σ Q F x k a ha
  obtain ⟨h1, h2, h3⟩ := F.fresh ha
  exact k _ δ _ G _ (h a) (Ex.refl G) (F.ex (Ex.new ha)) ⟨rfl, ⟨[], upd_same, by unfold RepK; rfl⟩, h1, h2, h3⟩ fun _ => ⟨rfl, Ex.new ha⟩
def keyD : Key → D
  | .inl i => .int i
  | .inr x => .str x
def dKey : D → Option Key
  | .int i => some (.inl i)
  | .str x => some (.inr x)
  | _ => none
theorem dKey_rep {K : PySem.W.Frag} {G : Hp} {x : D} {v : V} {k : Key} (e : dKey x = some k) (h : Rep K G x v) : v = kV k := by
  cases x <;> first | (cases e; done) | (cases e; unfold Rep at h; exact h)
def putD (kvs : List (Key × D)) (k : Key) (v : D) : List (Key × D) :=
  if (kvs.any fun kv => decide (kv.1 = k)) = true then kvs.map (fun kv => if kv.1 = k then (kv.1, v) else kv) else kvs ++ [(k, v)]
def getD (kvs : List (Key × D)) (k : Key) : Option D := (kvs.find? fun kv => decide (kv.1 = k)).map (·.2)
def dropD (kvs : List (Key × D)) (k : Key) : List (Key × D) := kvs.filter fun kv => decide (kv.1 ≠ k)
theorem repK_any {K : PySem.W.Frag} {G : Hp} (k : Key) : ∀ {ds : List (Key × D)} {vs : List (Key × V)}, RepK K G ds vs → (ds.any fun kv => decide (kv.1 = k)) = (vs.any fun kv => decide (kv.1 = k))
  | [], vs, h => by unfold RepK at h; subst h; rfl
  | (k', d) :: ds, vs, h => by
    unfold RepK at h
    obtain ⟨v, vr, e, h1, h2⟩ := h
    subst e
    rw [List.any_cons, List.any_cons, repK_any k h2]
theorem repK_map {K : PySem.W.Frag} {G : Hp} {k : Key} {x : D} {w : V} (hx : Rep K G x w) : ∀ {ds : List (Key × D)} {vs : List (Key × V)}, RepK K G ds vs →
    RepK K G (ds.map (fun kv => if kv.1 = k then (kv.1, x) else kv)) (vs.map (fun kv => if kv.1 = k then (kv.1, w) else kv))
  | [], vs, h => by unfold RepK at h; subst h; unfold RepK; rfl
  | (k', d) :: ds, vs, h => by
    unfold RepK at h
    obtain ⟨v, vr, e, h1, h2⟩ := h
    subst e
    have ih := repK_map (k := k) hx h2
    rw [List.map_cons, List.map_cons]
    by_cases q : k' = k
    · simp only [if_pos q]
      unfold RepK
      exact ⟨w, _, rfl, hx, ih⟩
    · simp only [if_neg q]
      unfold RepK
      exact ⟨v, _, rfl, h1, ih⟩
theorem repK_app {K : PySem.W.Frag} {G : Hp} {k : Key} {x : D} {w : V} (hx : Rep K G x w) : ∀ {ds : List (Key × D)} {vs : List (Key × V)}, RepK K G ds vs → RepK K G (ds ++ [(k, x)]) (vs ++ [(k, w)])
  | [], vs, h => by
    unfold RepK at h
    subst h
    show RepK K G [(k, x)] [(k, w)]
    unfold RepK
    exact ⟨w, [], rfl, hx, by unfold RepK; rfl⟩
  | (k', d) :: ds, vs, h => by
    unfold RepK at h
    obtain ⟨v, vr, e, h1, h2⟩ := h
    subst e
    show RepK K G ((k', d) :: (ds ++ [(k, x)])) ((k', v) :: (vr ++ [(k, w)]))
    unfold RepK
    exact ⟨v, _, rfl, h1, repK_app hx h2⟩
theorem repK_put {K : PySem.W.Frag} {G : Hp} {k : Key} {x : D} {w : V} {ds : List (Key × D)} {vs : List (Key × V)} (h : RepK K G ds vs) (hx : Rep K G x w) : RepK K G (putD ds k x) (putK vs k w) := by
  unfold putD putK
  rw [repK_any k h]
  split
  · exact repK_map hx h
  · exact repK_app hx h
theorem repK_val {K : PySem.W.Frag} {G : Hp} {k : Key} : ∀ {ds : List (Key × D)} {vs : List (Key × V)}, RepK K G ds vs → (getD ds k = none ∧ valV vs k = none) ∨ ∃ x v, getD ds k = some x ∧ valV vs k = some v ∧ Rep K G x v
  | [], vs, h => by unfold RepK at h; subst h; exact .inl ⟨rfl, rfl⟩
  | (k', d) :: ds, vs, h => by
    unfold RepK at h
    obtain ⟨v, vr, e, h1, h2⟩ := h
    subst e
    by_cases q : k' = k
    · refine .inr ⟨d, v, by simp [getD, q], by simp [valV, q], h1⟩
    · have ih := repK_val (k := k) h2
      have e1 : getD ((k', d) :: ds) k = getD ds k := by simp [getD, q]
      have e2 : valV ((k', v) :: vr) k = valV vr k := by simp [valV, q]
      rw [e1, e2]
      exact ih
theorem repK_len {K : PySem.W.Frag} {G : Hp} : ∀ {ds : List (Key × D)} {vs : List (Key × V)}, RepK K G ds vs → vs.length = ds.length
  | [], vs, h => by unfold RepK at h; subst h; rfl
  | (k', d) :: ds, vs, h => by
    unfold RepK at h
    obtain ⟨v, vr, e, h1, h2⟩ := h
    subst e
    simp [repK_len h2]
def mergeD (kvs more : List (Key × D)) : List (Key × D) := more.foldl (fun acc kv => putD acc kv.1 kv.2) kvs
theorem repK_merge {K : PySem.W.Frag} {G : Hp} : ∀ {more : List (Key × D)} {mv : List (Key × V)} {ds : List (Key × D)} {vs : List (Key × V)}, RepK K G more mv → RepK K G ds vs → RepK K G (mergeD ds more) (mergeK vs mv)
  | [], mv, ds, vs, h, h' => by unfold RepK at h; subst h; exact h'
  | (k', d) :: more, mv, ds, vs, h, h' => by
    unfold RepK at h
    obtain ⟨v, vr, e, h1, h2⟩ := h
    subst e
    have ih := repK_merge h2 (repK_put (k := k') h' h1)
    exact ih
/-- pairs from the left -/
def WP (c : Cd) (p : Bool) (trs : List (TE × TE)) (δ : List Sl) (Φ : List (D × D) → List Sl → Prop) : Prop :=
  ∀ (B G H : Hp) (σ : St) (Q : List (V × V) → Hp → Prop), Frame c.K B G H σ δ → c.xr B G →
    (∀ ps δ' vs G' H', Φ ps δ' → Ex G G' → Frame c.K B G' H' σ δ' → Reps c.K G' (ps.map (·.1)) (vs.map (·.1)) → Reps c.K G' (ps.map (·.2)) (vs.map (·.2)) → (p = true → δ' = δ ∧ Ex H H') → Q vs H') → tPairs trs σ H Q
theorem wp_nil {Ψ : List (D × D) → List Sl → Prop} (h : Ψ [] δ) : WP c p [] δ Ψ := fun B G H σ Q F x k => k [] δ [] G H h (Ex.refl G) F reps_nil reps_nil fun _ => ⟨rfl, Ex.refl H⟩
theorem wp_cons {trs : List (TE × TE)} {Ψ : List (D × D) → List Sl → Prop} (h : WE c p ta δ fun r1 δ1 => ∃ x, frz r1 = .d x ∧ WE c p tb δ1 fun r2 δ2 => ∃ y, frz r2 = .d y ∧ WP c p trs δ2 fun ps δ3 => Ψ ((x, y) :: ps) δ3) : WP c p ((ta, tb) :: trs) δ Ψ := by
  intro B G H σ Q F x k
  refine h B G H σ _ F x fun r1 δ1 v1 G1 H1 w1 e1 F1 rv1 p1 => ?_
  obtain ⟨G1', e1', F1', rw1⟩ := rv1.weak F1
  obtain ⟨a, ea, w1⟩ := w1
  rw [ea] at rw1
  refine w1 B G1' H1 σ _ F1' (c.mono _ _ _ (e1.trans e1') x) fun r2 δ2 v2 G2 H2 w2 e2 F2 rv2 p2 => ?_
  obtain ⟨G2', e2', F2', rw2⟩ := rv2.weak F2
  obtain ⟨b, eb, w2⟩ := w2
  rw [eb] at rw2
  have eG := (e1.trans e1').trans (e2.trans e2')
  refine w2 B G2' H2 σ _ F2' (c.mono _ _ _ eG x) fun ps δ3 vs G3 H3 w3 e3 F3 rk rv p3 => ?_
  have ra : Rep c.K G3 a v1 := (RW.mono ((e2.trans e2').trans e3) rw1 : RW c.K G3 (.d a) v1)
  have rb : Rep c.K G3 b v2 := (RW.mono e3 rw2 : RW c.K G3 (.d b) v2)
  exact k _ δ3 _ G3 H3 w3 (eG.trans e3) F3 (reps_cons ra rk) (reps_cons rb rv) fun hp => ⟨((p3 hp).1.trans (p2 hp).1).trans (p1 hp).1, ((p1 hp).2.trans (p2 hp).2).trans (p3 hp).2⟩
theorem pairs_rep {K : PySem.W.Frag} {G : Hp} : ∀ {kds : List (Key × D)} {vs : List (V × V)}, Reps K G (kds.map fun kv => keyD kv.1) (vs.map (·.1)) → Reps K G (kds.map (·.2)) (vs.map (·.2)) → ∃ kvs : List (Key × V), vs = kvs.map (fun kv => (kV kv.1, kv.2)) ∧ RepK K G kds kvs
  | [], vs, h, h' => by
    unfold Reps at h
    have e : vs = [] := by simpa using h
    subst e
    exact ⟨[], rfl, by unfold RepK; rfl⟩
  | (k, d) :: kds, vs, h, h' => by
    cases vs with
    | nil => rw [List.map_cons, List.map_nil] at h; unfold Reps at h; obtain ⟨_, _, e, _⟩ := h; cases e
    | cons w vs =>
      rw [List.map_cons, List.map_cons] at h h'
      unfold Reps at h h'
      obtain ⟨v1, r1, e1, h1, h2⟩ := h
      obtain ⟨v2, r2, e2, h3, h4⟩ := h'
      cases e1
      cases e2
      obtain ⟨kvs, e3, h5⟩ := pairs_rep h2 h4
      have ek : w.1 = kV k := by
        cases k <;> (unfold keyD Rep at h1; exact h1)
      refine ⟨(k, w.2) :: kvs, ?_, ?_⟩
      · rw [List.map_cons, ← e3, ← ek]
      · unfold RepK
        exact ⟨w.2, kvs, rfl, h3, h5⟩
theorem we_disp {trs : List (TE × TE)} {Φ : R → List Sl → Prop} (h : WP (c0 c.K) p trs δ fun ps δ1 => ∃ kds : List (Key × D), ps = kds.map (fun kv => (keyD kv.1, kv.2)) ∧ kds.length ≤ 15 ∧ ∀ a, Φ (.own a (.dct (mergeD [] kds))) δ1) : WE c p (tDisp trs) δ Φ := by
  intro B G H σ Q F x k a ha
  obtain ⟨hB, hG, hO⟩ := F.fresh ha
  have Fb : Frame c.K (upd B a (.dK [])) G (upd H a (.dK [])) σ δ := by
    have F1 := F.ex (Ex.new (o := .dK []) ha)
    refine ⟨fun b u q => ?_, F1.exG, fun b => ?_, F1.sl, fun b hb => ⟨?_, (F1.own b hb).2⟩, F1.nd⟩
    · by_cases z : b = a
      · subst z; rw [upd_same] at q ⊢; exact q
      · rw [upd_ne z] at q; exact F1.exB b u q
    · by_cases z : b = a
      · subst z; exact .inr (.inl hG)
      · rw [upd_ne z]; exact F1.dis b
    · rw [upd_ne (fun z => hO (by rw [← z]; exact hb))]
      exact (F1.own b hb).1
  refine h _ G _ σ _ Fb trivial fun ps δ1 vs G1 H1 w1 e1 F1 rk rv p1 => ?_
  obtain ⟨kds, ep, hl, w1⟩ := w1
  subst ep
  have hk : Reps c.K G1 (kds.map fun kv => keyD kv.1) (vs.map (·.1)) := by simpa [List.map_map, Function.comp_def] using rk
  have hv : Reps c.K G1 (kds.map (·.2)) (vs.map (·.2)) := by simpa [List.map_map, Function.comp_def] using rv
  obtain ⟨kvs, ev, hr⟩ := pairs_rep hk hv
  have hH1 : H1 a = some (.dK []) := F1.exB a _ upd_same
  have hG1 : G1 a = none := F1.disN upd_same (fun _ z => nomatch z)
  have hO1 : a ∉ owned δ1 := fun z => by
    have q := (F1.own a z).1
    rw [upd_same] at q
    cases q
  refine ⟨hH1, kvs, ev, by rw [repK_len hr]; exact hl, ?_⟩
  have F2 : Frame c.K B G1 (upd H1 a (.dK (mergeK [] kvs))) σ δ1 := by
    refine ⟨fun b u q => ?_, fun b u q => ?_, fun b => ?_, F1.sl.ex (Ex.refl G1) (fun b hb => upd_ne fun z => hO1 (by rw [← z]; exact hb)), fun b hb => ⟨?_, (F1.own b hb).2⟩, F1.nd⟩
    · have z : b ≠ a := fun z => by subst z; rw [hB] at q; cases q
      rw [upd_ne z]
      exact F1.exB b u (by rw [upd_ne z]; exact q)
    · have z : b ≠ a := fun z => by subst z; rw [hG1] at q; cases q
      rw [upd_ne z]
      exact F1.exG b u q
    · by_cases z : b = a
      · subst z; exact .inl hB
      · have q := F1.dis b; rw [upd_ne z] at q; exact q
    · have z : b ≠ a := fun z => hO1 (by rw [← z]; exact hb)
      have q := (F1.own b hb).1
      rw [upd_ne z] at q
      exact q
  refine k _ δ1 _ G1 _ (w1 a) e1 F2 ⟨rfl, ⟨_, upd_same, repK_merge hr (by unfold RepK; rfl)⟩, hB, hG1, hO1⟩ fun hp => ⟨(p1 hp).1, fun b u q => ?_⟩
  have z : b ≠ a := fun z => by subst z; rw [ha] at q; cases q
  rw [upd_ne z]
  exact (p1 hp).2 b u (by rw [upd_ne z]; exact q)
end
end DL

/-! DL7: the words as they are used. -/
namespace DL
open PySem PySem.Spec PyProof.Rows L2
open Evl (Ex)
/-! ### readings that the printer names -/
def rIsNA : R2 := fun x y H Q => y = .non ∧ Q (.bl (decide (x = .non))) H
def rNotNA : R2 := fun x y H Q => y = .non ∧ Q (.bl (!decide (x = .non))) H
theorem op_isNA {X : Cx} : OpR X (compareOp .Is) rIsNA := op_isN
theorem op_notNA {X : Cx} : OpR X (compareOp .IsNot) rNotNA := op_notN
def rSubA : R2 := rI0 fun i j => .int (i - j)
def rDivA : R2 := rI CDivW fun i j => .int (i / j)
def rModA : R2 := rI (fun _ j => 0 < j) fun i j => .int (i % j)
def rPowA : R2 := rI CPow fun i j => .int (i ^ j.toNat)
def rShlA : R2 := rI CPow fun i j => .int (i * 2 ^ j.toNat)
def rShrA : R2 := rI (fun _ j => 0 ≤ j) fun i j => .int (i / 2 ^ j.toNat)
def rLtA : R2 := rI0 fun i j => .bl (decide (i < j))
def rLeA : R2 := rI0 fun i j => .bl (decide (i ≤ j))
def rGtA : R2 := rI0 fun i j => .bl (decide (j < i))
def rGeA : R2 := rI0 fun i j => .bl (decide (j ≤ i))
def uNegA : V → Hp → VK → Prop := rU fun i => .int (-i)
def rAddI : TIp := fun x y H Q => rI0 (fun i j => .int (i + j)) x y H Q ∨ rAddS x y H Q
section
variable {X : Cx}
theorem op_subA : OpR X (binaryOp .Sub) rSubA := op_sub
theorem op_divA : OpR X (binaryOp .FloorDiv) rDivA := op_fdivW
theorem op_modA : OpR X (binaryOp .Mod) rModA := op_mod
theorem op_powA : OpR X (binaryOp .Pow) rPowA := op_pow
theorem op_ltA : OpR X (compareOp .Lt) rLtA := op_lt
theorem op_leA : OpR X (compareOp .LtE) rLeA := op_le
theorem op_gtA : OpR X (compareOp .Gt) rGtA := op_gt
theorem un_negA : UnR X (unaryOp .USub) uNegA := un_neg
theorem call_lenA : CallR X (.builtin "len") (rLenA X.K) := call_len
theorem call_maxA (hc : X.calm = true) : CallR X (.builtin "max") rMax2 := call_max2 hc
theorem call_minA (hc : X.calm = true) : CallR X (.builtin "min") rMin2 := call_min2 hc
theorem call_strA : CallR X (.type "str") rStrI := call_str_int
theorem call_listA : CallR X (.type "list") (rListA X.K) := call_list_of
theorem call_tupA : CallR X (.type "tuple") (rTupA X.K) := call_tuple_of
theorem mt_joinA : MtR X "str.join" (rJoinA X.K) := L2.mt_join
theorem mt_appendA : MtR X "list.append" rAppend := mt_append
end
/-! ### the words -/
def W (c : Cd) (t : TS) (δ : List Sl) (N : List Sl → Prop) (R : R → List Sl → Prop) (B C : List Sl → Prop) : Prop := WS c t δ ⟨N, R, B, C⟩
section
variable {c : Cd} {p : Bool} {δ : List Sl} {te ta tb : TE} {t u : TS} {tt : TT} {g : TG} {N B C : List Sl → Prop} {Rt : R → List Sl → Prop}
theorem w_seq (h : W c t δ (fun δ' => W c u δ' N Rt B C) Rt B C) : W c (tSeq t u) δ N Rt B C := ws_seq h
theorem w_next (h : N δ) : W c tNext δ N Rt B C := ws_next h
theorem w_drop (h : WE c false te δ fun _ δ1 => N δ1) : W c (tDrop te) δ N Rt B C := ws_drop h
theorem w_ret (h : WE c false te δ Rt) : W c (tRet te) δ N Rt B C := ws_ret h
theorem w_if (h : WT c false tt δ fun b δ1 => (b = true → W c t δ1 N Rt B C) ∧ (b = false → W c u δ1 N Rt B C)) : W c (tIfS tt t u) δ N Rt B C := ws_if h
theorem w_asg (h : WE c false te δ fun r δ1 => WG c g r δ1 N) : W c (tAsg te g) δ N Rt B C := ws_asg h
theorem w_for {wi : TI} (h : WI c false wi δ fun ds δ1 => ∃ I : Nat → List Sl → Prop, I 0 δ1 ∧
    (∀ i d δ2, ds[i]? = some d → I i δ2 → WG c g (.d d) δ2 fun δ3 => W c t δ3 (I (i + 1)) Rt N (I (i + 1))) ∧ ∀ δ2, I ds.length δ2 → N δ2) : W c (tFor wi g t) δ N Rt B C := ws_for h
theorem w_while (I : Nat → List Sl → Prop) (n : Nat) (h0 : I n δ) (hs : ∀ m δ', I m δ' → WT c false tt δ' fun b δ2 => (b = true → W c t δ2 (fun δ3 => ∃ m', m' < m ∧ I m' δ3) Rt N (fun δ3 => ∃ m', m' < m ∧ I m' δ3)) ∧ (b = false → N δ2)) : W c (tWhile tt t) δ N Rt B C := ws_while (I := I) n h0 hs
theorem w_frz (i : Nat) {a : Addr} {x : D} (e : δ[i]? = some (.own a x)) (h : W c t (δ.set i (.d x)) N Rt B C) : W c t δ N Rt B C := ws_frz i e h
theorem w_mono {N' B' C' : List Sl → Prop} {Rt' : R → List Sl → Prop} (h : W c t δ N Rt B C) (m1 : ∀ δ', N δ' → N' δ') (m2 : ∀ r δ', Rt r δ' → Rt' r δ') (m3 : ∀ δ', B δ' → B' δ') (m4 : ∀ δ', C δ' → C' δ') : W c t δ N' Rt' B' C' := ws_mono h m1 m2 m3 m4
/-! ### operations on data, as they come out -/
variable {k : R → Prop} {i j : Int} {x y : D} {xs ys : List D} {s z : Str} {b : Bool}
theorem dAdd_i (h : k (.d (.int (i + j)))) : dAdd (.int i) (.int j) k := h
theorem dAdd_s (h1 : s.length + z.length ≤ 16000000) (h : k (.d (.str (s ++ z)))) : dAdd (.str s) (.str z) k := ⟨h1, h⟩
theorem dAdd_l (h1 : xs.length + ys.length ≤ 100000) (h : ∀ a, k (.own a (.lst (xs ++ ys)))) : dAdd (.lst xs) (.lst ys) k := ⟨h1, h⟩
theorem dInt0_i {g : Int → Int → D} (h : k (.d (g i j))) : dInt0 g (.int i) (.int j) k := h
theorem dInt_i {Cc : Int → Int → Prop} {g : Int → Int → D} (hc : Cc i j) (h : k (.d (g i j))) : dInt Cc g (.int i) (.int j) k := ⟨hc, h⟩
theorem dMul_i (hc : CMul i j ∨ CMulX i j) (h : k (.d (.int (i * j)))) : dMul (.int i) (.int j) k := ⟨hc, h⟩
theorem dMul_s (hc : s.length ≤ 1000 ∧ i ≤ 4000 ∧ -4000 ≤ i) (h : k (.d (.str (Txt.mul s i)))) : dMul (.str s) (.int i) k := ⟨hc, h⟩
theorem dEq_s {f : Bool → Bool} (e : sEq x y = some b) (h : k (.d (.bl (f b)))) : dEqF f x y k := .inl ⟨b, e, h⟩
theorem dEq_d {f : Bool → Bool} {d e : PyData} (h1 : py x = some d) (h2 : py y = some e) (h3 : SeqAt.shaped d = true) (h4 : SeqAt.shaped e = true) (h : k (.d (.bl (f (PyData.eqv d e))))) : dEqF f x y k := .inr ⟨d, e, h1, h2, h3, h4, h⟩
theorem dIn_s {f : Bool → Bool} {ch : Nat} (h : k (.d (.bl (f (decide (ch ∈ z.cps.toList)))))) : dIn f (.str ⟨#[ch]⟩) (.str z) k := ⟨ch, rfl, h⟩
theorem dIx_l (h1 : atI xs i = some x) (h : k (.d x)) : dIx (.lst xs) (.int i) k := ⟨x, h1, h⟩
theorem dIx_r (h1 : atI xs i = some x) (h : k (.d x)) : dIx (.ro xs) (.int i) k := ⟨x, h1, h⟩
theorem dIx_t (h1 : atI xs i = some x) (h : k (.d x)) : dIx (.tup xs) (.int i) k := ⟨x, h1, h⟩
theorem dIx_s {ch : Nat} (h0 : z.length ≤ 16000000) (h1 : atI z.cps.toList i = some ch) (h : k (.d (.str ⟨#[ch]⟩))) : dIx (.str z) (.int i) k := ⟨h0, ch, h1, h⟩
theorem dSl_l {lo hi : Option Int} (h : ∀ a, k (.own a (.lst (cutD xs lo hi)))) : dSl (.lst xs) lo hi k := h
theorem dSl_s {lo hi : Option Int} (h0 : z.length ≤ 16000000) (h : k (.d (.str (cutS z lo hi)))) : dSl (.str z) lo hi k := ⟨h0, h⟩
theorem dIsN_ {f : Bool → Bool} (h : k (.d (.bl (f (isNon x))))) : dIsN f x .non k := ⟨rfl, h⟩
theorem br_t {P Q : Prop} (h : P) : (true = true → P) ∧ (true = false → Q) := ⟨fun _ => h, fun q => nomatch q⟩
theorem br_f {P Q : Prop} (h : Q) : (false = true → P) ∧ (false = false → Q) := ⟨fun q => (nomatch q), fun _ => h⟩
theorem br {P Q : Prop} {b : Bool} (h1 : b = true → P) (h2 : b = false → Q) : (b = true → P) ∧ (b = false → Q) := ⟨h1, h2⟩
/-- by a proposition -/
theorem br_d {P Q A : Prop} [Decidable A] (h1 : A → P) (h2 : ¬ A → Q) : (decide A = true → P) ∧ (decide A = false → Q) := ⟨fun h => h1 (of_decide_eq_true h), fun h => h2 (of_decide_eq_false h)⟩
theorem br_n {P Q A : Prop} [Decidable A] (h1 : ¬ A → P) (h2 : A → Q) : ((!decide A) = true → P) ∧ ((!decide A) = false → Q) := ⟨fun h => h1 (by simpa using h), fun h => h2 (by simpa using h)⟩
theorem br_not {P Q : Prop} (h : (b = true → Q) ∧ (b = false → P)) : ((!b) = true → P) ∧ ((!b) = false → Q) := ⟨fun q => h.2 (by simpa using q), fun q => h.1 (by simpa using q)⟩
theorem opd_addA' : OpD c rAddA dAdd := opd_add
theorem opd_subA : OpD c rSubA (dInt0 fun i j => .int (i - j)) := opd_sub
theorem opd_divA : OpD c rDivA (dInt CDivW fun i j => .int (i / j)) := opd_fdiv
theorem opd_modA : OpD c rModA (dInt (fun _ j => 0 < j) fun i j => .int (i % j)) := opd_mod
theorem opd_powA : OpD c rPowA (dInt CPow fun i j => .int (i ^ j.toNat)) := opd_pow
theorem opd_ltA : OpD c rLtA (dInt0 fun i j => .bl (decide (i < j))) := opd_lt
theorem opd_leA : OpD c rLeA (dInt0 fun i j => .bl (decide (i ≤ j))) := opd_le
theorem opd_gtA : OpD c rGtA (dInt0 fun i j => .bl (decide (j < i))) := opd_gt
theorem opd_isNA : OpD c rIsNA (dIsN id) := opd_isN
theorem opd_notNA : OpD c rNotNA (dIsN not) := opd_notN
def dAddI : Dop
  | .int i, .int j, k => k (.d (.int (i + j)))
  | .str x, .str y, k => x.length + y.length ≤ 16000000 ∧ k (.d (.str (x ++ y)))
  | _, _, _ => False
theorem we_negA {Φ : R → List Sl → Prop} (h : WE c p ta δ fun r δ1 => ∃ i, r = .d (.int i) ∧ Φ (.d (.int (-i))) δ1) : WE c p (tUn uNegA ta) δ Φ := we_neg h
/-- the def's own words from the parameters' -/
theorem lift_W {K : PySem.W.Frag} {S : SpD} {t : TS} {Nm : List Str} {vs : List V} {H : Hp} {Q : VK} {X : XK} (h : lift K S vs H Q X)
    (hb : ∀ as Φ, S as Φ → W (c0 K) t (as ++ List.replicate (Nm.length - as.length) .no) (RetD as Φ (.d .non)) (RetD as Φ) (fun _ => False) (fun _ => False)) : t { nx := fun _ H' => Q .non H', rt := Q } (L2.start Nm vs) H :=
  lift_body h fun as Φ _ hS => hb as Φ hS
theorem lift_len {K : PySem.W.Frag} {S : SpD} {n : Nat} (hl : ∀ as Φ, S as Φ → as.length = n) {vs : List V} {H : Hp} {Q : VK} {X : XK} (h : lift K S vs H Q X) : vs.length = n := by
  obtain ⟨B, G, as, F, hS⟩ := h
  have e := F.sl.len
  rw [← hl as _ hS, ← e, List.length_map]
end
end DL
namespace DL
open PySem PySem.Spec PyProof.Rows L2
section
variable {c : Cd} {p : Bool} {δ δ' : List Sl} {r1 r2 : R} {x y : D} {b : Bool} {k : R → Prop} {f : Dop}
theorem ex_op (h1 : view δ r1 = some x) (h2 : view δ r2 = some y) (q : f x y k) : ∃ x y, view δ r1 = some x ∧ view δ r2 = some y ∧ f x y k := ⟨x, y, h1, h2, q⟩
theorem ex_bl {P : Bool → Prop} (q : P b) : ∃ b', R.d (.bl b) = .d (.bl b') ∧ P b' := ⟨b, rfl, q⟩
theorem ex_int {i : Int} {P : Int → Prop} (q : P i) : ∃ i', R.d (.int i) = .d (.int i') ∧ P i' := ⟨i, rfl, q⟩
theorem ex_dat {P : D → Prop} (h : frz r1 = .d x) (q : P x) : ∃ x, frz r1 = .d x ∧ P x := ⟨x, h, q⟩
/-- the truth of a truth -/
theorem ex_trb {P : Bool → Prop} (q : P b) : ∃ x b', view δ (frz (R.d (.bl b))) = some x ∧ truD x = some b' ∧ strOk x ∧ (∀ ds, x = .dct ds → ∃ i a, R.d (.bl b) = .bor i a) ∧ P b' := ⟨_, b, rfl, rfl, trivial, (fun _ e => nomatch e), q⟩
theorem ex_two {g : Int → Int → Int} {i j : Int} {Φ : R → Prop} (q : Φ (.d (.int (g i j)))) : ∃ x y, [D.int i, D.int j] = [x, y] ∧ dInt2 g x y Φ := ⟨_, _, rfl, q⟩
theorem ex_it {ds : List D} {P : List D → Prop} (h : frz r1 = .d x) (h2 : itemsD x = some ds) (q : P ds) : ∃ y ds, frz r1 = .d y ∧ itemsD y = some ds ∧ P ds := ⟨x, ds, h, h2, q⟩
theorem ex_view {P : D → Prop} (h : view δ r1 = some x) (q : P x) : ∃ x, view δ r1 = some x ∧ P x := ⟨x, h, q⟩
theorem wt_yes {Φ : Bool → List Sl → Prop} (q : Φ true δ) : WT c p tYes δ Φ := fun B G H σ Q F x k => k true δ G H q (Evl.Ex.refl G) F fun _ => ⟨rfl, Evl.Ex.refl H⟩
/-- types of flat things are told -/
theorem isi_ty {n T : String} (h : tyD x = some T) (h2 : kitB T n = some b) : isiD x (.ty n) = some b := by
  unfold isiD
  rw [h]
  exact h2
end
theorem kit_ii : kitB "int" "int" = some true := by decide +kernel
theorem kit_bi : kitB "bool" "int" = some true := by decide +kernel
theorem kit_ib : kitB "int" "bool" = some false := by decide +kernel
theorem kit_bb : kitB "bool" "bool" = some true := by decide +kernel
theorem kit_si : kitB "str" "int" = some false := by decide +kernel
theorem kit_sb : kitB "str" "bool" = some false := by decide +kernel
theorem kit_ss : kitB "str" "str" = some true := by decide +kernel
theorem kit_is : kitB "int" "str" = some false := by decide +kernel
theorem kit_bs : kitB "bool" "str" = some false := by decide +kernel
theorem kit_ni : kitB "NoneType" "int" = some false := by decide +kernel
theorem kit_nb : kitB "NoneType" "bool" = some false := by decide +kernel
theorem kit_ns : kitB "NoneType" "str" = some false := by decide +kernel
theorem kit_li : kitB "list" "int" = some false := by decide +kernel
theorem kit_lb : kitB "list" "bool" = some false := by decide +kernel
theorem kit_ls : kitB "list" "str" = some false := by decide +kernel
theorem kit_ti : kitB "tuple" "int" = some false := by decide +kernel
theorem kit_tb : kitB "tuple" "bool" = some false := by decide +kernel
theorem kit_ts : kitB "tuple" "str" = some false := by decide +kernel
theorem kit_di : kitB "dict" "int" = some false := by decide +kernel
theorem kit_db : kitB "dict" "bool" = some false := by decide +kernel
theorem kit_ds : kitB "dict" "str" = some false := by decide +kernel
/-- isinstance(x, int), (x, bool), (x, str) -/
def isIntD : D → Bool
  | .int _ => true | .bl _ => true | _ => false
def isBlD : D → Bool
  | .bl _ => true | _ => false
def isStrD : D → Bool
  | .str _ => true | _ => false
theorem isi_int {x : D} (h : (tyD x).isSome = true) : isiD x (.ty "int") = some (isIntD x) := by
  cases x <;> first | (cases h; done) | exact isi_ty rfl kit_ii | exact isi_ty rfl kit_bi | exact isi_ty rfl kit_si | exact isi_ty rfl kit_ni | exact isi_ty rfl kit_li | exact isi_ty rfl kit_ti | exact isi_ty rfl kit_di
theorem isi_bl {x : D} (h : (tyD x).isSome = true) : isiD x (.ty "bool") = some (isBlD x) := by
  cases x <;> first | (cases h; done) | exact isi_ty rfl kit_ib | exact isi_ty rfl kit_bb | exact isi_ty rfl kit_sb | exact isi_ty rfl kit_nb | exact isi_ty rfl kit_lb | exact isi_ty rfl kit_tb | exact isi_ty rfl kit_db
theorem isi_str {x : D} (h : (tyD x).isSome = true) : isiD x (.ty "str") = some (isStrD x) := by
  cases x <;> first | (cases h; done) | exact isi_ty rfl kit_is | exact isi_ty rfl kit_bs | exact isi_ty rfl kit_ss | exact isi_ty rfl kit_ns | exact isi_ty rfl kit_ls | exact isi_ty rfl kit_ts | exact isi_ty rfl kit_ds
end DL
namespace DL
open PySem PySem.Spec PyProof.Rows L2
/-- a def's words: what is to be shown of its body -/
def Ws (S : SpD) (t : PySem.W.Frag → TS) (pad : List Sl) : Prop := ∀ (K : PySem.W.Frag) (as : List Sl) (Φ : R → List Sl → Prop), S as Φ → W (c0 K) (t K) (as ++ pad) (RetD as Φ (.d .non)) (RetD as Φ) (fun _ => False) (fun _ => False)
end DL
namespace DL
open PySem PySem.Spec PyProof.Rows L2
section
variable {c : Cd} {p : Bool} {δ : List Sl} {r1 r2 r3 : R} {x y z : D}
theorem we_ci {i : Int} {Φ : R → List Sl → Prop} (q : Φ (.d (.int i)) δ) : WE c p (tC (.int i)) δ Φ := we_c q
theorem we_cs {i : Str} {Φ : R → List Sl → Prop} (q : Φ (.d (.str i)) δ) : WE c p (tC (.str i)) δ Φ := we_c q
theorem we_cb' {i : Bool} {Φ : R → List Sl → Prop} (q : Φ (.d (.bl i)) δ) : WE c p (tC (.bl i)) δ Φ := we_c q
theorem we_cn {Φ : R → List Sl → Prop} (q : Φ (.d .non) δ) : WE c p (tC .non) δ Φ := we_c q
theorem we_ct {i : String} {Φ : R → List Sl → Prop} (q : Φ (.d (.ty i)) δ) : WE c p (tC (.ty i)) δ Φ := we_c q
theorem ex_vs1 {P : List D → Prop} (h : view δ r1 = some x) (q : P [x]) : ∃ ds, views δ [r1] = some ds ∧ P ds := ⟨[x], by unfold views; rw [h]; rfl, q⟩
theorem ex_vs2 {P : List D → Prop} (h : view δ r1 = some x) (h2 : view δ r2 = some y) (q : P [x, y]) : ∃ ds, views δ [r1, r2] = some ds ∧ P ds := ⟨[x, y], by unfold views; rw [h]; unfold views; rw [h2]; rfl, q⟩
theorem datas_nil : datas [] = some [] := rfl
theorem datas_cons {rs : List R} {ds : List D} (h : datas rs = some ds) : datas (.d x :: rs) = some (x :: ds) := by unfold datas; rw [h]; rfl
theorem ex_lsd {ds : List D} {rs : List R} {P : List D → Prop} (h : datas rs = some ds) (hl : ds.length ≤ 100000) (q : P ds) : ∃ ds, datas rs = some ds ∧ ds.length ≤ 100000 ∧ P ds := ⟨ds, h, hl, q⟩
end
end DL
namespace DL
open PySem PySem.Spec PyProof.Rows L2
section
variable {c : Cd} {p : Bool} {δ δ' : List Sl} {r r1 r2 : R} {x y z : D} {i : Nat} {a : Addr} {s : Sl}
theorem wg_nameN {Φ : List Sl → Prop} (e : slOf r = some s) (hs : δ.set i s = δ') (h : Φ δ') : WG c (gName i) r δ Φ := wg_name e (by rw [hs]; exact h)
theorem ex_bor {P : Nat → Addr → Prop} (q : P i a) : ∃ i' a', R.bor i a = .bor i' a' ∧ P i' a' := ⟨i, a, rfl, q⟩
theorem cdiv_ok {i j : Int} (h : 0 < j) (h2 : j < 2 ^ 200) : CDivW i j := wide_div (b := 200) h (by omega) (by decide) (by decide)
theorem toAs_nil : toAs δ [] = some [] := rfl
theorem toAs_d {rs : List R} {as : List Sl} (h : toAs δ rs = some as) : toAs δ (.d x :: rs) = some (.d x :: as) := by unfold toAs; rw [h]; rfl
theorem toAs_b {rs : List R} {as : List Sl} (e : δ[i]? = some (.own a x)) (h : toAs δ rs = some as) : toAs δ (.bor i a :: rs) = some (.own a x :: as) := by
  unfold toAs
  rw [e]
  simp [h]
theorem ex_call {as : List Sl} {rs : List R} {A : Prop} {P : List Sl → Prop} (h1 : toAs δ rs = some as) (h2 : (owned as).Nodup) (h3 : A) (q : P as) : ∃ as, toAs δ rs = some as ∧ (owned as).Nodup ∧ A ∧ P as := ⟨as, h1, h2, h3, q⟩
end
end DL
namespace DL
open PySem PySem.Spec PyProof.Rows L2
section
variable {c : Cd} {p : Bool} {δ δ' : List Sl} {r r1 r2 : R} {x y z : D} {i : Nat} {a : Addr} {s : Sl} {te ta tb : TE} {tr : TA} {N B C : List Sl → Prop} {Rt : R → List Sl → Prop}
theorem all_eqN {P : List Sl → Prop} {e : List Sl} (hs : e = δ') (q : P δ') : ∀ δ3, δ3 = e → P δ3 := fun δ3 h => by rw [h, hs]; exact q
theorem we_append {Φ : R → List Sl → Prop} (h : WE c false te δ fun r1 δ1 => ∃ i a, r1 = .bor i a ∧ (∃ ds, δ1[i]? = some (.own a (.lst ds))) ∧ WA c false tr δ1 fun rs δ2 => ∃ ds x, rs = [.d x] ∧ δ2[i]? = some (.own a (.lst ds)) ∧ ds.length < 100000 ∧
    ∀ δ3, δ3 = δ2.set i (.own a (.lst (ds ++ [x]))) → Φ (.d .non) δ3) : WE c false (tBM c.K "list" rAppend te tr) δ Φ := by
  refine we_mu mu_append (we_mono h fun r1 δ1 ⟨i, a, e1, h0, h1⟩ => ⟨i, a, e1, h0, ?_⟩)
  intro B G H σ Q F x k
  refine h1 B G H σ Q F x fun rs δ2 vs G' H' ⟨ds, y, e2, e3, hl, q⟩ => k rs δ2 vs G' H' ⟨ds, [y], by rw [e2]; rfl, e3, y, rfl, hl, q _ rfl⟩
theorem ex_appN {P : List D → D → Prop} {ds : List D} (h1 : δ[i]? = some (.own a (.lst ds))) (h2 : ds.length < 100000) (q : P ds x) : ∃ ds' x', [R.d x] = [.d x'] ∧ δ[i]? = some (.own a (.lst ds')) ∧ ds'.length < 100000 ∧ P ds' x' := ⟨ds, x, rfl, h1, h2, q⟩
end
end DL
namespace DL
open PySem PySem.Spec PyProof.Rows L2
theorem dPow_ {k : R → Prop} {i j v : Int} (e : i ^ j.toNat = v) (hc : CPow i j) (h : k (.d (.int v))) : dInt CPow (fun i j => .int (i ^ j.toNat)) (.int i) (.int j) k := by
  subst e
  exact ⟨hc, h⟩
end DL

/-! DL8: a comprehension whose members change what the slots hold. -/
namespace DL
open PySem PySem.Spec PyProof.Rows L2
open Evl (Ex)
section
variable {c : Cd} {p : Bool} {δ : List Sl} {te : TE} {tt : TT} {g : TG}
theorem we_lc {wi : TI} {vs : List Nat} {Φ : R → List Sl → Prop} (h : WI c false wi δ fun ds δ1 => ds.length ≤ 100000 ∧ ∃ I : Nat → List D → List Sl → Prop, I 0 [] δ1 ∧ nonOwn δ1 vs ∧
    (∀ (i : Nat) (d : DL.D) (acc : List D) (ε : List Sl), ds[i]? = some d → acc.length ≤ i → I i acc ε → nonOwn ε vs ∧ WGc g c.K d (wipeS ε vs) vs fun ε1 => WT (c0 c.K) false tt ε1 fun b ε2 => (b = true → WE (c0 c.K) false te ε2 fun r ε3 => ∃ x, frz r = .d x ∧ ∀ ε4, ε4 = restS ε (wipeS ε3 vs) vs → I (i + 1) (acc ++ [x]) ε4) ∧ (b = false → ∀ ε4, ε4 = restS ε (wipeS ε2 vs) vs → I (i + 1) acc ε4)) ∧
    ∀ acc δ', acc.length ≤ ds.length → I ds.length acc δ' → ∀ a, Φ (.own a (.lst acc)) δ') : WE c false (tLc wi g tt te vs) δ Φ := by
  intro B G H σ Q F x k
  refine h B G H σ _ F x fun ds δ1 J G1 H1 w e1 F1 p1 ww => ?_
  obtain ⟨hlen, I, hI0, hno, step, w⟩ := w
  obtain ⟨Gd, Y, W, hG, hY⟩ := ww
  intro D hD
  obtain ⟨hB, hG1, hO⟩ := F1.fresh hD
  -- the frame with the list under way behind the wall
  have enter : ∀ {G H : Hp} {σ : St} {ε : List Sl} {xs : List V}, Frame c.K B G H σ ε → H D = none → Frame c.K (upd B D (.lst xs)) G (upd H D (.lst xs)) σ ε := fun {G H σ ε xs} F hD => by
    obtain ⟨q1, q2, q3⟩ := F.fresh hD
    have F' := F.ex (Ex.new (o := .lst xs) hD)
    refine ⟨fun b o e => ?_, F'.exG, fun b => ?_, F'.sl, fun a ha => ⟨?_, (F'.own a ha).2⟩, F'.nd⟩
    · by_cases q : b = D
      · subst q; rw [upd_same] at e ⊢; exact e
      · rw [upd_ne q] at e; exact F'.exB b o e
    · by_cases q : b = D
      · subst q; exact .inr (.inl q2)
      · rw [upd_ne q]; exact F'.dis b
    · rw [upd_ne (fun q => q3 (by rw [← q]; exact ha))]
      exact (F'.own a ha).1
  refine lc_it W (fun i H' => ∃ G' xs acc ε, Ex G1 G' ∧ Frame c.K (upd B D (.lst xs)) G' H' σ ε ∧ Reps c.K G' acc xs ∧ acc.length ≤ i ∧ I i acc ε) ⟨G1, [], [], δ1, Ex.refl G1, enter F1 hD, reps_nil, Nat.le_refl _, hI0⟩
    (fun i H' _ ⟨G', xs, acc, ε, e2, F2, _⟩ => hG H' (e2.trans F2.exG)) (fun i y H2 H3 hi pv yy => ?_) fun H' pv => ?_
  · obtain ⟨G', xs, acc, ε, e2, F2, hr, hal, hI⟩ := pv
    have go : ∀ (d : DL.D) (G2 H2 : Hp), ds[i]? = some d → Ex G1 G2 → Frame c.K (upd B D (.lst xs)) G2 H2 σ ε → Reps c.K G2 acc xs → Rep c.K G2 d y → g y (wipe σ vs) H2 fun σ2 H2 => wipe σ2 vs = wipe σ vs ∧ tt σ2 H2 fun b H3 =>
        if b = true then te σ2 H3 fun y H4 => ∃ ac, H4 D = some (.lst ac) ∧ ac.length < sizeLine ∧ ∃ G' xs acc ε, Ex G1 G' ∧ Frame c.K (upd B D (.lst xs)) G' (upd H4 D (.lst (ac ++ [y]))) σ ε ∧ Reps c.K G' acc xs ∧ acc.length ≤ i + 1 ∧ I (i + 1) acc ε
        else ∃ G' xs acc ε, Ex G1 G' ∧ Frame c.K (upd B D (.lst xs)) G' H3 σ ε ∧ Reps c.K G' acc xs ∧ acc.length ≤ i + 1 ∧ I (i + 1) acc ε := by
      intro d G2 H2 hd e3 F3 hr3 hrep
      obtain ⟨hno2, st⟩ := step i d acc ε hd hal hI
      have Fb := frame_wipe F3 vs
      refine st _ G2 H2 (wipe σ vs) y _ Fb hrep fun ε1 σ1 hw og Fg ew => ⟨ew.trans (wipe_wipe σ vs), ?_⟩
      have ew' : wipe σ1 vs = wipe σ vs := ew.trans (wipe_wipe σ vs)
      -- back to the outer slots
      have out : ∀ {G4 H4 : Hp} {ε4 : List Sl}, Ex G2 G4 → Frame c.K (upd B D (.lst xs)) G4 H4 σ1 ε4 → Frame c.K (upd B D (.lst xs)) G4 H4 σ (restS ε (wipeS ε4 vs) vs) := fun {G4 H4 ε4} e4 F4 => by
        have F5 := frame_wipe F4 vs
        rw [ew'] at F5
        exact ⟨F5.exB, F5.exG, F5.dis, restS_sl F3.sl e4 hno2 F5.sl, fun a ha => F5.own a ((restS_sub hno2).subset ha), F5.nd.sublist (restS_sub hno2)⟩
      refine hw _ G2 H2 σ1 _ Fg trivial fun b ε2 G4 H4 w4 e4 F4 _ => ?_
      cases b with
      | false =>
        rw [if_neg Bool.false_ne_true]
        exact ⟨G4, xs, acc, _, e3.trans e4, out e4 F4, hr3.mono e4, by omega, w4.2 rfl _ rfl⟩
      | true =>
        rw [if_pos rfl]
        refine w4.1 rfl _ G4 H4 σ1 _ F4 trivial fun r ε5 v5 G5 H5 w5 e5 F5 rv5 _ => ?_
        obtain ⟨z, hz, hI5⟩ := w5
        obtain ⟨G6, e6, F6, hr6⟩ := rv5.weak F5
        rw [hz] at hr6
        have hr6' : Rep c.K G6 z v5 := hr6
        have F7 := out (e4.trans (e5.trans e6)) F6
        have hx5 : H5 D = some (.lst xs) := F7.exB D _ upd_same
        have hlx : xs.length ≤ 100000 := by
          have hi' : i < ds.length := by
            rcases Nat.lt_or_ge i ds.length with q | q
            · exact q
            · rw [List.getElem?_eq_none q] at hd; cases hd
          rw [reps_length hr3]
          omega
        have dG : G6 D = none := F7.disN upd_same (fun _ z => nomatch z)
        have hOD : ∀ a ∈ owned (restS ε (wipeS ε5 vs) vs), a ≠ D := fun a ha q => by
          have z := (F7.own a ha).1
          rw [q, upd_same] at z
          cases z
        refine ⟨xs, hx5, Nat.lt_of_le_of_lt hlx (by rw [sizeLine_eq]; decide), G6, xs ++ [v5], acc ++ [z], _, (e3.trans e4).trans (e5.trans e6), ?_, reps_append (hr3.mono ((e4.trans e5).trans e6)) (reps_one hr6'), by rw [List.length_append]; simp; omega, hI5 _ rfl⟩
        refine ⟨fun b o e => ?_, fun b o e => ?_, fun b => ?_, F7.sl.ex (Ex.refl _) (fun a ha => upd_ne (hOD a ha)), fun a ha => ⟨?_, (F7.own a ha).2⟩, F7.nd⟩
        · by_cases q : b = D
          · subst q; rw [upd_same] at e ⊢; exact e
          · rw [upd_ne q] at e ⊢; exact F7.exB b o (by rw [upd_ne q]; exact e)
        · by_cases q : b = D
          · subst q; rw [dG] at e; cases e
          · rw [upd_ne q]; exact F7.exG b o e
        · by_cases q : b = D
          · subst q; exact .inr (.inl dG)
          · have z := F7.dis b; rw [upd_ne q] at z ⊢; exact z
        · have z := (F7.own a ha).1
          rw [upd_ne (hOD a ha)] at z ⊢
          exact z
    rcases hY i H2 y H3 hi yy with ⟨q1, d, hd, hrep⟩ | ⟨T, o, d, hT, q1, hd, hrep⟩
    · subst q1
      exact go d G' H3 hd e2 F2 hr (hrep.mono e2)
    · subst q1
      have hT' := (F2.fresh hT).2.1
      exact go d (upd G' T o) _ hd (e2.trans (Ex.new hT')) (F2.laid hT) (hr.mono (Ex.new hT')) (hrep G' e2 hT')
  · obtain ⟨G', xs, acc, ε, e2, F2, hr, hal, hI⟩ := pv
    have hx : H' D = some (.lst xs) := F2.exB D _ upd_same
    have dG : G' D = none := F2.disN upd_same (fun _ z => nomatch z)
    have hOD : D ∉ owned ε := fun ha => by
      have z := (F2.own D ha).1
      rw [upd_same] at z
      cases z
    have F3 : Frame c.K B G' H' σ ε := by
      refine ⟨fun b o e => ?_, F2.exG, fun b => ?_, F2.sl, fun a ha => ⟨?_, (F2.own a ha).2⟩, F2.nd⟩
      · by_cases q : b = D
        · subst q; rw [hB] at e; cases e
        · exact F2.exB b o (by rw [upd_ne q]; exact e)
      · by_cases q : b = D
        · subst q; exact .inl hB
        · have z := F2.dis b; rw [upd_ne q] at z; exact z
      · have z := (F2.own a ha).1
        rw [upd_ne (fun q => hOD (by rw [← q]; exact ha))] at z
        exact z
    exact k _ ε _ G' H' (w acc ε hal hI D) (e1.trans e2) F3 ⟨rfl, ⟨xs, hx, hr⟩, hB, dG, hOD⟩ fun hp => nomatch hp
end
end DL
namespace DL
open PySem PySem.Spec PyProof.Rows L2
section
variable {k : R → Prop} {x y : D} {z : Str} {b : Bool} {ch : Nat} {xs : List D}
theorem dEq_sI (e : sEq x y = some b) (h : k (.d (.bl b))) : dEqF id x y k := dEq_s e h
theorem dEq_sN (e : sEq x y = some b) (h : k (.d (.bl (!b)))) : dEqF not x y k := dEq_s e h
theorem dIn_sI (h : k (.d (.bl (decide (ch ∈ z.cps.toList))))) : dIn id (.str ⟨#[ch]⟩) (.str z) k := dIn_s h
theorem dIn_sN (h : k (.d (.bl (!decide (ch ∈ z.cps.toList))))) : dIn not (.str ⟨#[ch]⟩) (.str z) k := dIn_s h
theorem dIsN_I (h : k (.d (.bl (isNon x)))) : dIsN id x .non k := dIsN_ h
theorem dIsN_N (h : k (.d (.bl (!isNon x)))) : dIsN not x .non k := dIsN_ h
end
theorem str_eq {x y : Str} (h : x.cps.toList = y.cps.toList) : x = y := by
  cases x; cases y
  simp only [Str.mk.injEq]
  exact Array.toList_inj.mp h
theorem one_str (ch c : Nat) : ((⟨#[ch]⟩ : Str) = ⟨#[c]⟩) ↔ ch = c := by
  constructor
  · intro h
    have h2 := congrArg (fun s : Str => s.cps.toList) h
    simpa using h2
  · rintro rfl; rfl
theorem digits_mem {ch : Nat} : ch ∈ (Str.ofString "0123456789").cps.toList ↔ 48 ≤ ch ∧ ch ≤ 57 := by
  rw [show (Str.ofString "0123456789").cps.toList = [48, 49, 50, 51, 52, 53, 54, 55, 56, 57] from by decide +kernel]
  simp only [List.mem_cons, List.not_mem_nil, or_false]
  omega
theorem sIx_pos {n d : Nat} {v : Int} (h : 0 ≤ v) : HT.sIx n d (some v) = min v.toNat n := by
  show (if v < 0 then (v + (n : Int)).toNat else min v.toNat n) = _
  rw [if_neg (by omega)]
theorem cut1 {z : Str} {n : Int} (h : 0 ≤ n) : (cutS z (some n) none).cps.toList = z.cps.toList.drop n.toNat := by
  unfold cutS
  rw [HT.sIx_none, sIx_pos h]
  show (z.cps.toList.drop (min n.toNat z.length)).take (z.length - min n.toNat z.length) = _
  rw [show z.length = z.cps.toList.length from TL.len_tl z, List.take_of_length_le (by rw [List.length_drop]; omega)]
  by_cases q : n.toNat ≤ z.cps.toList.length
  · rw [Nat.min_eq_left q]
  · rw [Nat.min_eq_right (by omega), List.drop_eq_nil_of_le (Nat.le_refl _), List.drop_eq_nil_of_le (by omega)]
theorem cutD0 {xs : List D} {n : Int} (h : 0 ≤ n) : cutD xs none (some n) = xs.take n.toNat := by
  unfold cutD
  rw [HT.sIx_none, sIx_pos h, Nat.sub_zero, List.drop_zero, ← List.take_eq_take_min]
theorem cutD1 {xs : List D} {n : Int} (h : 0 ≤ n) : cutD xs (some n) none = xs.drop n.toNat := by
  unfold cutD
  rw [HT.sIx_none, sIx_pos h, List.take_of_length_le (by rw [List.length_drop]; omega)]
  by_cases q : n.toNat ≤ xs.length
  · rw [Nat.min_eq_left q]
  · rw [Nat.min_eq_right (by omega), List.drop_eq_nil_of_le (Nat.le_refl _), List.drop_eq_nil_of_le (by omega)]
theorem fx : (fun x => false ^^ x) = id := by funext x; cases x <;> rfl
theorem tx : (fun x => true ^^ x) = not := by funext x; cases x <;> rfl
theorem opd_inI {c : Cd} : OpD c (rInA c.K) (dIn id) := by
  have h := opd_in (c := c)
  rw [fx] at h
  exact h
theorem opd_inN {c : Cd} : OpD c (rNotInA c.K) (dIn not) := by
  have h := opd_notIn (c := c)
  rw [tx] at h
  exact h
section
variable {c : Cd} {δ : List Sl} {r1 r2 : R} {x y : D} {T : String} {P : D → List D → Prop} {Q : Prop}
theorem ex_ty (h : view δ r1 = some x) (h2 : tyM T x) (q : Q) : (∃ x, view δ r1 = some x ∧ tyM T x) ∧ Q := ⟨⟨x, h, h2⟩, q⟩
theorem ex_vm1 (h : view δ r1 = some x) (h2 : view δ r2 = some y) (q : P x [y]) : ∃ x ds, view δ r1 = some x ∧ views δ [r2] = some ds ∧ P x ds := ⟨x, [y], h, by unfold views; rw [h2]; rfl, q⟩
theorem ex_find {a b : Str} {P : Str → Str → Prop} (q : P a b) : ∃ a' b', D.str a = .str a' ∧ [D.str b] = [.str b'] ∧ P a' b' := ⟨a, b, rfl, rfl, q⟩
theorem ex_join {a : Str} {xs : List D} {ys : List Str} {P : Str → List Str → Prop} (h : strsD xs = some ys) (hl : (ys.map (·.length)).sum + ys.length * a.length ≤ 16777216) (q : P a ys) : ∃ a' xs' ys', D.str a = .str a' ∧ [D.lst xs] = [.lst xs'] ∧ strsD xs' = some ys' ∧ (ys'.map (·.length)).sum + ys'.length * a'.length ≤ 16777216 ∧ P a' ys' := ⟨a, xs, ys, rfl, rfl, h, hl, q⟩
end
end DL

/-! DL9: divmod, xs[::-1], find from a place. -/
namespace DL
open PySem PySem.Spec PyProof.Rows L2
open Evl (Ex)
section
variable {c : Cd} {p : Bool} {δ : List Sl} {te ta tb : TE}
def rDivmodA : List V → Hp → VK → Prop := fun xs H Q => ∃ i j, xs = [.int i, .int j] ∧ CDiv i j ∧ ∀ p, H p = none → Q (.ref p) (upd H p (.tup [.int (i / j), .int (i % j)]))
def rFind3A : V → List V → Hp → VK → Prop := fun x xs H Q => ∃ (a b : Str) (i : Int), x = .str a ∧ xs = [.str b, .int i] ∧ Q (.int (Txt.find3 a b i)) H
theorem views_two {rs : List R} {K : PySem.W.Frag} {G : Hp} {vs : List V} {x y : D} (e : views δ rs = some [x, y]) (h : RVs K G rs vs) : ∃ r w r2 w2, rs = [r, r2] ∧ vs = [w, w2] ∧ view δ r = some x ∧ view δ r2 = some y ∧ RW K G r w ∧ RW K G r2 w2 := by
  cases rs with
  | nil => cases views_nil e
  | cons r2 rs =>
    obtain ⟨x', es, e3, e4, e5⟩ := views_cons e
    cases e3
    obtain ⟨w, wr, e6, h3, h4⟩ := h
    obtain ⟨r, w', er, ew, e7, h5⟩ := views_one (r2 := r2) e5 h4
    subst er ew
    exact ⟨r2, w, r, w', rfl, e6, e4, e7, h3, h5⟩
theorem dIntC_b {b : Bool} {k : R → Prop} (h : k (.d (.int (if b = true then 1 else 0)))) : dIntC (.bl b) k := h
theorem ex_ownl {i : Nat} {a : Addr} {ds : List D} {Q : Prop} (h : δ[i]? = some (.own a (.lst ds))) (q : Q) : (∃ ds, δ[i]? = some (.own a (.lst ds))) ∧ Q := ⟨⟨ds, h⟩, q⟩
theorem wg_mono {g : TG} {r : R} {Φ Φ' : List Sl → Prop} (h : WG c g r δ Φ) (m : ∀ δ', Φ δ' → Φ' δ') : WG c g r δ Φ' := fun B G H σ v Q F xr rv k =>
  h B G H σ v Q F xr rv fun δ1 σ1 G1 H1 w => k δ1 σ1 G1 H1 (m δ1 w)
end
end DL

/-! DL10: defs called where no repr is under way: what repr of lists and tuples wants to know. -/
namespace DL
open PySem PySem.Spec PyProof.Rows L2
open Evl (Ex)
/-- nothing is being shown; the table of modules is a dict -/
def GOk (base : Heap) (A : Around) : Prop := A.guards = some [] ∧ ∃ o es ep, base.get? sysModules = some o ∧ o.data = .dict es ep
/-- a def's promise where nothing is being shown -/
structure FnG (P : Program) (w : World) (K : PySem.W.Frag) (mg : Str → Option Value) (base : Heap) (CX : CXT) (k : Nat) (f : Addr) (fd : FuncData) (ps : List Str) (sp : Sp) : Prop where
  len : ∀ vs H Q E, sp vs H Q E → vs.length = ps.length
  run : ∀ (A : Around) (outer : List Env) (s : Shared) (H : Hp) (args : Args) (us : List Value) (vs : List V) (Q : VK) (E : XK), GOk base A → Room k A → Env0 P w K mg base A outer s H →
    BindsTo s fd args (ps.zip us) → Vals vs us → sp vs H Q E → codeAny (model P w) A (.call (.ref f) args) (CR CX outer P w H s Q E) s
section
variable {CX : CXT} {P : Program} {w : World} {K : PySem.W.Frag} {mg : Str → Option Value} {base : Heap}
theorem FnG.up {j k : Nat} {f : Addr} {fd : FuncData} {ps : List Str} {sp : Sp} (F : FnG P w K mg base CX j f fd ps sp) (h : j ≤ k) : FnG P w K mg base CX k f fd ps sp :=
  { len := F.len, run := fun A o s H a us vs Q E g r => F.run A o s H a us vs Q E g (r.mono h) }
theorem fnG_of {k : Nat} {f : Addr} {name qual : Str} {params : Arguments} {body : List Stmt} {scope : Scope} {dV kV doc pm cdv ct oc : Value} {an od : Option Addr} {osl : Array (Option Value)} {N ps : List Str} {sp : Sp}
    (lk : K.lookup f = some ⟨oc, od, .func (PySem.W.fnOf name qual params body scope dV kV doc pm an cdv ct), osl⟩) (hcd : PySem.W.codeIn K cdv qual = true) (S : FnScope N ps scope) (len : ∀ vs H Q E, sp vs H Q E → vs.length = ps.length)
    (hb : ∀ (A : Around) (outer : List Env) (s : Shared) (H : Hp) (vs : List V) (Q : VK) (E : XK), GOk base A → Room k (A.deeper (envOfC qual scope s.heap.objs.size f cdv)) → sp vs H Q E →
      ∃ t, PSs (cxOf CX P w K mg base N qual scope f cdv A outer s H E) body t ∧ t { nx := fun _ H' => Q .non H', rt := Q } (L2.start N vs) H) :
    FnG P w K mg base CX (k + 1) f (PySem.W.fnOf name qual params body scope dV kV doc pm an cdv ct) ps sp where
  len := len
  run := by
    intro A outer s H args us vs Q E gA room env bind rel wish
    have keep : ∀ b o, base.get? b = some o → s.heap.get? b = some o := fun b o e => (env.bs b o e).1
    have inK := env.mod.kin.keeps keep
    have many := len vs H Q E wish
    obtain ⟨t, ht, run⟩ := hb A outer s H vs Q E gA (room.deeper _) wish
    refine codeAny_call_function room.depth (inK f _ lk) rfl S.co S.gen rfl (PySem.W.codeRec_of inK hcd) (bind _ _ _ _ (wpAny_newFunctionEnv_cells S.kind (fun y hy => ?_) fun env' he s1 x => ?_))
    · obtain ⟨yn, yv⟩ := y
      cases S.par yn (List.of_mem_zip hy).1 with
      | inl q => exact .inl q
      | inr q => exact .inr ⟨q, PySem.W.cellsFrom_some _ _ _ (.inl q)⟩
    · subst he
      refine ⟨(env.mod.nolimit.keeps keep).keeps x.toInCall.keep, codeAny_func (wpAny_mono (ht.run [] s1 (L2.start N vs) H _ (inv_start S room.hd env many rel x) run) (fun fl s' hs => ?_) fun _ _ q => q)⟩
      cases fl with
      | ret u => exact let ⟨v, _, H', J, rv, q⟩ := hs; ⟨v, H', J.os, J.bare, J.base, J.hok, rv, q⟩
      | next => exact let ⟨_, H', J, q⟩ := hs; ⟨.non, H', J.os, J.bare, J.base, J.hok, rfl, q⟩
      | brk => exact (let ⟨_, _, _, q⟩ := hs; q : False).elim
      | cont => exact (let ⟨_, _, _, q⟩ := hs; q : False).elim
end
section
variable {X : Cx} {CX : CXT} {k : Nat} {f : Addr} {fd : FuncData} {ps : List Str} {sp : Sp} {dvs : List V} {ds : List Value} {E : XK} {x : Str} {p pos : Pos} {e : Expr} {es : List Expr} {t : TA}
theorem runG {pins : List (Addr × Obj)} {σ : L2.St} {H : Hp} {s : Shared} {Q : VK} {us : List Value} {vs : List V} (F : FnG X.prog X.w X.K X.mg X.base CX k f fd ps sp) (g : GOk X.base X.A) (hr : Room k X.A) (hb : Binds X.K fd ps ds) (hd : Vals dvs ds) (hx : Passes CX X E)
    (I : Inv X pins σ H s) (r : Vals vs us) (h : sp (vs ++ dvs) H Q E) : wpAny (model X.prog X.w) X.A (call (.ref f) us) (EP X pins σ Q) X.xe s := by
  have r2 := r.append hd
  have many : (us ++ ds).length = ps.length := by rw [← F.len _ _ _ _ h, r2.length]
  have go := F.run X.A X.stack s H ⟨us, []⟩ (us ++ ds) (vs ++ dvs) Q E g hr I.env0 (hb s us I.kIn many) r2 h
  refine wpAny_call (codeAny_mono go fun res s' q => ?_)
  match res, q with
  | .error ex, q => exact hx pins σ H s ex s' I q
  | .ok (.ret u), q => exact I.after q
theorem pe_callG (F : FnG X.prog X.w X.K X.mg X.base CX k f fd ps sp) (g : GOk X.base X.A) (hr : Room k X.A) (hg : Gl X x) (hm : X.mg x = some (.ref f)) (hk : PySem.W.keepIn X.K (.ref f) = true) (hb : Binds X.K fd ps ds) (hd : Vals dvs ds) (hx : Passes CX X E)
    (ha : PA X (e :: es) t) (hdb : (x == ("__debug__" : Str)) = false := by decide) (he : starEach (e :: es) X.env = (false, eval e X.env) :: starEach es X.env := by rfl) (hpl : (backTo pos (starEach es X.env)).any (·.1) = false := by rfl) : PE X (.Call (.Name x p) (e :: es) [] pos) (tCall sp dvs E t) := by
  constructor
  intro pins s σ H Q I h
  exact wpAny_Call_Name_kw (ld_glob I hg hm (PySem.W.callWith_K (h₀ := X.base) I.ok.mod.kin hk (thn (ha.run pos pins s σ H _ I h) fun us s1 ⟨vs, H1, I1, r, q⟩ => ⟨I1.kIn, runG F g hr hb hd hx I1 r q⟩) he hpl) hdb)
end
/-! ### the head -/
theorem ns_dict {h : Heap} (x : ∃ mm, h.Ns sysModules mm ∧ mm "_pylong" = none) : ∃ o es ep, h.get? sysModules = some o ∧ o.data = .dict es ep := by
  obtain ⟨mm, ⟨o, es, ep, e, d, _⟩, _⟩ := x
  exact ⟨o, es, ep, e, d⟩
section
variable {P : Program} {w : World} {K : PySem.W.Frag} {mg mb : Str → Option Value} {CX : CXT} {k : Nat} {fa a : Addr} {fd : FuncData} {x : Str} {sp : Sp} {s₁ : Shared} {vs : List Value} {ns : List Int}
/-- what is asked behind the call -/
abbrev Told (s₁ : Shared) (r : Result) (s' : Shared) : Prop := r = .ok (.ret (.bool true)) ∧ OldK s₁.heap s'.heap ∧ s'.os = s₁.os ∧ AllBare s'.gens
/-- from a heap of ours in which at most the script is tracked -/
theorem head_at (H : Hp) (KX : K.In s₁.heap) (hns : s₁.heap.Ns mainGlobals mg) (hb : s₁.heap.Ns builtinsNs mb) (hbb : ∀ x : Str, x ≠ "__name__" → mb x = bootBuiltins x) (hlim : s₁.heap.NoLimit) (hg : s₁.gens = #[])
    (ha : s₁.heap.get? a = some { cls := .type "list", data := .seq vs.toArray }) (hr : Room k callerA)
    (hsm : ∃ o es ep, s₁.heap.get? sysModules = some o ∧ o.data = .dict es ep) (F : ∀ base : Heap, K.In base → base.Ns mainGlobals mg → FnG P w K mg base CX k fa fd [x] sp) (hbind : ∀ (s : Shared) (u : Value), BindsTo s fd ⟨[u], []⟩ [(x, u)])
    (hCX : ∀ H e s', CX [] H s₁ (fun _ _ _ => False) e s' → False) (hO : Only H) (hok : HOk P w H s₁.heap) (hA : ∀ b, H b ≠ none → b = a) (hK : H a ≠ none → K.lookup a = none)
    (hS : sp [.ref a] H (fun v _ => v = .bl true) fun _ _ _ => False) : codeAny (model P w) callerA (.call (.ref fa) ⟨[.ref a], []⟩) (Told s₁) s₁ := by
  have at_a : ∀ {b : Addr}, H b ≠ none → ∀ {o : Obj}, s₁.heap.get? b = some o → o = { cls := .type "list", data := .seq vs.toArray } := fun {b} z {o} e => by
    rw [hA b z, ha] at e
    exact (Option.some.inj e).symm
  have dict_none : ∀ {b : Addr} {o : Obj} {es : Array DictEntry} {ep : Nat}, s₁.heap.get? b = some o → o.data = .dict es ep → H b = none := fun e d => Classical.byContradiction fun z => by
    rw [at_a z e] at d
    cases d
  have ns_hid : ∀ {b : Addr} {m : Str → Option Value}, s₁.heap.Ns b m → (hidT s₁.heap H).Ns b m := fun h => by
    obtain ⟨o, es, ep, e, d, r⟩ := h
    exact ⟨o, es, ep, hidT_get e (dict_none e d), d, r⟩
  have k_hid : K.In (hidT s₁.heap H) := fun b o e => hidT_get (KX b o e) (Classical.byContradiction fun z => by
    have q := hA b z
    subst q
    rw [hK z] at e
    cases e)
  obtain ⟨mc, l1, l2⟩ := hlim
  have m_hid : ∃ o es ep, (hidT s₁.heap H).get? sysModules = some o ∧ o.data = .dict es ep := by
    obtain ⟨o, es, ep, e, d⟩ := hsm
    exact ⟨o, es, ep, hidT_get e (dict_none e d), d⟩
  have env : Env0 P w K mg (hidT s₁.heap H) callerA [] s₁ H :=
    { frames := rfl, mod := ⟨k_hid, ns_hid hns, ⟨mb, ns_hid hb, hbb⟩, ⟨mc, ns_hid l1, l2⟩⟩, bs := fun b o e => of_hidT e, bsz := Nat.le_of_eq (hidT_size _ _), funs := trivial, frf := fun b z => (nomatch z), hok := hok, bare := .of_eq hg }
  refine codeAny_mono ((F _ k_hid (ns_hid hns)).run callerA [] s₁ H ⟨[.ref a], []⟩ [.ref a] [.ref a] _ _ ⟨rfl, m_hid⟩ hr env (hbind s₁ (.ref a)) (.cons rfl .nil) hS) fun r s' h => ?_
  match r, h with
  | .error e, h => exact (hCX H e s' h).elim
  | .ok (.ret u), h =>
    obtain ⟨v, H', eo, br, un, hok', rv, q⟩ := h
    subst q
    have eu : u = Value.bool true := rv
    subst eu
    refine ⟨rfl, OldK.of_keep fun b o e => ?_, eo, br⟩
    rcases hO b with z | ⟨ob, xs, z⟩
    · exact un.keep b o e z (fun z => nomatch z) (fun z => nomatch z)
    · have e1 := (hok b _ z).1
      have e2 := (hok' b _ (un.frzs b ob _ z)).1
      rw [e] at e1
      rw [e2, e1]
theorem law_callG (KX : K.In s₁.heap) (hns : s₁.heap.Ns mainGlobals mg) (hb : s₁.heap.Ns builtinsNs mb) (hbb : ∀ x : Str, x ≠ "__name__" → mb x = bootBuiltins x) (hlim : s₁.heap.NoLimit) (hg : s₁.gens = #[])
    (ha : s₁.heap.get? a = some { cls := .type "list", data := .seq vs.toArray }) (hi : IntsAre vs ns) (hl : ns.length ≤ sizeLine) (hr : Room k callerA)
    (hsm : ∃ o es ep, s₁.heap.get? sysModules = some o ∧ o.data = .dict es ep) (F : ∀ base : Heap, K.In base → base.Ns mainGlobals mg → FnG P w K mg base CX k fa fd [x] sp) (hbind : ∀ (s : Shared) (u : Value), BindsTo s fd ⟨[u], []⟩ [(x, u)])
    (hsp : ∀ H : Hp, Only H → SqL K H a (ns.map V.int) → sp [.ref a] H (fun v _ => v = .bl true) fun _ _ _ => False)
    (hCX : ∀ H e s', CX [] H s₁ (fun _ _ _ => False) e s' → False) : codeAny (model P w) callerA (.call (.ref fa) ⟨[.ref a], []⟩) (Told s₁) s₁ := by
  have rel := vals_ints hi
  cases look : K.lookup a with
  | some o =>
    have same := KX a o look
    rw [ha] at same
    cases same
    have hO : Only fun _ => none := fun _ => .inl rfl
    exact head_at (fun _ => none) KX hns hb hbb hlim hg ha hr hsm F hbind hCX hO (fun _ _ z => nomatch z) (fun _ z => absurd rfl z) (fun z => absurd rfl z)
      (hsp _ hO (.inr ⟨_, vs.toArray, _, look, rfl, rfl, rfl, by rw [List.size_toArray, hi.length]; exact hl, by simpa using rel⟩))
  | none =>
    let obj : Obj := { cls := .type "list", data := .seq vs.toArray }
    let H : Hp := fun b => if b = a then some (.frz obj (.lst (ns.map V.int))) else none
    have at_a : H a = some (.frz obj (.lst (ns.map V.int))) := if_pos rfl
    have off : ∀ {b}, b ≠ a → H b = none := fun z => if_neg z
    have hO : Only H := fun b => by
      by_cases z : b = a
      · rw [z]; exact .inr ⟨_, _, at_a⟩
      · exact .inl (off z)
    refine head_at H KX hns hb hbb hlim hg ha hr hsm F hbind hCX hO (fun b u z => ?_) (fun b z => Classical.byContradiction fun q => z (off q)) (fun _ => look) (hsp _ hO (.inl (.inr ⟨_, at_a⟩)))
    by_cases q : b = a
    · subst q
      rw [at_a] at z
      cases z
      exact ⟨ha, by rw [List.length_map]; exact hl, vs, _, rel, ha⟩
    · rw [off q] at z
      cases z
end
theorem walk_ofG {l : PySem.W.OpenLaw} {n k : Nat} {q : Program} {loose : List Str} {XP : (Str → Option Value) → Heap → Prop} {YP : World → Heap → Prop} {d : DefRec} {K : Params → PySem.W.Frag} {CX : World → CXT} {sp : World → Sp} {x : Str}
    (hq : importsNone q = true) (hn : l.most = some n) (hn2 : n ≤ sizeLine) (hdf : d.params.defaults = []) (hr : Room k callerA) (hY : ∀ (w : World) (h : Heap), YP w h → (K w.params).In h)
    (F : ∀ (w : World) (mg : Str → Option Value) (fa : Addr) (h : Heap), (K w.params).In h → h.Ns mainGlobals mg → mg d.name = some (.ref fa) →
      ∃ fd : FuncData, (∀ (s : Shared) (u : Value), BindsTo s fd ⟨[u], []⟩ [(x, u)]) ∧ ∀ base : Heap, (K w.params).In base → base.Ns mainGlobals mg → FnG l.prog w (K w.params) mg base (CX w) k fa fd [x] (sp w))
    (hsp : ∀ (w : World) (H : Hp) (a : Addr) (ns : List Int), ns.length ≤ n → (∀ z ∈ ns, Builtin.Int.intBits z ≤ 1048576) → Only H → SqL (K w.params) H a (ns.map V.int) → sp w [.ref a] H (fun v _ => v = .bl true) fun _ _ _ => False)
    (hCX : ∀ (w : World) (H : Hp) (s : Shared) (e : Value) (s' : Shared), CX w [] H s (fun _ _ _ => False) e s' → False) : PySem.W.WalkO q loose XP YP l.row.toRowW d [] (fun f vs => PySem.call f vs) :=
  Att.attach_callB hn hdf fun w s₀ s₁ mg mb fa o pm cd doc a vs ns G Y _ _ _ hmg hobj hints hlen hbits hg =>
    let ⟨_, hb, hF⟩ := F w mg fa _ (hY w _ Y) G.T.g hmg
    law_callG (hY w _ Y) G.T.g G.T.b G.T.builtins G.T.nolimit hg hobj hints (Nat.le_trans hlen hn2) hr (ns_dict (G.T.seer hq).mods) hF hb (fun H hO hS => hsp w H a ns hlen hbits hO hS) fun H e s' => hCX w H s₁ e s'
end DL
namespace DL
open PySem PySem.Spec PyProof.Rows L2
open Evl (Ex)
end DL

/-! DL11: repr of data, dicts among them. -/
namespace DL
open PySem PySem.Spec PyProof.Rows L2
open Evl (Ex)
def keyPy : Key → PyData
  | .inl i => .int i
  | .inr x => .str x
mutual
def pyA : D → Option PyData
  | .non => some .none
  | .bl b => some (.bool b)
  | .int i => some (.int i)
  | .str x => some (.str x)
  | .lst xs => (pyAs xs).map .list
  | .tup xs => (pyAs xs).map .tuple
  | .dct kvs => (pyAk kvs).map .dict
  | _ => none
def pyAs : List D → Option (List PyData)
  | [] => some []
  | x :: xs => match pyA x with
    | some d => (pyAs xs).map (d :: ·)
    | none => none
def pyAk : List (Key × D) → Option (List (PyData × PyData))
  | [] => some []
  | (k, x) :: xs => match pyA x with
    | some d => (pyAk xs).map ((keyPy k, d) :: ·)
    | none => none
end
section
variable {X : Cx} {pins : List (Addr × Obj)} {σ : L2.St} {H : Hp} {s : Shared}
theorem rd_ok (I : Inv X pins σ H s) {a : Addr} {kvs : List (Key × V)} (ha : Rd H a (.dK kvs)) : ObjOk X.prog X.w H s.heap a (.dK kvs) := by
  rcases ha with ha | ⟨ob, ha⟩
  · exact I.hok a _ ha
  · exact (I.hok a _ ha).2
theorem keys_read {knd : KeyKind X.prog X.w Key} (hk : ∀ k v, knd.is k v = keyIs k v) {h : Heap} : ∀ {es : List DictEntry} {vs : List (Key × Value)}, Pairs knd es vs → ReadsAll h (es.map (·.key)) (vs.map fun p => keyPy p.1) []
  | [], _, p => by cases p; exact .nil
  | e :: es, _, p => by
    cases p with
    | @cons _ kv _ kvs q1 q2 q3 =>
      rw [hk] at q1
      obtain ⟨k, v⟩ := kv
      have r := keys_read hk (h := h) q3
      have one : Reads h e.key (keyPy k) [] := by
        rcases keyIs_shape q1 with ⟨i, t, e1, e2⟩ | ⟨x, t, e1, e2⟩
        · have e1 : k = .inl i := e1
          subst e1; rw [e2]; exact .int i t
        · have e1 : k = .inr x := e1
          subst e1; rw [e2]; exact .str x t
      exact ReadsAll.cons (as := []) one r
theorem vals_read {knd : KeyKind X.prog X.w Key} : ∀ {es : List DictEntry} {vs : List (Key × Value)}, Pairs knd es vs → es.map (·.val) = vs.map (·.2)
  | [], _, p => by cases p; rfl
  | e :: es, _, p => by
    cases p with
    | @cons _ kv _ kvs q1 q2 q3 =>
      simp only [List.map_cons]
      rw [q2, vals_read q3]
theorem kv_keys : ∀ {kvs : List (Key × V)} {vs : List (Key × Value)}, KV kvs vs → vs.map (fun p => keyPy p.1) = kvs.map (fun p => keyPy p.1)
  | _, _, .nil => rfl
  | _, _, .cons (a := a) (b := b) h1 h2 => by
    simp only [List.map_cons]
    rw [kv_keys h2, h1.1]
theorem pyAk_keys {K : PySem.W.Frag} {G : Hp} : ∀ {kds : List (Key × D)} {kvs : List (Key × V)} {ds : List (PyData × PyData)}, pyAk kds = some ds → RepK K G kds kvs → ds.map (·.1) = kvs.map (fun p => keyPy p.1)
  | [], kvs, ds, e, h => by
    unfold pyAk at e
    unfold RepK at h
    subst h
    cases e
    rfl
  | (k, x) :: kds, kvs, ds, e, h => by
    unfold pyAk at e
    unfold RepK at h
    obtain ⟨v, vr, e1, h1, h2⟩ := h
    subst e1
    cases e2 : pyA x with
    | none => rw [e2] at e; cases e
    | some d =>
      rw [e2] at e
      cases e3 : pyAk kds with
      | none => rw [e3] at e; cases e
      | some r =>
        rw [e3] at e
        cases e
        simp only [List.map_cons]
        rw [pyAk_keys e3 h2]
mutual
theorem rep_reads (I : Inv X pins σ H s) (m : ∃ o es ep, X.base.get? sysModules = some o ∧ o.data = .dict es ep) : ∀ (x : D) (v : V) (u : Value) (d : PyData), pyA x = some d → Rep X.K H x v → RelV v u → ∃ as, Reads s.heap u d as ∧ sysModules ∉ as
  | .non, v, u, d, e, h, r => by unfold Rep at h; unfold pyA at e; subst h; cases e; cases r; exact ⟨_, .none, by simp⟩
  | .bl b, v, u, d, e, h, r => by unfold Rep at h; unfold pyA at e; subst h; cases e; cases r; exact ⟨_, .bool b, by simp⟩
  | .int i, v, u, d, e, h, r => by unfold Rep at h; unfold pyA at e; subst h; cases e; obtain ⟨t, rfl⟩ := r; exact ⟨_, .int i t, by simp⟩
  | .str z, v, u, d, e, h, r => by unfold Rep at h; unfold pyA at e; subst h; cases e; obtain ⟨t, rfl⟩ := r; exact ⟨_, .str z t, by simp⟩
  | .ty _, _, _, _, e, _, _ => by unfold pyA at e; cases e
  | .ptr _, _, _, _, e, _, _ => by unfold pyA at e; cases e
  | .ro _, _, _, _, e, _, _ => by unfold pyA at e; cases e
  | .obj _ _, _, _, _, e, _, _ => by unfold pyA at e; cases e
  | .dcT _, _, _, _, e, _, _ => by unfold pyA at e; cases e
  | .lst xs, v, u, d, e, h, r => by
    unfold Rep at h
    unfold pyA at e
    obtain ⟨a, vs, e1, h1, h2⟩ := h
    subst e1
    cases e2 : pyAs xs with
    | none => rw [e2] at e; cases e
    | some ds =>
      rw [e2] at e
      cases e
      cases r
      obtain ⟨its, rv, ⟨o, n, ho, hc, _, hd⟩, _⟩ := I.list (.inl (Rd.of h1))
      obtain ⟨as, hr, hn⟩ := reps_reads I m xs vs its ds e2 h2 rv
      refine ⟨_, Reads.list ho hc hd hr, fun hm => ?_⟩
      rcases List.mem_cons.mp hm with q | q
      · obtain ⟨o', es, ep, m1, m2⟩ := m
        have z := I.bk _ _ m1
        rw [q, ho] at z
        cases z
        rw [hd] at m2
        cases m2
      · exact hn q
  | .tup xs, v, u, d, e, h, r => by
    unfold Rep at h
    unfold pyA at e
    obtain ⟨a, vs, e1, h1, h2⟩ := h
    subst e1
    cases e2 : pyAs xs with
    | none => rw [e2] at e; cases e
    | some ds =>
      rw [e2] at e
      cases e
      cases r
      obtain ⟨its, rv, ⟨o, ho, hc, n, hd⟩, _⟩ := I.tuple (SqT.of h1)
      obtain ⟨as, hr, hn⟩ := reps_reads I m xs vs its ds e2 h2 rv
      exact ⟨_, Reads.tuple ho hc hd hr, hn⟩
  | .dct kds, v, u, d, e, h, r => by
    unfold Rep at h
    unfold pyA at e
    obtain ⟨a, kvs, e1, h1, h2⟩ := h
    subst e1
    cases e2 : pyAk kds with
    | none => rw [e2] at e; cases e
    | some ds =>
      rw [e2] at e
      cases e
      cases r
      obtain ⟨_, hsys, vs, hkv, o, es, ep, ho, hx, hd, hk, hp, hn⟩ := rd_ok I h1
      obtain ⟨bs, hr, hn2⟩ := repk_reads I m kds kvs vs ds e2 h2 hkv
      have k1 := keys_read (knd := mixKind X.prog X.w) (fun _ _ => rfl) (h := s.heap) hp
      rw [kv_keys hkv, ← pyAk_keys e2 h2] at k1
      rw [← vals_read hp] at hr
      refine ⟨_, Reads.dict ho hx.1 hd k1 hr, fun hm => ?_⟩
      rcases List.mem_cons.mp (show sysModules ∈ a :: bs from hm) with q | q
      · rw [← q] at hsys
        simp at hsys
      · exact hn2 q
theorem reps_reads (I : Inv X pins σ H s) (m : ∃ o es ep, X.base.get? sysModules = some o ∧ o.data = .dict es ep) : ∀ (xs : List D) (vs : List V) (us : List Value) (ds : List PyData), pyAs xs = some ds → Reps X.K H xs vs → Vals vs us → ∃ as, ReadsAll s.heap us ds as ∧ sysModules ∉ as
  | [], vs, us, ds, e, h, r => by
    unfold Reps at h
    unfold pyAs at e
    subst h
    cases e
    cases r
    exact ⟨_, .nil, by simp⟩
  | x :: xs, vs, us, ds, e, h, r => by
    unfold Reps at h
    unfold pyAs at e
    obtain ⟨v, vr, e1, h1, h2⟩ := h
    subst e1
    cases e2 : pyA x with
    | none => rw [e2] at e; cases e
    | some d =>
      rw [e2] at e
      cases e3 : pyAs xs with
      | none => rw [e3] at e; cases e
      | some ds =>
        rw [e3] at e
        cases e
        cases r with
        | cons r1 r2 =>
          obtain ⟨as, q1, n1⟩ := rep_reads I m x v _ d e2 h1 r1
          obtain ⟨bs, q2, n2⟩ := reps_reads I m xs vr _ ds e3 h2 r2
          exact ⟨_, .cons q1 q2, fun hm => (List.mem_append.mp hm).elim n1 n2⟩
theorem repk_reads (I : Inv X pins σ H s) (m : ∃ o es ep, X.base.get? sysModules = some o ∧ o.data = .dict es ep) : ∀ (xs : List (Key × D)) (kvs : List (Key × V)) (vs : List (Key × Value)) (ds : List (PyData × PyData)), pyAk xs = some ds → RepK X.K H xs kvs → KV kvs vs → ∃ as, ReadsAll s.heap (vs.map (·.2)) (ds.map (·.2)) as ∧ sysModules ∉ as
  | [], kvs, vs, ds, e, h, r => by
    unfold RepK at h
    unfold pyAk at e
    subst h
    cases e
    cases r
    exact ⟨_, .nil, by simp⟩
  | (k, x) :: xs, kvs, vs, ds, e, h, r => by
    unfold RepK at h
    unfold pyAk at e
    obtain ⟨v, vr, e1, h1, h2⟩ := h
    subst e1
    cases e2 : pyA x with
    | none => rw [e2] at e; cases e
    | some d =>
      rw [e2] at e
      cases e3 : pyAk xs with
      | none => rw [e3] at e; cases e
      | some ds =>
        rw [e3] at e
        cases e
        cases r with
        | cons r1 r2 =>
          obtain ⟨as, q1, n1⟩ := rep_reads I m x v _ d e2 h1 r1.2
          obtain ⟨bs, q2, n2⟩ := repk_reads I m xs vr _ ds e3 h2 r2
          exact ⟨_, .cons q1 q2, fun hm => (List.mem_append.mp hm).elim n1 n2⟩
end
end
def rReprD (K : PySem.W.Frag) : List V → Hp → VK → Prop := fun xs H Q => ∃ v x d, xs = [v] ∧ Rep K H x v ∧ pyA x = some d ∧ d.showable = true ∧ d.shown.length ≤ 16000000 ∧ d.depth ≤ 50 ∧ Q (.str d.shown) H
theorem call_reprD {X : Cx} (g : GOk X.base X.A) (hu : X.A.units + 64 < cLine) : CallR X (.builtin "repr") (rReprD X.K) := by
  intro pins s σ H xs us Q I r h
  obtain ⟨v, x, d, e, hd, hp, hs, hl, hdp, q⟩ := h
  subst e
  obtain ⟨u, eu, ru⟩ := vals1 r
  subst eu
  obtain ⟨as, rd, hn⟩ := rep_reads I g.2 x v u d hp hd ru
  have hl' : d.shown.length ≤ sizeLine := Nat.le_trans hl (by rw [sizeLine_eq]; decide)
  have viaRef : ∀ a, u = .ref a → wpAny (model X.prog X.w) X.A (call (.builtin "repr") [u]) (EP X pins σ Q) X.xe s := fun a e => by
    subst e
    exact repr_of_reads' rd hs (fun _ => hn) g.1 (by omega) (fun _ _ e => e) (fun h' t tk k => ⟨.str _, H, I.kept (t' := tk) k, ⟨_, rfl⟩, q⟩) hl'
  cases x with
  | non => unfold Rep at hd; unfold pyA at hp; subst hd; cases hp; cases rd; exact PySem.P.repr_of_none ⟨.str _, H, I.tok _, ⟨_, rfl⟩, q⟩
  | bl b => unfold Rep at hd; unfold pyA at hp; subst hd; cases hp; cases rd; exact PySem.P.repr_of_bool ⟨.str _, H, I.tok _, ⟨_, rfl⟩, q⟩
  | int i => unfold Rep at hd; unfold pyA at hp; subst hd; cases hp; cases rd; exact PySem.P.repr_of_int (by simpa [PyData.showable] using hs) ⟨.str _, H, I.tok _, ⟨_, rfl⟩, q⟩
  | str z => unfold Rep at hd; unfold pyA at hp; subst hd; cases hp; cases rd; exact PySem.P.repr_of_str ⟨.str _, H, I.tok _, ⟨_, rfl⟩, q⟩ hl'
  | lst xs => unfold Rep at hd; obtain ⟨a, _, e, _⟩ := hd; subst e; cases ru; exact viaRef a rfl
  | tup xs => unfold Rep at hd; obtain ⟨a, _, e, _⟩ := hd; subst e; cases ru; exact viaRef a rfl
  | dct xs => unfold Rep at hd; obtain ⟨a, _, e, _⟩ := hd; subst e; cases ru; exact viaRef a rfl
  | ty _ => unfold pyA at hp; cases hp
  | ptr _ => unfold pyA at hp; cases hp
  | ro _ => unfold pyA at hp; cases hp
  | obj _ _ => unfold pyA at hp; cases hp
  | dcT _ => unfold pyA at hp; cases hp
mutual
def rOk : D → Prop
  | .non => True
  | .bl _ => True
  | .int i => i.natAbs.log2 < 1920
  | .str z => ∀ ch ∈ z.cps.toList, ch < 4294967296
  | .lst xs => rOks xs
  | .tup xs => rOks xs
  | .dct kvs => rOkk kvs
  | _ => False
def rOks : List D → Prop
  | [] => True
  | x :: xs => rOk x ∧ rOks xs
def rOkk : List (Key × D) → Prop
  | [] => True
  | (.inl i, x) :: xs => i.natAbs.log2 < 1920 ∧ rOk x ∧ rOkk xs
  | (.inr z, x) :: xs => (∀ ch ∈ z.cps.toList, ch < 4294967296) ∧ rOk x ∧ rOkk xs
end
mutual
def wt : D → Nat
  | .str z => 10 * z.length + 2
  | .lst xs => wts xs + 3
  | .tup xs => wts xs + 3
  | .dct kvs => wtk kvs + 3
  | _ => 1921
def wts : List D → Nat
  | [] => 0
  | x :: xs => wt x + 2 + wts xs
def wtk : List (Key × D) → Nat
  | [] => 0
  | (.inl _, x) :: xs => 1921 + wt x + 4 + wtk xs
  | (.inr z, x) :: xs => 10 * z.length + 2 + wt x + 4 + wtk xs
end
mutual
def dpt : D → Nat
  | .lst xs => dpts xs + 1
  | .tup xs => dpts xs + 1
  | .dct kvs => dptk kvs + 1
  | _ => 0
def dpts : List D → Nat
  | [] => 0
  | x :: xs => max (dpt x) (dpts xs)
def dptk : List (Key × D) → Nat
  | [] => 0
  | (_, x) :: xs => max (dpt x) (dptk xs)
end
theorem shownAll_sum {x : PyData} {xs : List PyData} : ((PyData.shownAll (x :: xs)).map (·.length)).sum = x.shown.length + ((PyData.shownAll xs).map (·.length)).sum := by
  simp [PyData.shownAll]
theorem shownKv_sum {k v : PyData} {xs : List (PyData × PyData)} : ((PyData.shownKv ((k, v) :: xs)).map (·.length)).sum = k.shown.length + 2 + v.shown.length + ((PyData.shownKv xs).map (·.length)).sum := by
  have e2 : (k.shown ++ ": " ++ v.shown).length = k.shown.length + 2 + v.shown.length := by
    rw [strLen_append, strLen_append]; rfl
  simp only [PyData.shownKv, List.map_cons, List.sum_cons, e2]
theorem shownAll_len : ∀ xs : List PyData, (PyData.shownAll xs).length = xs.length
  | [] => rfl
  | x :: xs => by simp [PyData.shownAll, shownAll_len xs]
mutual
theorem rok_py : ∀ x : D, rOk x → ∃ d, pyA x = some d ∧ d.showable = true ∧ d.shown.length ≤ wt x ∧ d.depth ≤ dpt x
  | .non, _ => ⟨_, by unfold pyA; rfl, by simp [PyData.showable], by simp only [PyData.shown, wt]; decide +kernel, by simp [PyData.depth]⟩
  | .bl b, _ => ⟨_, by unfold pyA; rfl, by simp [PyData.showable], by simp only [PyData.shown, wt]; cases b <;> decide +kernel, by simp [PyData.depth]⟩
  | .int i, h => ⟨_, by unfold pyA; rfl, by unfold rOk at h; simp [PyData.showable, h], by unfold rOk at h; simp only [PyData.shown, wt]; exact int_text_len_1921 h, by simp [PyData.depth]⟩
  | .str z, h => ⟨_, by unfold pyA; rfl, by simp [PyData.showable], by unfold rOk at h; simp only [PyData.shown, wt]; exact StrLaws.reprText_len z h, by simp [PyData.depth]⟩
  | .lst xs, h => by
    unfold rOk at h
    obtain ⟨ds, h1, h2, h4, h5⟩ := roks_py xs h
    refine ⟨.list ds, by unfold pyA; rw [h1]; rfl, by simpa [PyData.showable] using h2, ?_, by simp only [PyData.depth, dpt]; omega⟩
    have q := listText_len_le (PyData.shownAll ds)
    simp only [PyData.shown, wt]
    rw [shownAll_len] at q
    omega
  | .tup xs, h => by
    unfold rOk at h
    obtain ⟨ds, h1, h2, h4, h5⟩ := roks_py xs h
    refine ⟨.tuple ds, by unfold pyA; rw [h1]; rfl, by simpa [PyData.showable] using h2, ?_, by simp only [PyData.depth, dpt]; omega⟩
    have q := tupleText_len_le (PyData.shownAll ds)
    simp only [PyData.shown, wt]
    rw [shownAll_len] at q
    omega
  | .dct kvs, h => by
    unfold rOk at h
    obtain ⟨ds, h1, h2, h4, h5⟩ := rokk_py kvs h
    refine ⟨.dict ds, by unfold pyA; rw [h1]; rfl, by simpa [PyData.showable] using h2, ?_, by simp only [PyData.depth, dpt]; omega⟩
    have q := dictText_len_le (PyData.shownKv ds)
    have q2 := PyData.shownKv_length ds
    simp only [PyData.shown, wt]
    omega
  | .ty _, h => by unfold rOk at h; exact h.elim
  | .ro _, h => by unfold rOk at h; exact h.elim
  | .ptr _, h => by unfold rOk at h; exact h.elim
  | .obj _ _, h => by unfold rOk at h; exact h.elim
  | .dcT _, h => by unfold rOk at h; exact h.elim
theorem roks_py : ∀ xs : List D, rOks xs → ∃ ds, pyAs xs = some ds ∧ PyData.showableAll ds = true ∧ ((PyData.shownAll ds).map (·.length)).sum + 2 * ds.length ≤ wts xs ∧ PyData.depthAll ds ≤ dpts xs
  | [], _ => ⟨[], by unfold pyAs; rfl, by simp [PyData.showableAll], by simp [PyData.shownAll], by simp [PyData.depthAll]⟩
  | x :: xs, h => by
    unfold rOks at h
    obtain ⟨d, h1, h2, h4, h5⟩ := rok_py x h.1
    obtain ⟨ds, g1, g2, g4, g5⟩ := roks_py xs h.2
    refine ⟨d :: ds, by unfold pyAs; rw [h1, g1]; rfl, by simp [PyData.showableAll, h2, g2], ?_, by simp only [PyData.depthAll, dpts]; omega⟩
    rw [shownAll_sum]
    simp only [wts, List.length_cons]
    omega
theorem rokk_py : ∀ xs : List (Key × D), rOkk xs → ∃ ds, pyAk xs = some ds ∧ PyData.showableKv ds = true ∧ ((PyData.shownKv ds).map (·.length)).sum + 2 * ds.length ≤ wtk xs ∧ PyData.depthKv ds ≤ dptk xs
  | [], _ => ⟨[], by unfold pyAk; rfl, by simp [PyData.showableKv], by simp [PyData.shownKv], by simp [PyData.depthKv]⟩
  | (.inl i, x) :: xs, h => by
    unfold rOkk at h
    obtain ⟨d, h1, h2, h4, h5⟩ := rok_py x h.2.1
    obtain ⟨ds, g1, g2, g4, g5⟩ := rokk_py xs h.2.2
    have hi : (PyData.int i).shown.length ≤ 1921 := by simp only [PyData.shown]; exact int_text_len_1921 h.1
    refine ⟨(.int i, d) :: ds, by unfold pyAk; rw [h1, g1]; rfl, by simp [PyData.showableKv, PyData.showable, h2, g2, h.1], ?_, by simp only [PyData.depthKv, PyData.depth, dptk]; omega⟩
    rw [shownKv_sum]
    simp only [wtk, List.length_cons]
    omega
  | (.inr z, x) :: xs, h => by
    unfold rOkk at h
    obtain ⟨d, h1, h2, h4, h5⟩ := rok_py x h.2.1
    obtain ⟨ds, g1, g2, g4, g5⟩ := rokk_py xs h.2.2
    have hi : (PyData.str z).shown.length ≤ 10 * z.length + 2 := by simp only [PyData.shown]; exact StrLaws.reprText_len z h.1
    refine ⟨(.str z, d) :: ds, by unfold pyAk; rw [h1, g1]; rfl, by simp [PyData.showableKv, PyData.showable, h2, g2], ?_, by simp only [PyData.depthKv, PyData.depth, dptk]; omega⟩
    rw [shownKv_sum]
    simp only [wtk, List.length_cons]
    omega
end
/-- the repr of data -/
def reprA (x : D) : Str := match pyA x with
  | some d => d.shown
  | none => ⟨#[]⟩
def rpOk (x : D) : Prop := rOk x ∧ wt x ≤ 16000000 ∧ dpt x ≤ 50
def rReprA (K : PySem.W.Frag) : List V → Hp → VK → Prop := rReprD K
theorem call_reprA {X : Cx} (g : GOk X.base X.A) (hu : X.A.units + 64 < cLine) : CallR X (.builtin "repr") (rReprA X.K) := call_reprD g hu
theorem cad_reprA {c : Cd} : CaD c (rReprA c.K) fun ds k => ∃ x, ds = [x] ∧ rpOk x ∧ k (.d (.str (reprA x))) := cad_one fun B G H σ δ r1 v x Ψ Q F h1 e1 hf k => by
  obtain ⟨⟨ho, hw, hd⟩, kk⟩ := hf
  obtain ⟨d, q1, q2, q4, q5⟩ := rok_py x ho
  have er : reprA x = d.shown := by unfold reprA; rw [q1]
  rw [er] at kk
  exact ⟨v, x, d, rfl, view_repH F h1 e1, q1, q2, by omega, by omega, k _ _ G H kk (Ex.refl G) (Ex.refl H) F (rep_str (K := c.K) (G := G))⟩
end DL

/-! DL12: exceptions of own classes over an own base of ValueError. -/
namespace DL
open PySem PySem.Spec PyProof.Rows L2
open Evl (Ex)
section
variable {X : Cx} {e : Expr} {es : List Expr} {ta : TA} {p1 p2 pos : Pos} {B : Str} {CB : Addr} {mc : Value}
/-- Base.__init__(self, ..), Base's __init__ being ValueError's -/
theorem pe_meinit {pl : Sem Bool} (hg : Gl X B) (hm : X.mg B = some (.ref CB)) (rd : ClX.CRead X.K CB mc) (vV : PySem.W.findCls X.K (.ref CB) mc "__init__" = some (.val (.builtin "ValueError.__init__"))) (ha : PA X (e :: es) ta)
    (hc : eval (.Call (.Attribute (.Name B p1) "__init__" p2) (e :: es) [] pos) X.env = (do
      let ov ← eval (.Name B p1) X.env
      standAt p2.atName
      let (f, first) ← holding [ov] (getMethod ov "__init__" pl)
      callWith pos f first (backTo pos (starEach (e :: es) X.env)) (backToKw pos (keywordEach [] X.env))) := by rfl)
    (hdb : (B == ("__debug__" : Str)) = false := by decide) (he : starEach (e :: es) X.env = (false, eval e X.env) :: starEach es X.env := by rfl) (hpl : (backTo pos (starEach es X.env)).any (·.1) = false := by rfl) :
    PE X (.Call (.Attribute (.Name B p1) "__init__" p2) (e :: es) [] pos) (tVeI X.K ta) := by
  constructor
  intro pins s σ H Q I h
  refine PySem.W.methodCall_KW (ld_glob I hg hm ?_ hdb) hc
  refine PySem.W.method_cls I.kIn rd.ga (PySem.W.cls_value I.kIn rd.rd vV rfl ?_)
  show wpAny _ _ (callWith pos (Value.builtin "ValueError.__init__") [] (backTo pos (starEach (e :: es) X.env)) []) _ _ _
  refine PyProof.Rows.callWith_method1 (thn (ha.run pos pins _ σ H _ (I.tok _) h) fun us s1 hh => ?_) he hpl
  obtain ⟨vs, H1, I1, r1, a, C, ws, ev, hl, T, ea, q⟩ := hh
  subst ev
  obtain ⟨u0, ur, eu, ra, rw'⟩ : ∃ u0 ur, us = u0 :: ur ∧ RelV (.ref a) u0 ∧ Vals ws ur := by
    cases r1 with
    | @cons _ u0 _ ur ra rw' => exact ⟨u0, ur, rfl, ra, rw'⟩
  subst eu
  have e0 : u0 = Value.ref a := ra
  subst e0
  refine oinit_ok T I1 ea ?_ fun s' J => ⟨.non, H1, J, rfl, q⟩
  rw [← Paired.length rw', sizeLine_eq]
  exact Nat.le_trans hl (by decide)
end
/-- what an own exception's __init__ does: its fields, the last one first -/
def spInit (K : PySem.W.Frag) (fl : List Str) : Sp := fun vs H Q _ => ∃ (a C : Addr) (ws : List V), vs = .ref a :: ws ∧ ws.length = fl.length ∧ OexC K C ∧ (∀ f ∈ fl, PySem.W.findIn K (.ref C) f = some none) ∧ H a = some (exo a C none) ∧
  ∀ dx, H dx = none → dx ≠ a → Q .non (upd (upd H dx (exd dx (fl.zip ws.reverse))) a (exo a C (some dx)))
theorem init_reads {K : PySem.W.Frag} {f : Str} {m : Str} {vs : List V} {N : List Str} {H : Hp} {Q : VK} {E : XK} (hN : N.length = 2) (h : spInit K [f] vs H Q E) :
    tSeq (tDrop (tVeI K (tCons (tVar 0) (tCons (tC (.str m)) tNil)))) (tOst K f (tVar 0) (tVar 1)) { nx := fun _ H' => Q .non H', rt := Q } (L2.start N vs) H := by
  obtain ⟨a, C, ws, e, hl, T, hf, ea, q⟩ := h
  match ws, hl with
  | [v], _ =>
    subst e
    have es : L2.start N [.ref a, v] = [some (.ref a), some v] := by
      unfold L2.start
      rw [hN]
      rfl
    rw [es]
    exact ⟨_, rfl, a, C, [.str m], rfl, Nat.le_of_ble_eq_true rfl, T, ea, _, rfl, _, rfl, a, C, rfl, T, hf f List.mem_cons_self, .inl ⟨ea, fun dx h1 h2 => q dx h1 h2⟩⟩
theorem init_reads2 {K : PySem.W.Frag} {f g : Str} {m : Str} {vs : List V} {N : List Str} {H : Hp} {Q : VK} {E : XK} (hN : N.length = 3) (h : spInit K [g, f] vs H Q E) :
    tSeq (tDrop (tVeI K (tCons (tVar 0) (tCons (tC (.str m)) tNil)))) (tSeq (tOst K f (tVar 0) (tVar 1)) (tOst K g (tVar 0) (tVar 2))) { nx := fun _ H' => Q .non H', rt := Q } (L2.start N vs) H := by
  obtain ⟨a, C, ws, e, hl, T, hf, ea, q⟩ := h
  match ws, hl with
  | [v, w], _ =>
    subst e
    have es : L2.start N [.ref a, v, w] = [some (.ref a), some v, some w] := by
      unfold L2.start
      rw [hN]
      rfl
    rw [es]
    refine ⟨_, rfl, a, C, [.str m], rfl, Nat.le_of_ble_eq_true rfl, T, ea, _, rfl, _, rfl, a, C, rfl, T, hf f (List.mem_cons_of_mem _ List.mem_cons_self), .inl ⟨ea, fun dx h1 h2 => ?_⟩⟩
    refine ⟨_, rfl, _, rfl, a, C, rfl, T, hf g List.mem_cons_self, .inr ⟨dx, [(f, v)], upd_same, by rw [upd_ne h2, upd_same], by simp, ?_⟩⟩
    have eh : upd (upd (upd H dx (exd dx [(f, v)])) a (exo a C (some dx))) dx (exd dx ((g, w) :: [(f, v)])) = upd (upd H dx (exd dx ([g, f].zip [v, w].reverse))) a (exo a C (some dx)) := by
      funext b
      by_cases q1 : b = dx
      · subst q1; rw [upd_same, upd_ne h2, upd_same]; rfl
      · rw [upd_ne q1]
        by_cases q2 : b = a
        · subst q2; rw [upd_same, upd_same]
        · rw [upd_ne q2, upd_ne q1, upd_ne q2, upd_ne q1]
    rw [eh]
    exact q dx h1 h2
end DL
namespace DL
open PySem PySem.Spec PyProof.Rows L2
open Evl (Ex)
/-! ### contracts that may raise -/
structure Cn where
  ad : Nat → Addr
  fl : Nat → List Str
  bs : Addr
abbrev SpX := List Sl → (R → List Sl → Prop) → (Nat → D → Prop) → Prop
/-- the fields of what was raised, of one thing, or of two in a tuple -/
def xfs : List Str → D → List (Str × D)
  | [f], x => [(f, x)]
  | [g, f], .tup [y, z] => [(g, z), (f, y)]
  | _, _ => []
/-- where a def raises, a new object without fields is lost, nothing else -/
def lose : List Sl → List Sl
  | .own _ (.obj _ []) :: as => .no :: as
  | as => as
theorem lose_sl {K : PySem.W.Frag} {G H : Hp} : ∀ {as : List Sl} {σ : St}, SlsR K G H as σ → SlsR K G H (lose as) σ := fun {as σ} h => by
  unfold lose
  split
  · obtain ⟨ov, σr, e, _, h2⟩ := h
    exact ⟨ov, σr, e, trivial, h2⟩
  · exact h
/-- a body that raises has left its parameters as they were -/
def Kp (as δ : List Sl) : Prop := parOk (lose as) δ ∧ parBack (lose as) δ = lose as
/-- an exception behind a call: its class, its dict with its fields -/
def liftX (K : PySem.W.Frag) (cn : Cn) (S : SpX) : Sp := fun vs H Q X => ∃ B G as, Frame K B G H (vs.map some) as ∧
  S as (fun r as' => ∀ v G' H', Ex G G' → Frame K B G' H' (vs.map some) as' → RV K B G' H' as' r v → Q v H')
    (fun nm x => ∀ d v G' H', Ex G G' → Frame K B G' H' (vs.map some) (lose as) → G' d = some (.xd v) → RepF K G' (xfs (cn.fl nm) x) v → X (.ref (cn.ad nm)) (some d) H')
/-- what a body that may raise leans on: Ψ is raised from slots δ' -/
def XR (K : PySem.W.Frag) (cn : Cn) (Ψ : Nat → D → List Sl → Prop) (W : WX) (B G : Hp) : Prop := ∀ nm x δ' σ' d v G' H', Ψ nm x δ' → Ex G G' → Frame K B G' H' σ' δ' → G' d = some (.xd v) → RepF K G' (xfs (cn.fl nm) x) v → W (.ref (cn.ad nm)) (some d) σ' H'
abbrev cX (K : PySem.W.Frag) (cn : Cn) (Ψ : Nat → D → List Sl → Prop) (W : WX) : Cd := ⟨K, XR K cn Ψ W, fun _ _ _ e h nm x δ' σ' d v G' H' a b c d' e' => h nm x δ' σ' d v G' H' a (e.trans b) c d' e'⟩
/-- a wall round all that is no one's yet -/
def wall (G H : Hp) : Hp := fun b => if (G b).isSome = true then none else H b
theorem wall_some {G H : Hp} {b : Addr} {o : HO} (h : H b = some o) (g : G b = none) : wall G H b = some o := by
  unfold wall
  rw [if_neg (by rw [g]; exact Bool.false_ne_true)]
  exact h
theorem wall_of {G H : Hp} {b : Addr} {o : HO} (h : wall G H b = some o) : H b = some o ∧ G b = none := by
  unfold wall at h
  cases g : G b with
  | none => rw [g] at h; exact ⟨h, rfl⟩
  | some u => rw [g] at h; cases h
section
variable {K : PySem.W.Frag} {B G G' H H' : Hp} {σ : St} {δ as : List Sl} {vs : List V}
theorem wall_frame (F : Frame K B G H σ δ) (hs : SlsR K G H as (vs.map some)) (ho : owned as = []) : Frame K (wall G H) G H (vs.map some) as :=
  ⟨fun b o h => (wall_of h).1, F.exG, fun b => by
    cases e : wall G H b with
    | none => exact .inl rfl
    | some o => exact .inr (.inl (wall_of e).2), hs, fun a ha => (by rw [ho] at ha; cases ha), by rw [ho]; exact List.nodup_nil⟩
theorem wall_back (F : Frame K B G H σ δ) (eG : Ex G G') (eB : Ex (wall G H) H') (eG' : Ex G' H') (dis : ∀ b, AptV (wall G H b) (G' b)) : Frame K B G' H' σ δ := by
  have thru : ∀ b o, H b = some o → G b = none → H' b = some o ∧ AptV (some o) (G' b) := fun b o h g => by
    have w := wall_some h g
    refine ⟨eB b o w, ?_⟩
    have q := dis b
    rw [w] at q
    exact q
  refine ⟨fun b o h => ?_, eG', fun b => ?_, F.sl.ex eG (fun a ha => ?_), fun a ha => ⟨(F.own a ha).1, ?_⟩, F.nd⟩
  · have h1 := F.exB b o h
    rcases F.dis b with q | q | ⟨xs, q⟩
    · rw [h] at q; cases q
    · exact (thru b o h1 q).1
    · have h2 := F.exG b _ q
      rw [h1] at h2
      cases h2
      exact eG' b _ (eG b _ q)
  · cases e : B b with
    | none => exact .inl rfl
    | some o =>
      rcases F.dis b with q | q | ⟨xs, q⟩
      · rw [e] at q; cases q
      · exact (thru b o (F.exB b o e) q).2
      · exact .inr (.inr ⟨xs, eG b _ q⟩)
  · obtain ⟨o, ho⟩ := F.there ha
    rw [ho]
    exact (thru a o ho (F.own a ha).2).1
  · obtain ⟨o, ho, n⟩ := F.obj ha
    have h2 := thru a o ho (F.own a ha).2
    rcases h2.2 with q | q | ⟨xs, q⟩
    · cases q
    · exact q
    · have h3 := eG' a _ q
      rw [h2.1] at h3
      cases h3
      exact absurd rfl (n xs)
theorem wall_new (F : Frame K B G H σ δ) (eG : Ex G G') {a : Addr} (h1 : wall G H a = none) (h2 : G' a = none) : B a = none ∧ a ∉ owned δ := by
  have g : G a = none := by
    cases e : G a with
    | none => rfl
    | some o => rw [eG a o e] at h2; cases h2
  have hH : H a = none := by
    cases e : H a with
    | none => rfl
    | some o => rw [wall_some e g] at h1; cases h1
  obtain ⟨q1, _, q3⟩ := F.fresh hH
  exact ⟨q1, q3⟩
end
end DL
namespace DL
open PySem PySem.Spec PyProof.Rows L2
open Evl (Ex)
section
variable {K : PySem.W.Frag} {cn : Cn} {Ψ : Nat → D → List Sl → Prop} {W : WX} {p : Bool} {δ : List Sl}
theorem slsR_datas {G H : Hp} : ∀ {ds : List D} {vs : List V}, RVs K G (ds.map R.d) vs → SlsR K G H (ds.map Sl.d) (vs.map some)
  | [], vs, h => by
    have e : vs = [] := h
    rw [e]
    exact rfl
  | d :: ds, vs, h => by
    obtain ⟨v, vr, e, h1, h2⟩ := h
    subst e
    exact ⟨some v, vr.map some, rfl, ⟨v, rfl, h1⟩, slsR_datas h2⟩
theorem owned_datas : ∀ ds : List D, owned (ds.map Sl.d) = []
  | [] => rfl
  | _ :: ds => owned_datas ds
/-- a call that may raise, its arguments data -/
theorem we_callX {S : SpX} {tr : TA} {Φ : R → List Sl → Prop} (h : WA (cX K cn Ψ W) false tr δ fun rs δ1 => ∃ ds : List DL.D, rs = ds.map DL.R.d ∧
    ∀ (P : R → List Sl → Prop) (Y : Nat → D → Prop), (∀ r as', ownOut r → Φ r δ1 → P r as') → (∀ nm x, Ψ nm x δ1 → Y nm x) → S (ds.map Sl.d) P Y) : WE (cX K cn Ψ W) false (tCallS (liftX K cn S) (L2.WE W) tr) δ Φ := by
  intro B G H σ Q F x k
  refine h B G H σ _ F x fun rs δ1 vs G1 H1 w e1 F1 rv p1 => ?_
  obtain ⟨ds, e, hS⟩ := w
  subst e
  refine ⟨wall G1 H1, G1, ds.map Sl.d, wall_frame F1 (slsR_datas rv) (owned_datas ds), hS _ _ (fun r as' ho q v G' H' eG F' rv' => ?_) fun nm y q d v G' H' eG F' hd hr => ?_⟩
  · have Fb := wall_back F1 eG F'.exB F'.exG F'.dis
    refine k r δ1 v G' H' q (e1.trans eG) Fb ?_ fun z => nomatch z
    cases r with
    | d y => exact rv'
    | own a y =>
      obtain ⟨q1, q2, q3, q4, q5⟩ := rv'
      obtain ⟨n1, n2⟩ := wall_new F1 eG q3 q4
      exact ⟨q1, q2, n1, q4, n2⟩
    | deep a y gs =>
      obtain ⟨q1, q2, q3, q4, q5⟩ := rv'
      exact ⟨q1, q2, q3, fun b hb => ⟨(wall_new F1 eG (q4 b hb).1 (q4 b hb).2.1).1, (q4 b hb).2.1, (wall_new F1 eG (q4 b hb).1 (q4 b hb).2.1).2⟩, q5⟩
    | bor i a => exact ho.elim
  · exact x nm y δ1 σ d v G' H' q (e1.trans eG) (wall_back F1 eG F'.exB F'.exG F'.dis) hd hr
theorem repF_zip {G : Hp} : ∀ {fl : List Str} {ys : List DL.D} {vs : List V}, Reps K G ys vs → RepF K G (fl.zip ys) (fl.zip vs)
  | [], ys, vs, _ => by show RepF K G [] []; unfold RepF; rfl
  | f :: fl, [], vs, h => by unfold Reps at h; subst h; show RepF K G [] []; unfold RepF; rfl
  | f :: fl, y :: ys, vs, h => by
    unfold Reps at h
    obtain ⟨v, vr, e, h1, h2⟩ := h
    subst e
    show RepF K G ((f, y) :: fl.zip ys) ((f, v) :: fl.zip vr)
    unfold RepF
    exact ⟨v, _, rfl, h1, repF_zip h2⟩
theorem rvs_datas {G : Hp} : ∀ {ys : List DL.D} {vs : List V}, RVs K G (ys.map DL.R.d) vs → Reps K G ys vs
  | [], vs, h => by have e : vs = [] := h; subst e; exact reps_nil
  | y :: ys, vs, h => by
    obtain ⟨v, vr, e, h1, h2⟩ := h
    subst e
    exact reps_cons h1 (rvs_datas h2)
/-- raise C(e, ..), C's own __init__ keeping its fields -/
theorem ws_raise {C : Addr} {ta : TA} {E : En} {nm : Nat} (hC : cn.ad nm = C) (T : OexC K C) (hf : ∀ f ∈ cn.fl nm, PySem.W.findIn K (.ref C) f = some none)
    (h : WA (cX K cn Ψ W) false ta δ fun rs δ1 => ∃ (ys : List DL.D) (x : DL.D), rs = ys.map DL.R.d ∧ ys.length = (cn.fl nm).length ∧ ys.length ≤ 1000 ∧ xfs (cn.fl nm) x = (cn.fl nm).zip ys.reverse ∧ Ψ nm x δ1) : WS (cX K cn Ψ W) (fun _ σ H => tMkO C (spInit K (cn.fl nm)) [] ta σ H fun cls d H' => W cls d σ H') δ E := by
  intro B G H σ Dd F x _
  refine h B G H σ _ F x fun rs δ1 vs G1 H1 w e1 F1 rv p1 => ?_
  obtain ⟨ys, y, e, hl, hl2, hx, q⟩ := w
  subst e
  have hr := rvs_datas rv
  have hvl := reps_length hr
  have hz := repF_zip (fl := cn.fl nm) (reps_rev hr)
  rw [← hx] at hz
  refine ⟨by rw [hvl]; exact hl2, fun a ha => ⟨a, C, vs, by rw [List.append_nil], by rw [hvl, hl], T, hf, upd_same, fun dx h3 h4 => ?_⟩⟩
  have hdx : H1 dx = none := by rw [upd_ne h4] at h3; exact h3
  generalize (cn.fl nm).zip vs.reverse = fvs at hz ⊢
  refine ⟨rfl, dx, fvs, upd_same, by rw [upd_ne h4, upd_same], hdx, ?_⟩
  have eh : upd (del (upd (upd (upd H1 a (exo a C none)) dx (exd dx fvs)) a (exo a C (some dx))) a) dx (.xd fvs) = upd H1 dx (.xd fvs) := by
    funext b
    by_cases q1 : b = dx
    · subst q1; rw [upd_same, upd_same]
    · rw [upd_ne q1, upd_ne q1]
      unfold del
      by_cases q2 : b = a
      · rw [if_pos q2, q2, ha]
      · rw [if_neg q2, upd_ne q2, upd_ne q1, upd_ne q2]
  rw [eh]
  subst hC
  have hG := (F1.fresh hdx).2.1
  exact x nm y δ1 σ dx fvs _ _ q (e1.trans (Ex.new hG)) (F1.laid hdx) upd_same (hz.mono (Ex.new hG))
end
end DL
namespace DL
open PySem PySem.Spec PyProof.Rows L2
open Evl (Ex)
/-! ### defs that may raise -/
section
variable {P : Program} {w : World} {K : PySem.W.Frag} {mg : Str → Option Value} {base : Heap}
theorem okGX {x qual : Str} {st : Stmt} {f : Addr} {fd : FuncData} {N ps : List Str} {k : Nat} {sp : Sp} (F : Fun K x qual st f fd) (S : FnScope N ps (defScope st)) (len : ∀ vs H Q E, sp vs H Q E → vs.length = ps.length)
    (hb : ∀ (cdv : Value) (A : Around) (outer : List Env) (s : Shared) (H : Hp) (vs : List V) (Q : VK) (E : XK), GOk base A → Room k (A.deeper (envOfC qual (defScope st) s.heap.objs.size f cdv)) → sp vs H Q E →
      ∃ t, PSs (cxOf (L2.CX P w) P w K mg base N qual (defScope st) f cdv A outer s H E) (defBody st) t ∧ t { nx := fun _ H' => Q .non H', rt := Q } (L2.start N vs) H) : FnG P w K mg base (L2.CX P w) (k + 1) f fd ps sp := by
  obtain ⟨_, _, _, _, _, _, cdv, _, _, e, lk, hcd⟩ := F.ex
  subst e
  exact fnG_of lk hcd S len fun A outer s H vs Q E g r q => hb cdv A outer s H vs Q E g r q
theorem tkX {N : List Str} {qual : Str} {scope : Scope} {f : Addr} {cd : Value} {A : Around} {outer : List Env} {s : Shared} {H : Hp} {E : XK} : Takes (cxOf (L2.CX P w) P w K mg base N qual scope f cd A outer s H E) (fun cls d _ H => E cls d H) := takes_of rfl rfl rfl rfl
theorem psX {N : List Str} {qual : Str} {scope : Scope} {f : Addr} {cd : Value} {A : Around} {outer : List Env} {s : Shared} {H : Hp} {E : XK} :
    PassesOwn (model P w) (cxOf (L2.CX P w) P w K mg base N qual scope f cd A outer s H E).A (cxOf (L2.CX P w) P w K mg base N qual scope f cd A outer s H E).env (cxOf (L2.CX P w) P w K mg base N qual scope f cd A outer s H E).xe := passes_of rfl
end
section
variable {X : Cx} {CX : CXT} {k : Nat} {f : Addr} {fd : FuncData} {ps : List Str} {sp : Sp} {E : L2.St → XK} {x : Str} {p pos : Pos} {e : Expr} {es : List Expr} {t : TA}
theorem pe_callSG (F : FnG X.prog X.w X.K X.mg X.base CX k f fd ps sp) (g : GOk X.base X.A) (hr : Room k X.A) (hg : Gl X x) (hm : X.mg x = some (.ref f)) (hk : PySem.W.keepIn X.K (.ref f) = true) (hb : Binds X.K fd ps []) (hx : ∀ σ, PassesAt CX X σ (E σ))
    (ha : PA X (e :: es) t) (hdb : (x == ("__debug__" : Str)) = false := by decide) (he : starEach (e :: es) X.env = (false, eval e X.env) :: starEach es X.env := by rfl) (hpl : (backTo pos (starEach es X.env)).any (·.1) = false := by rfl) : PE X (.Call (.Name x p) (e :: es) [] pos) (tCallS sp E t) := by
  constructor
  intro pins s σ H Q I h
  refine wpAny_Call_Name_kw (ld_glob I hg hm (PySem.W.callWith_K (h₀ := X.base) I.ok.mod.kin hk (thn (ha.run pos pins s σ H _ I h) fun us s1 ⟨vs, H1, I1, r, q⟩ => ⟨I1.kIn, ?_⟩) he hpl) hdb)
  have many : us.length = ps.length := by rw [← r.length]; exact F.len _ _ _ _ q
  have b := hb s1 us I1.kIn (by rw [List.append_nil]; exact many)
  rw [List.append_nil] at b
  refine wpAny_call (codeAny_mono (F.run X.A X.stack s1 H1 ⟨us, []⟩ us vs Q (E σ) g hr I1.env0 b r q) fun res s' q' => ?_)
  match res, q' with
  | .error ex, q' => exact hx σ pins H1 s1 ex s' I1 q'
  | .ok (.ret u), q' => exact I1.after q'
end
section
variable {K : PySem.W.Frag} {cn : Cn}
theorem liftX_len {S : SpX} {n : Nat} (hl : ∀ as Φ Y, S as Φ Y → as.length = n) {vs : List V} {H : Hp} {Q : VK} {X : XK} (h : liftX K cn S vs H Q X) : vs.length = n := by
  obtain ⟨B, G, as, F, hS⟩ := h
  have e := F.sl.len
  rw [← hl as _ _ hS, ← e, List.length_map]
end
end DL
namespace DL
open PySem PySem.Spec PyProof.Rows L2
open Evl (Ex)
/-! ### try, except X as n -/
/-- in an except suite: the exception's dict -/
abbrev cS (K : PySem.W.Frag) (d : Addr) (fs : List (Str × D)) : Cd := ⟨K, fun _ G => ∃ v, G d = some (.xd v) ∧ RepF K G fs v, fun _ _ _ e ⟨v, h1, h2⟩ => ⟨v, e _ _ h1, h2.mono e⟩⟩
section
variable {K : PySem.W.Frag} {cn : Cn} {p : Bool} {δ : List Sl}
theorem ws_try {i : Nat} {tb : WX → TS} {ts : Addr → Value → Option Addr → TS} {cE : Value} {Ψ : Nat → D → List Sl → Prop} {E : En} (hb : ∀ W : WX, WS (cX K cn Ψ W) (tb W) δ E)
    (hs : ∀ nm x δ', Ψ nm x δ' → PySem.W.exmOne K (.ref (cn.ad nm)) cE = some true ∧ ∀ (a d : Addr), WS (cS K d (xfs (cn.fl nm) x)) (ts a (.ref (cn.ad nm)) (some d)) (δ'.set i (.d (.ptr a)))
      ⟨fun δ3 => E.nx (δ3.set i .no), E.rt, fun δ3 => E.bk (δ3.set i .no), fun δ3 => E.ct (δ3.set i .no)⟩) :
    WS (c0 K) (fun D σ H => tb (wAs K cE i ts (fun _ _ _ _ => False) D) D σ H) δ E := by
  intro B G H σ Dn F x hE
  refine hb _ B G H σ Dn F (fun nm y δ' σ' d v G' H' q eG F' hd hr => ?_) ⟨hE.nx, hE.rt, hE.bk, hE.ct⟩
  obtain ⟨h1, h2⟩ := hs nm y δ' q
  refine ⟨true, h1, fun _ a ha => ?_, fun z => nomatch z⟩
  have Fs : Frame K B G' H' (σ'.set i (some (.ref a))) (δ'.set i (.d (.ptr a))) := frame_set (r := .d (.ptr a)) F' (by show Rep K G' (.ptr a) (.ref a); unfold Rep; rfl) rfl
  refine h2 a d B G' H' _ _ Fs ⟨v, hd, hr⟩ ⟨fun δ3 σ3 G3 H3 w e F3 => ?_, fun r δ3 u σ3 G3 H3 w e F3 rv => hE.rt r δ3 u σ3 G3 H3 w (eG.trans e) F3 rv, fun δ3 σ3 G3 H3 w e F3 => ?_, fun δ3 σ3 G3 H3 w e F3 => ?_⟩
  · exact hE.nx _ _ G3 H3 w (eG.trans e) (frame_wipe F3 [i])
  · exact hE.bk _ _ G3 H3 w (eG.trans e) (frame_wipe F3 [i])
  · exact hE.ct _ _ G3 H3 w (eG.trans e) (frame_wipe F3 [i])
/-- e.f, e the exception that the suite holds -/
theorem we_xf {a d C : Addr} {f : Str} {fs : List (Str × D)} {x : D} {te : TE} {Φ : R → List Sl → Prop} (hl : fs.lookup f = some x) (h : WE (cS K d fs) p te δ fun r δ1 => r = .d (.ptr a) ∧ Φ (.d x) δ1) : WE (cS K d fs) p (tXf a (.ref C) (some d) C f te) δ Φ := by
  intro B G H σ Q F xr k
  refine h B G H σ _ F xr fun r δ1 u G1 H1 w e1 F1 rv p1 => ?_
  obtain ⟨er, w⟩ := w
  subst er
  have eu : u = .ref a := by
    have z : Rep K G1 (.ptr a) u := rv
    unfold Rep at z
    exact z
  obtain ⟨fvs, x1, x2⟩ := xr
  have look : ∀ {fs : List (Str × D)} {vs : List (Str × V)}, RepF K G fs vs → fs.lookup f = some x → ∃ v, vs.lookup f = some v ∧ Rep K G x v := by
    intro fs
    induction fs with
    | nil => intro vs _ e; cases e
    | cons q fs ih =>
      intro vs h e
      obtain ⟨g, y⟩ := q
      unfold RepF at h
      obtain ⟨v, vr, e1, h1, h2⟩ := h
      subst e1
      rw [List.lookup_cons] at e ⊢
      cases z : f == g with
      | true => rw [z] at e; cases e; exact ⟨v, rfl, h1⟩
      | false => rw [z] at e; exact ih h2 e
  obtain ⟨w', l1, l2⟩ := look x2 hl
  exact ⟨eu, rfl, d, fvs, w', rfl, F1.exG d _ (e1 d _ x1), l1, k _ δ1 w' G1 H1 w e1 F1 (l2.mono e1) p1⟩
/-- isinstance(e, C) -/
def rIsED (K : PySem.W.Frag) (C a d : Addr) : List V → Hp → VK → Prop := fun xs H Q => ∃ (C' : Addr) (b : Bool) (fs : List (Str × V)), xs = [.ref a, .ref C'] ∧ H d = some (.xd fs) ∧ PySem.W.kitOne K (.ref C) (.ref C') = some b ∧ Q (.bl b) H
end
end DL

/-! DL13: kept empty: what stood here is in DL11. -/

/-! DL14: an except suite that asks which class it holds. -/
namespace DL
open PySem PySem.Spec PyProof.Rows L2
open Evl (Ex)
/-- what the text says of an exception's class, its field f -/
structure ExcAll (K : PySem.W.Frag) (C : Addr) (fl : List Str) : Prop where
  oex : OexC K C
  xf : XfC K C
  fno : ∀ f ∈ fl, PySem.W.findIn K (.ref C) f = some none
  hcl : (PySem.W.clsIn K C).isSome = true
  hat : PySem.W.findIn K (.ref C) "__class__" = some (some (.builtin "object.__class__"))
  hm : PySem.W.mroIn K C (.type "object") = some true
  hn : PySem.W.specialIn K (.builtin "object.__class__") "__get__" = some (some (.builtin "getset_descriptor.__get__"))
  htk : PySem.W.takesIn K (.builtin "object.__class__") = some true
def tXfX (K : PySem.W.Frag) (a : Addr) (cls : Value) (d : Option Addr) (f : Str) (te : TE) : TE := fun σ H Q => ∃ C dd fl, cls = .ref C ∧ d = some dd ∧ ExcAll K C fl ∧ f ∈ fl ∧ tXf a cls d C f te σ H Q
theorem pe_xfX {X : Cx} {a : Addr} {oe : Obj} {cls : Value} {d : Option Addr} {pn : List (Addr × Obj)} {e : Expr} {te : TE} {pos : Pos} {n : Str} (hz : Zc cls d oe) (hf : ∃ vs, oe.data = .fields vs) (he : PE (X.suite a ((a, oe) :: pn)) e te)
    (hb : attributeBase e n X.env (eval e X.env) = eval e X.env := by rfl) : PE (X.suite a ((a, oe) :: pn)) (.Attribute e n pos) (tXfX X.K a cls d n te) := by
  constructor
  intro pins s σ H Q I h
  obtain ⟨C, dd, fl, _, _, T, hm, q⟩ := h
  exact (pe_xf (pos := pos) T.xf (T.fno _ hm) hz hf he hb).run pins s σ H Q I q
section
variable {K : PySem.W.Frag} {p : Bool} {δ : List Sl} {a d C : Addr} {f : Str} {fl : List Str} {fs : List (Str × D)} {x : D}
theorem we_xfX {te : TE} {Φ : R → List Sl → Prop} (T : ExcAll K C fl) (hm : f ∈ fl) (hl : fs.lookup f = some x) (h : WE (cS K d fs) p te δ fun r δ1 => r = .d (.ptr a) ∧ Φ (.d x) δ1) : WE (cS K d fs) p (tXfX K a (.ref C) (some d) f te) δ Φ := fun B G H σ Q F xr k =>
  ⟨C, d, fl, rfl, rfl, T, hm, we_xf (C := C) hl h B G H σ Q F xr k⟩
end
end DL

/-! DL15: what the text says of an exception's class, and its __init__. -/
namespace DL
open PySem PySem.Spec PyProof.Rows L2
open Evl (Ex)
/-- a class of the text, its own __init__ the def st, f_ its function -/
structure ExcDef (K : PySem.W.Frag) (mg : Str → Option Value) (C : Addr) (nm qual : Str) (st : Stmt) (fl : List Str) (fI : Addr) (fd : FuncData) : Prop where
  all : ExcAll K C fl
  g : mg nm = some (.ref C)
  iC : PySem.W.findIn K (.ref C) "__init__" = some (some (.ref fI))
  tI : PySem.W.typeIn K (.ref fI) = some (.type "function")
  fn : Fun K "__init__" qual st fI fd
  b : Binds K fd ("self" :: fl.reverse) []
/-- the base of all of them -/
structure ExcBase (K : PySem.W.Frag) (mg : Str → Option Value) (B : Addr) (nm : Str) : Prop where
  g : mg nm = some (.ref B)
  rd : ClX.CRead K B (.type "type")
  vV : PySem.W.findCls K (.ref B) (.type "type") "__init__" = some (.val (.builtin "ValueError.__init__"))
theorem spInit_len {K : PySem.W.Frag} {fl : List Str} {vs : List V} {H : Hp} {Q : VK} {E : XK} (h : spInit K fl vs H Q E) : vs.length = fl.length + 1 := by
  obtain ⟨_, _, ws, e, hl, _⟩ := h
  rw [e, List.length_cons, hl]
/-- words about a def, the exceptions' facts known -/
def WsC {Fx : PySem.W.Frag → Cn → Prop} (S : SpD) (t : PySem.W.Frag → Cn → TS) (pad : List Sl) : Prop := ∀ (K : PySem.W.Frag) (cn : Cn) (as : List Sl) (Φ : R → List Sl → Prop), Fx K cn → S as Φ → W (c0 K) (t K cn) (as ++ pad) (RetD as Φ (.d .non)) (RetD as Φ) (fun _ => False) (fun _ => False)
def WsXC {Fx : PySem.W.Frag → Cn → Prop} (S : SpX) (t : PySem.W.Frag → Cn → WX → TS) (pad : List Sl) : Prop := ∀ (K : PySem.W.Frag) (cn : Cn) (Wx : WX) (as : List Sl) (Φ : R → List Sl → Prop) (Y : Nat → D → Prop), Fx K cn → S as Φ Y →
  W (cX K cn (fun nm x δ' => Y nm x ∧ Kp as δ') Wx) (t K cn Wx) (as ++ pad) (RetD as Φ (.d .non)) (RetD as Φ) (fun _ => False) (fun _ => False)
theorem liftX_WsC {Fx : PySem.W.Frag → Cn → Prop} {K : PySem.W.Frag} {cn : Cn} {S : SpX} {t : PySem.W.Frag → Cn → WX → TS} {n m : Nat} {N : List Str} {vs : List V} {H : Hp} {Q : VK} {X : XK} (fx : Fx K cn) (hl : ∀ as Φ Y, S as Φ Y → as.length = n) (hm : N.length = n + m)
    (hb : WsXC (Fx := Fx) S t (List.replicate m .no)) (h : liftX K cn S vs H Q X) : t K cn (fun cls d _ H => X cls d H) { nx := fun _ H' => Q .non H', rt := Q } (L2.start N vs) H := by
  obtain ⟨B, G, as, F, hS⟩ := h
  have ha := hl as _ _ hS
  have hv : as.length = vs.length := by have e := F.sl.len; simpa using e.symm
  have ow : owned (as ++ List.replicate m .no) = owned as := by rw [owned_append, owned_no, List.append_nil]
  have F0 : Frame K B G H (L2.start N vs) (as ++ List.replicate m .no) := by
    refine ⟨F.exB, F.exG, F.dis, ?_, by rw [ow]; exact F.own, by rw [ow]; exact F.nd⟩
    unfold L2.start
    refine F.sl.append ?_
    have z := SlsR.nos (K := K) (G := G) (H := H) (List.replicate (N.length - vs.length) none)
    rw [List.length_replicate, show N.length - vs.length = m by omega] at z
    rw [show N.length - vs.length = m by omega]
    exact z
  have back : ∀ (δ' : List Sl) (σ' : L2.St) (G' H' : Hp), parOk as δ' → Ex G G' → Frame K B G' H' σ' δ' → Frame K B G' H' (vs.map some) (parBack as δ') := fun δ' σ' G' H' ok e F' =>
    ⟨F'.exB, F'.exG, F'.dis, par_sl F.sl ok F'.sl e, fun a ha => F'.own a ((parBack_sub ok).subset ha), F'.nd.sublist (parBack_sub ok)⟩
  refine hb K cn _ as _ _ fx hS B G H (L2.start N vs) _ F0 (fun nm x δ' σ' d v G' H' q eG F' hd hr => q.1 d v G' H' eG (by
    rw [← q.2.2]
    exact ⟨F'.exB, F'.exG, F'.dis, par_sl (lose_sl F.sl) q.2.1 F'.sl eG, fun a ha => F'.own a ((parBack_sub q.2.1).subset ha), F'.nd.sublist (parBack_sub q.2.1)⟩) hd hr) ⟨fun δ' σ' G' H' q eG F' => ?_, fun r δ' v σ' G' H' q eG F' rv => ?_, fun _ _ _ _ q => q.elim, fun _ _ _ _ q => q.elim⟩
  · exact q.2 .non G' H' eG (back δ' σ' G' H' q.1 eG F') (rep_non (K := K) (G := G'))
  · obtain ⟨ok, q⟩ := q
    match r, q, rv with
    | .d x, q, rv => exact q v G' H' eG (back δ' σ' G' H' ok eG F') rv
    | .own a x, q, rv =>
      obtain ⟨e1, h1, h2, h3, h4⟩ := rv
      exact q v G' H' eG (back δ' σ' G' H' ok eG F') ⟨e1, h1, h2, h3, fun z => h4 ((parBack_sub ok).subset z)⟩
    | .deep a x gs, q, rv =>
      obtain ⟨e1, h1, h2, h3, h4⟩ := rv
      exact q v G' H' eG (back δ' σ' G' H' ok eG F') ⟨e1, h1, h2, fun b hb => ⟨(h3 b hb).1, (h3 b hb).2.1, fun z => (h3 b hb).2.2 ((parBack_sub ok).subset z)⟩, h4⟩
    | .bor i a, q, rv =>
      obtain ⟨hi, r', ex, q⟩ := q
      exact q v G' H' eG (back δ' σ' G' H' ok eG F') (outR_rv F' ok hi ex rv.1).1
theorem lift_WsC {Fx : PySem.W.Frag → Cn → Prop} {K : PySem.W.Frag} {cn : Cn} {S : SpD} {t : PySem.W.Frag → Cn → TS} {n m : Nat} {Nm : List Str} {vs : List V} {H : Hp} {Q : VK} {X : XK} (fx : Fx K cn) (hl : ∀ as Φ, S as Φ → as.length = n) (hm : Nm.length = n + m)
    (hb : WsC (Fx := Fx) S t (List.replicate m .no)) (h : lift K S vs H Q X) : t K cn { nx := fun _ H' => Q .non H', rt := Q } (L2.start Nm vs) H := lift_W h fun as Φ hS => by
  have e : Nm.length - as.length = m := by rw [hl as Φ hS, hm]; omega
  rw [e]
  exact hb K cn as Φ fx hS
end DL
namespace DL
open PySem PySem.Spec PyProof.Rows L2
open Evl (Ex)
theorem we_cp {c : Cd} {p : Bool} {δ : List Sl} {a : Addr} {Φ : R → List Sl → Prop} (q : Φ (.d (.ptr a)) δ) : WE c p (tC (.ref a)) δ Φ := fun B G H σ Q F xr k =>
  k _ δ _ G H q (Ex.refl G) F (by show Rep c.K G (.ptr a) (.ref a); unfold Rep; rfl) fun _ => ⟨rfl, Ex.refl H⟩
section
variable {K : PySem.W.Frag} {cn : Cn} {Ψ : Nat → D → List Sl → Prop} {Wx : WX} {δ : List Sl} {N B C : List Sl → Prop} {Rt : R → List Sl → Prop}
theorem w_raiseN {nm : Nat} {f : Str} {ta : TA} (T : ExcAll K (cn.ad nm) (cn.fl nm)) (hf : cn.fl nm = [f]) (h : WA (cX K cn Ψ Wx) false ta δ fun rs δ1 => ∃ x, rs = [.d x] ∧ Ψ nm x δ1) :
    W (cX K cn Ψ Wx) (fun _ σ H => tMkO (cn.ad nm) (spInit K [f]) [] ta σ H fun cls d H' => Wx cls d σ H') δ N Rt B C := by
  have z := ws_raise (E := ⟨N, Rt, B, C⟩) (nm := nm) (ta := ta) (δ := δ) (Ψ := Ψ) (W := Wx) rfl T.oex T.fno (fun B G H σ Q F x k => h B G H σ Q F x fun rs δ' vs G' H' w => by
    obtain ⟨y, e, q⟩ := w
    exact k rs δ' vs G' H' ⟨[y], y, e, by rw [hf]; rfl, by simp, by rw [hf]; rfl, q⟩)
  rw [hf] at z
  exact z
theorem w_raise2 {nm : Nat} {f g : Str} {ta : TA} (T : ExcAll K (cn.ad nm) (cn.fl nm)) (hf : cn.fl nm = [g, f]) (h : WA (cX K cn Ψ Wx) false ta δ fun rs δ1 => ∃ x y, rs = [.d x, .d y] ∧ Ψ nm (.tup [x, y]) δ1) :
    W (cX K cn Ψ Wx) (fun _ σ H => tMkO (cn.ad nm) (spInit K [g, f]) [] ta σ H fun cls d H' => Wx cls d σ H') δ N Rt B C := by
  have z := ws_raise (E := ⟨N, Rt, B, C⟩) (nm := nm) (ta := ta) (δ := δ) (Ψ := Ψ) (W := Wx) rfl T.oex T.fno (fun B G H σ Q F x k => h B G H σ Q F x fun rs δ' vs G' H' w => by
    obtain ⟨y, y2, e, q⟩ := w
    exact k rs δ' vs G' H' ⟨[y, y2], .tup [y, y2], e, by rw [hf]; rfl, by simp, by rw [hf]; rfl, q⟩)
  rw [hf] at z
  exact z
theorem w_try' {i : Nat} {tb : WX → TS} {ts : Addr → Value → Option Addr → TS} {cE : Value} (Ψ : Nat → D → List Sl → Prop) (hb : ∀ Wx : WX, W (cX K cn Ψ Wx) (tb Wx) δ N Rt B C)
    (hs : ∀ nm x δ', Ψ nm x δ' → PySem.W.exmOne K (.ref (cn.ad nm)) cE = some true ∧ ∀ (a d : Addr), W (cS K d (xfs (cn.fl nm) x)) (ts a (.ref (cn.ad nm)) (some d)) (δ'.set i (.d (.ptr a))) (fun δ3 => N (δ3.set i .no)) Rt (fun δ3 => B (δ3.set i .no)) (fun δ3 => C (δ3.set i .no))) :
    W (c0 K) (fun D σ H => tb (wAs K cE i ts (fun _ _ _ _ => False) D) D σ H) δ N Rt B C := ws_try (Ψ := Ψ) hb hs
end
end DL
namespace DL
open PySem PySem.Spec PyProof.Rows L2
/-- try: .. except (the class cE) as the i-th name: .. -/
def tTry (K : PySem.W.Frag) (cE : Value) (i : Nat) (tb : WX → TS) (ts : Addr → Value → Option Addr → TS) : TS := fun D σ H => tb (wAs K cE i ts (fun _ _ _ _ => False) D) D σ H
theorem w_try {K : PySem.W.Frag} {cn : Cn} {δ : List Sl} {N B C : List Sl → Prop} {Rt : R → List Sl → Prop} {i : Nat} {tb : WX → TS} {ts : Addr → Value → Option Addr → TS} {cE : Value} (Ψ : Nat → D → List Sl → Prop) (hb : ∀ Wx : WX, W (cX K cn Ψ Wx) (tb Wx) δ N Rt B C)
    (hs : ∀ nm x δ', Ψ nm x δ' → PySem.W.exmOne K (.ref (cn.ad nm)) cE = some true ∧ ∀ (a d : Addr), W (cS K d (xfs (cn.fl nm) x)) (ts a (.ref (cn.ad nm)) (some d)) (δ'.set i (.d (.ptr a))) (fun δ3 => N (δ3.set i .no)) Rt (fun δ3 => B (δ3.set i .no)) (fun δ3 => C (δ3.set i .no))) :
    W (c0 K) (tTry K cE i tb ts) δ N Rt B C := w_try' Ψ hb hs
end DL

/-! DL16: try with several clauses, each with or without a name. -/
namespace DL
open PySem PySem.Spec PyProof.Rows L2
/-- one clause: its class, its name's slot, its suite -/
abbrev Cl := Value × Option Nat × (Addr → Value → Option Addr → TS)
def goneE (i : Nat) (D : Ends) : Ends := { nx := fun σ' H' => D.nx (σ'.set i none) H', rt := D.rt, bk := fun σ' H' => D.bk (σ'.set i none) H', ct := fun σ' H' => D.ct (σ'.set i none) H' }
def suW (o : Option Nat) (ts : Addr → Value → Option Addr → TS) (a : Addr) (cls : Value) (d : Option Addr) (D : Ends) (σ : L2.St) (H : Hp) : Prop := match o with
  | none => ts a cls d D σ H
  | some i => ts a cls d (goneE i D) (σ.set i (some (.ref a))) H
def wMix (K : PySem.W.Frag) (Wo : WX) (D : Ends) : List Cl → WX
  | [] => Wo
  | (c, o, ts) :: r => fun cls d σ H => ∃ b, PySem.W.exmOne K cls c = some b ∧ (b = true → ∀ a, H a = none → suW o ts a cls d D σ H) ∧ (b = false → wMix K Wo D r cls d σ H)
inductive ClsOk (X : Cx) : List ExceptHandler → List Cl → Prop
  | nil : ClsOk X [] []
  | bare {x : Str} {c : Value} {ts : Addr → Value → Option Addr → TS} {b0 : Stmt} {su : List Stmt} {p1 p2 : Pos} {hs : List ExceptHandler} {l : List Cl} (hc : Names X x c)
      (hsu : ∀ (a : Addr) (oe : Obj) (cls : Value) (d : Option Addr) (pn : List (Addr × Obj)), Zc cls d oe → (∃ vs, oe.data = .fields vs) → PSs (X.suite a ((a, oe) :: pn)) (b0 :: su) (ts a cls d)) (r : ClsOk X hs l) :
      ClsOk X (.ExceptHandler (some (.Name x p1)) none (b0 :: su) p2 :: hs) ((c, none, ts) :: l)
  | named {x n : Str} {c : Value} {i : Nat} {ts : Addr → Value → Option Addr → TS} {b0 : Stmt} {su : List Stmt} {p1 p2 : Pos} {hs : List ExceptHandler} {l : List Cl} (hc : Names X x c) (hN : X.N.Nodup) (hi : X.N[i]? = some n) (hln : X.env.kindOf n = some .local)
      (hsu : ∀ (a : Addr) (oe : Obj) (cls : Value) (d : Option Addr) (pn : List (Addr × Obj)), Zc cls d oe → (∃ vs, oe.data = .fields vs) → PSs (X.suite a ((a, oe) :: pn)) (b0 :: su) (ts a cls d)) (r : ClsOk X hs l) :
      ClsOk X (.ExceptHandler (some (.Name x p1)) (some n) (b0 :: su) p2 :: hs) ((c, some i, ts) :: l)
/-- try: .. except: .. except: .. -/
def tTryM (K : PySem.W.Frag) (l : List Cl) (tb : WX → TS) : TS := fun D σ H => tb (wMix K (fun _ _ _ _ => False) D l) D σ H
section
variable {K : PySem.W.Frag} {cn : Cn}
/-- the clauses, one after the other, at an exception of the class nm with the found data x -/
def Caught (K : PySem.W.Frag) (cn : Cn) (nm : Nat) (x : D) (δ : List Sl) (E : En) : List Cl → Prop
  | [] => False
  | (c, o, ts) :: r => ∃ b, PySem.W.exmOne K (.ref (cn.ad nm)) c = some b ∧
      (b = true → ∀ (a d : Addr), match o with
        | none => WS (cS K d (xfs (cn.fl nm) x)) (ts a (.ref (cn.ad nm)) (some d)) δ E
        | some i => WS (cS K d (xfs (cn.fl nm) x)) (ts a (.ref (cn.ad nm)) (some d)) (δ.set i (.d (.ptr a))) ⟨fun δ3 => E.nx (δ3.set i .no), E.rt, fun δ3 => E.bk (δ3.set i .no), fun δ3 => E.ct (δ3.set i .no)⟩) ∧
      (b = false → Caught K cn nm x δ E r)
end
end DL
namespace DL
open PySem PySem.Spec PyProof.Rows L2
open Evl (Ex)
/-- a class as a value: one of the text's, or a built-in one -/
inductive ClsV : V → Value → Prop
  | ref (C : Addr) : ClsV (.ref C) (.ref C)
  | ty (n : String) : ClsV (.ty n) (.type n)
theorem ClsV.rel {v : V} {u u' : Value} (h : ClsV v u) (r : RelV v u') : u' = u := by
  cases h with
  | ref C => exact r
  | ty n => exact r
/-- isinstance(e, C), e what the suite holds -/
def rIsG (K : PySem.W.Frag) (a : Addr) (cls : Value) (d : Option Addr) : List V → Hp → VK → Prop := fun xs H Q => ∃ f C dd v2 u2 b fs, cls = .ref C ∧ d = some dd ∧ ExcAll K C f ∧ xs = [.ref a, v2] ∧ ClsV v2 u2 ∧ H dd = some (.xd fs) ∧ PySem.W.kitOne K (.ref C) u2 = some b ∧ Q (.bl b) H
theorem call_isG {X : Cx} {a : Addr} {cls : Value} {d : Option Addr} {oe : Obj} {pn : List (Addr × Obj)} (hz : Zc cls d oe) (hf : ∃ vs, oe.data = .fields vs) : CallR (X.suite a ((a, oe) :: pn)) (.builtin "isinstance") (rIsG X.K a cls d) := by
  intro pins s σ H xs us Q I r h
  obtain ⟨f, C, dd, v2, w2, b, fs, ec, ed, T, e, hv, hd, hk, q⟩ := h
  subst ec ed e
  obtain ⟨u1, u2, eu, r1, r2⟩ := vals2 r
  subst eu
  have e1 : u1 = .ref a := r1
  have e2 := hv.rel r2
  subst e1 e2
  obtain ⟨hget, _⟩ := I.pin (a, oe) (List.mem_append_left _ List.mem_cons_self)
  obtain ⟨vs, hv'⟩ := hf
  obtain ⟨mA, hns, _⟩ := (show ObjOk X.prog X.w H s.heap dd (.xd fs) from I.hok dd _ hd)
  obtain ⟨od, ho, _⟩ := lookIn_ns hns
  have J : PySem.W.InstAt s.heap a oe C (some od) := ⟨hget, hz.1, by unfold PySem.W.notCls; rw [hv'] <;> rfl, by rw [hz.2]; exact ho⟩
  exact PySem.W.kia_one (PySem.W.kitx_exc T.hcl T.xf.ga T.xf.gg T.xf.exC T.hat T.hn T.htk T.hm) I.kIn J hk (fun z => nomatch z) fun tk => ⟨.bl b, H, I.kept (t' := tk) fun _ _ z => z, rfl, q⟩
section
variable {K : PySem.W.Frag} {p : Bool} {δ : List Sl} {a d C : Addr} {f : List Str} {fs : List (Str × D)} {x : D} {tr : TA} {Φ : R → List Sl → Prop}
theorem we_isG (T : ExcAll K C f) (h : WA (cS K d fs) p tr δ fun rs δ1 => ∃ (y : D) (b : Bool), rs = [.d (.ptr a), .d y] ∧ ((∃ C', y = .ptr C' ∧ PySem.W.kitOne K (.ref C) (.ref C') = some b) ∨ (∃ n, y = .ty n ∧ PySem.W.kitOne K (.ref C) (.type n) = some b)) ∧ Φ (.d (.bl b)) δ1) :
    WE (cS K d fs) p (tCB (rIsG K a (.ref C) (some d)) tr) δ Φ := by
  intro B G H σ Q F xr k
  refine h B G H σ _ F xr fun rs δ1 vs G1 H1 w e1 F1 rv p1 => ?_
  obtain ⟨y, b, er, hk, w⟩ := w
  subst er
  obtain ⟨u, ur, eu, h1, u2, ur2, eu2, h2, h3⟩ := rv
  have e3 : ur2 = [] := h3
  subst e3 eu2 eu
  have q1 : u = .ref a := by
    have z : Rep K G1 (.ptr a) u := h1
    unfold Rep at z
    exact z
  subst q1
  have fin := k _ δ1 _ G1 H1 w e1 F1 (rep_bl (K := K) (G := G1)) p1
  obtain ⟨fvs, x1, _⟩ := xr
  rcases hk with ⟨C', e, hk⟩ | ⟨n, e, hk⟩
  · subst e
    have q2 : u2 = .ref C' := by
      have z : Rep K G1 (.ptr C') u2 := h2
      unfold Rep at z
      exact z
    subst q2
    exact ⟨f, C, d, _, _, b, _, rfl, rfl, T, rfl, .ref C', F1.exG d _ (e1 d _ x1), hk, fin⟩
  · subst e
    have q2 : u2 = .ty n := by
      have z : Rep K G1 (.ty n) u2 := h2
      unfold Rep at z
      exact z
    subst q2
    exact ⟨f, C, d, _, _, b, _, rfl, rfl, T, rfl, .ty n, F1.exG d _ (e1 d _ x1), hk, fin⟩
theorem we_isGp {C' : Addr} {b : Bool} (T : ExcAll K C f) (hk : PySem.W.kitOne K (.ref C) (.ref C') = some b) (h : WA (cS K d fs) p tr δ fun rs δ1 => rs = [.d (.ptr a), .d (.ptr C')] ∧ Φ (.d (.bl b)) δ1) : WE (cS K d fs) p (tCB (rIsG K a (.ref C) (some d)) tr) δ Φ :=
  we_isG T fun B G H σ Q F xr k => h B G H σ Q F xr fun rs δ1 vs G1 H1 w e1 F1 rv p1 => k rs δ1 vs G1 H1 ⟨_, b, w.1, .inl ⟨C', rfl, hk⟩, w.2⟩ e1 F1 rv p1
end
end DL
namespace DL
open PySem PySem.Spec PyProof.Rows L2
section
variable {c : Cd} {δ : List Sl} {N B C : List Sl → Prop} {Rt : R → List Sl → Prop} {tt : TT} {t : TS}
/-- what stands behind t is shown once -/
theorem w_join (P : List Sl → Prop) (h : W c t δ P Rt B C) (hN : ∀ δ2, P δ2 → N δ2) : W c t δ N Rt B C := w_mono h hN (fun _ _ x => x) (fun _ x => x) (fun _ x => x)
end
end DL
namespace DL
open PySem PySem.Spec PyProof.Rows L2
/-- a, b, .. = a tuple or a list of that length -/
def gSeq (K : PySem.W.Frag) (n : Nat) (t : TGs) : TG := fun v σ H Q => gTup K n t v σ H Q ∨ L2.gLst K n t v σ H Q
theorem pg_seq {X : Cx} {pos : Pos} {es : List Expr} {k : Nat} {t : TGs} {n : Nat} (hc : X.calm = true) (h : PGs X es t)
    (hn : (assignEach es X.env).length = n := by rfl) (hst : (assignEach es X.env).findIdx? (·.1) = none := by rfl) : PG X (.Tuple es k pos) (gSeq X.K n t) :=
  ⟨fun pins s σ H v u Q I r hw => hw.elim ((pg_tup hc h hn hst).run pins s σ H v u Q I r) ((L2.pg_lst hc h hn hst).run pins s σ H v u Q I r)⟩
section
variable {c : Cd} {δ : List Sl} {Φ : List Sl → Prop} {x y z : D} {a : Addr} {g1 g2 g3 : TG}
theorem wg_seqT {gs : TGs} {n : Nat} {xs : List D} (hn : xs.length = n) (h : WGs c gs xs δ Φ) : WG c (gSeq c.K n gs) (.d (.tup xs)) δ Φ := fun B G H σ v Q F z rv k => .inl (wg_tup hn h B G H σ v Q F z rv k)
theorem wgs2 (h : WG c g1 (.d x) δ fun δ1 => WG c g2 (.d y) δ1 Φ) : WGs c (gCons g1 (gCons g2 gNil)) [x, y] δ Φ := wgs_cons (wg_mono h fun δ1 q => wgs_cons (wg_mono q fun δ2 q2 => wgs_nil q2))
theorem wgs3 (h : WG c g1 (.d x) δ fun δ1 => WG c g2 (.d y) δ1 fun δ2 => WG c g3 (.d z) δ2 Φ) : WGs c (gCons g1 (gCons g2 (gCons g3 gNil))) [x, y, z] δ Φ := wgs_cons (wg_mono h fun δ1 q => wgs_cons (wg_mono q fun δ2 q2 => wgs_cons (wg_mono q2 fun δ3 q3 => wgs_nil q3)))
theorem wg_s2t (h : WG c g1 (.d x) δ fun δ1 => WG c g2 (.d y) δ1 Φ) : WG c (gSeq c.K 2 (gCons g1 (gCons g2 gNil))) (.d (.tup [x, y])) δ Φ := wg_seqT rfl (wgs2 h)
theorem wg_s3t (h : WG c g1 (.d x) δ fun δ1 => WG c g2 (.d y) δ1 fun δ2 => WG c g3 (.d z) δ2 Φ) : WG c (gSeq c.K 3 (gCons g1 (gCons g2 (gCons g3 gNil)))) (.d (.tup [x, y, z])) δ Φ := wg_seqT rfl (wgs3 h)
end
end DL

/-! DL17: equal data are equal, empty dicts among them. -/
namespace PySem
open Builtin
section
variable {A : Around} {s : Shared}
theorem dict_eq0 (a b : Addr) (ha : (a == sysModules) = false) (hb : (b == sysModules) = false) : Meets (Builtin.«dict.__eq__» ⟨[.ref a, .ref b], []⟩) (fun _ R s => (∃ o ep, s.heap.get? a = some o ∧ o.cls = .type "dict" ∧ o.data = .dict #[] ep) ∧ (∃ o ep, s.heap.get? b = some o ∧ o.cls = .type "dict" ∧ o.data = .dict #[] ep) ∧ R (.ok (.ret (.bool true))) s) :=
  .of_wp fun prog w A R s ⟨⟨o, ep, ho, hc, hd⟩, ⟨o2, ep2, ho2, hc2, hd2⟩, h⟩ => by
    show wpAny _ _ (Builtin.Dict.dictSlotArgs "__eq__" ⟨[.ref a, .ref b], []⟩ >>= _) _ _ s
    refine wpAny_bind ?_
    unfold Builtin.Dict.dictSlotArgs Builtin.Dict.notOrdered
    show wpAny _ _ (pure ((Value.ref a, Value.ref b) : Value × Value)) _ _ s
    refine wpAny_pure ?_
    show wpAny _ _ (isInstance (.ref b) (.type "dict") >>= _) _ _ s
    refine wpAny_bind (wpAny_isInstance (T := "dict") ⟨o2, ho2, hc2⟩ F.sub_dict_dict ?_)
    show wpAny _ _ (Builtin.Dict.addrOf (.ref a) >>= _) _ _ s
    refine wpAny_bind (wpAny_pure ?_)
    show wpAny _ _ (Builtin.Dict.addrOf (.ref b) >>= _) _ _ s
    refine wpAny_bind (wpAny_pure ?_)
    refine wpAny_bind ?_
    unfold Builtin.Dict.samePairs Builtin.Dict.showsAll
    rw [if_neg (by rw [ha]; exact Bool.false_ne_true), if_neg (by rw [hb]; exact Bool.false_ne_true)]
    refine wpAny_bind (wpAny_pure ?_)
    refine wpAny_bind (wpAny_pure ?_)
    refine wpAny_bind (wpAny_dictEntries ho hd ?_)
    refine wpAny_bind (wpAny_dictEntries ho2 hd2 ?_)
    rw [if_neg (by decide)]
    refine wpAny_bind (wpAny_dictEpoch ho hd ?_)
    refine wpAny_bind ?_
    rw [Std.Legacy.Range.forIn_eq_forIn_range']
    show wpAny _ _ (pure (none, ())) _ _ s
    refine wpAny_pure ?_
    show wpAny _ _ (pure true) _ _ s
    exact wpAny_pure (wpAny_pure ⟨_, rfl, h⟩)
theorem RcAt.dicts0 {a b : Addr} (ha : (a == sysModules) = false) (hb : (b == sysModules) = false) (hu : A.units < cLine) (h1 : ∃ o ep, s.heap.get? a = some o ∧ o.cls = .type "dict" ∧ o.data = .dict #[] ep) (h2 : ∃ o ep, s.heap.get? b = some o ∧ o.cls = .type "dict" ∧ o.data = .dict #[] ep) : SeqAt.RcAt A s (.ref a) (.ref b) true := fun prog w E Q h => by
  obtain ⟨o, ep, ho, hc, hd⟩ := id h1
  obtain ⟨o2, ep2, ho2, hc2, hd2⟩ := id h2
  exact richCompare_meets_room (op := .Eq) ⟨_, ho, hc⟩ ⟨_, ho2, hc2⟩ F.slot_dict_eq F.entry_dict_eq (F.args_dict_eq_2 _ _) (dict_eq0 a b ha hb) ⟨h1, h2, show Value.bool true ≠ Value.notImplemented ∧ Q (.bool true) s from ⟨(fun x => nomatch x), h⟩⟩ hu
open PySem.SeqAt in
mutual
/-- data with no dict but the empty one -/
def d0 : PyData → Bool
  | .none => true
  | .bool _ => true
  | .int _ => true
  | .str _ => true
  | .list xs => d0s xs
  | .tuple xs => d0s xs
  | .dict kvs => kvs.isEmpty
def d0s : List PyData → Bool
  | [] => true
  | x :: xs => d0 x && d0s xs
end
section
open SeqAt
theorem all_true (n : Nat) : (List.range n).all (fun _ => true) = true := by simp
mutual
theorem eq_same : ∀ (d : PyData) (A : Around) (s : Shared) (u v : Value) (as bs : List Addr), d0 d = true → Reads s.heap u d as → Reads s.heap v d bs → sysModules ∉ as → sysModules ∉ bs → A.units + d.depth < cLine → EqAt A s u v true
  | .none, A, s, u, v, as, bs, h0, r1, r2, n1, n2, hu => by cases r1; cases r2; exact EqAt.same _
  | .bool b, A, s, u, v, as, bs, h0, r1, r2, n1, n2, hu => by cases r1; cases r2; exact EqAt.same _
  | .int i, A, s, u, v, as, bs, h0, r1, r2, n1, n2, hu => by
    cases r1 with
    | int i t => cases r2 with
      | int _ t2 =>
        have := EqAt.int_int (A := A) (s := s) i t i t2
        rw [beq_self_eq_true] at this
        exact this
  | .str z, A, s, u, v, as, bs, h0, r1, r2, n1, n2, hu => by
    cases r1 with
    | str z t => cases r2 with
      | str _ t2 =>
        have := EqAt.str_str (A := A) (s := s) z t z t2
        rw [beq_self_eq_true] at this
        exact this
  | .list xs, A, s, u, v, as, bs, h0, r1, r2, n1, n2, hu => by
    cases r1 with
    | @list l o vs n _ as1 k1 k2 k3 k4 => cases r2 with
      | @list l' o' vs' n' _ as2 j1 j2 j3 j4 =>
        by_cases e : l = l'
        · subst e; exact EqAt.same _
        · simp only [PyData.depth] at hu
          have he := eqs_same xs A.in1 s vs.toList vs'.toList as1 as2 (by simpa only [d0] using h0) k4 j4 (fun m => n1 (List.mem_cons_of_mem _ m)) (fun m => n2 (List.mem_cons_of_mem _ m)) (by show A.units + 1 + _ < _; omega)
          have m1 : vs.size = xs.length := by simpa using ReadsAll.length _ _ _ k4
          have m2 : vs'.size = xs.length := by simpa using ReadsAll.length _ _ _ j4
          have z := RcAt.lists (A := A) (s := s) (e := fun _ => true) ⟨_, k1, k2, _, k3⟩ ⟨_, j1, j2, _, j3⟩ (m1.trans m2.symm) (by omega) (fun j h1 h2 => he j h1 h2)
          rw [all_true] at z
          exact EqAt.of_refs e z
  | .tuple xs, A, s, u, v, as, bs, h0, r1, r2, n1, n2, hu => by
    cases r1 with
    | @tuple l o vs n _ as1 k1 k2 k3 k4 => cases r2 with
      | @tuple l' o' vs' n' _ as2 j1 j2 j3 j4 =>
        by_cases e : l = l'
        · subst e; exact EqAt.same _
        · simp only [PyData.depth] at hu
          have he := eqs_same xs A.in1 s vs.toList vs'.toList _ _ (by simpa only [d0] using h0) k4 j4 n1 n2 (by show A.units + 1 + _ < _; omega)
          have m1 : vs.size = xs.length := by simpa using ReadsAll.length _ _ _ k4
          have m2 : vs'.size = xs.length := by simpa using ReadsAll.length _ _ _ j4
          have z := RcAt.tuples (A := A) (s := s) (e := fun _ => true) ⟨_, k1, k2, _, k3⟩ ⟨_, j1, j2, _, j3⟩ (by omega) (fun j h1 h2 => he j h1 h2)
          rw [all_true, m1, m2, beq_self_eq_true] at z
          exact EqAt.of_refs e z
  | .dict kvs, A, s, u, v, as, bs, h0, r1, r2, n1, n2, hu => by
    cases r1 with
    | @dict l o es n _ as1 as2 k1 k2 k3 k4 k5 => cases r2 with
      | @dict l' o' es' n' _ as3 as4 j1 j2 j3 j4 j5 =>
        by_cases e : l = l'
        · subst e; exact EqAt.same _
        · have q : kvs = [] := by simpa [d0] using h0
          subst q
          have e1 : es = #[] := by
            have := ReadsAll.length _ _ _ k4
            simpa using this
          have e2 : es' = #[] := by
            have := ReadsAll.length _ _ _ j4
            simpa using this
          subst e1 e2
          refine EqAt.of_refs e (RcAt.dicts0 ?_ ?_ (by omega) ⟨_, _, k1, k2, k3⟩ ⟨_, _, j1, j2, j3⟩)
          · simp only [beq_eq_false_iff_ne]
            intro z
            exact n1 (by rw [← z]; simp)
          · simp only [beq_eq_false_iff_ne]
            intro z
            exact n2 (by rw [← z]; simp)
theorem eqs_same : ∀ (xs : List PyData) (A : Around) (s : Shared) (us vs : List Value) (as bs : List Addr), d0s xs = true → ReadsAll s.heap us xs as → ReadsAll s.heap vs xs bs → sysModules ∉ as → sysModules ∉ bs → A.units + PyData.depthAll xs < cLine → ∀ j (h1 : j < us.length) (h2 : j < vs.length), EqAt A s us[j] vs[j] true
  | [], A, s, us, vs, as, bs, h0, r1, r2, n1, n2, hu => by cases r1; cases r2; intro j h1; exact absurd h1 (by simp)
  | x :: xs, A, s, us, vs, as, bs, h0, r1, r2, n1, n2, hu => by
    cases r1 with
    | @cons u us _ _ as1 bs1 k1 k2 => cases r2 with
      | @cons v vs _ _ as2 bs2 j1 j2 =>
        have h0' : d0 x = true ∧ d0s xs = true := by simpa [d0s] using h0
        simp only [PyData.depthAll] at hu
        intro j h1 h2
        cases j with
        | zero => exact eq_same x A s u v as1 as2 h0'.1 k1 j1 (fun m => n1 (List.mem_append_left _ m)) (fun m => n2 (List.mem_append_left _ m)) (by omega)
        | succ j => simpa using eqs_same xs A s us vs bs1 bs2 h0'.2 k2 j2 (fun m => n1 (List.mem_append_right _ m)) (fun m => n2 (List.mem_append_right _ m)) (by omega) j (by simpa using h1) (by simpa using h2)
end
end
end
end PySem
namespace DL
open PySem PySem.Spec PyProof.Rows L2
open Evl (Ex)
/-- lists of the same data -/
def rSame (r : Bool) (K : PySem.W.Frag) : R2 := fun x y H Q => ∃ xs d, Rep K H (.lst xs) x ∧ Rep K H (.lst xs) y ∧ pyA (.lst xs) = some d ∧ d0 d = true ∧ d.depth ≤ 50 ∧ Q (.bl r) H
def rEqB (K : PySem.W.Frag) : R2 := fun x y H Q => rEqA K x y H Q ∨ rSame true K x y H Q
def rNeB (K : PySem.W.Frag) : R2 := fun x y H Q => rNeA K x y H Q ∨ rSame false K x y H Q
/-- the same data, no dict in it but empty ones -/
def sameD (x y : D) : Prop := ∃ xs d, x = .lst xs ∧ y = .lst xs ∧ pyA (.lst xs) = some d ∧ d0 d = true ∧ d.depth ≤ 50
def dEqB (f : Bool → Bool) : Dop := fun x y k => dEqF f x y k ∨ (sameD x y ∧ k (.d (.bl (f true))))
section
variable {c : Cd}
end
end DL

/-! DL18: dicts looked up, asked, stored to, made of pairs; lists: pop, insert, index; texts split. -/
namespace DL
open PySem PySem.Spec PyProof.Rows L2
open Evl (Ex)
/-! ### k in d -/
def rInK : R2 := fun y x H Q => ∃ a o, x = .ref a ∧ DGet H a y o ∧ Q (.bl o.isSome) H
def rNotInK : R2 := fun y x H Q => ∃ a o, x = .ref a ∧ DGet H a y o ∧ Q (.bl (!o.isSome)) H
def rInB (K : PySem.W.Frag) : R2 := fun x y H Q => rInA K x y H Q ∨ rInK x y H Q
def rNotInB (K : PySem.W.Frag) : R2 := fun x y H Q => rNotInA K x y H Q ∨ rNotInK x y H Q
theorem op_inK {X : Cx} (hu : X.A.units + 64 < cLine) : OpR X (compareOp .In) rInK := by
  intro pins s σ H y x u v Q I ry rx h
  obtain ⟨a, o, e, g, q⟩ := h
  subst e
  obtain rfl : v = Value.ref a := rx
  exact d_in (by omega) I g ry fun s3 I3 => ⟨.bl o.isSome, H, I3, rfl, q⟩
theorem op_notInK {X : Cx} (hu : X.A.units + 64 < cLine) : OpR X (compareOp .NotIn) rNotInK := by
  intro pins s σ H y x u v Q I ry rx h
  obtain ⟨a, o, e, g, q⟩ := h
  subst e
  obtain rfl : v = Value.ref a := rx
  exact d_notIn (by omega) I g ry fun s3 I3 => ⟨.bl (!o.isSome), H, I3, rfl, q⟩
theorem op_inB {X : Cx} (hu : X.A.units + 64 < cLine) : OpR X (compareOp .In) (rInB X.K) := op_inA.or (op_inK hu)
theorem op_notInB {X : Cx} (hu : X.A.units + 64 < cLine) : OpR X (compareOp .NotIn) (rNotInB X.K) := op_notInA.or (op_notInK hu)
section
variable {c : Cd}
theorem view_get {B G H : Hp} {σ : St} {δ : List Sl} {r1 r2 : R} {v1 v2 : V} {x : D} {kds : List (Key × D)} {key : Key} (F : Frame c.K B G H σ δ) (h1 : RW c.K G r1 v1) (h2 : RW c.K G r2 v2) (e1 : view δ r1 = some x) (e2 : view δ r2 = some (.dct kds)) (hk : dKey x = some key) :
    ∃ a, v2 = .ref a ∧ ((getD kds key = none ∧ DGet H a v1 none) ∨ ∃ y v, getD kds key = some y ∧ DGet H a v1 (some v) ∧ Rep c.K G y v) := by
  obtain ⟨a, vs, e, ha, hr⟩ := view_dct F h2 e2
  have ek := dKey_rep hk (view_repH F h1 e1)
  refine ⟨a, e, ?_⟩
  rcases repK_val (k := key) hr with ⟨q1, q2⟩ | ⟨y, v, q1, q2, q3⟩
  · exact .inl ⟨q1, .inl ⟨vs, key, ha, ek, q2.symm⟩⟩
  · exact .inr ⟨y, v, q1, .inl ⟨vs, key, ha, ek, q2.symm⟩, q3⟩
def dInK (f : Bool → Bool) : Dop := fun x y k => ∃ key kds, dKey x = some key ∧ y = .dct kds ∧ k (.d (.bl (f (getD kds key).isSome)))
def dInB (f : Bool → Bool) : Dop := fun x y k => dIn f x y k ∨ dInK f x y k
theorem opd_inK : OpD c rInK (dInK id) := by
  intro B G H σ δ r1 r2 v1 v2 x y Ψ Q F h1 h2 e1 e2 hf k
  obtain ⟨key, kds, hk, ey, q⟩ := hf
  subst ey
  obtain ⟨a, e, g⟩ := view_get F h1 h2 e1 e2 hk
  rcases g with ⟨g1, g2⟩ | ⟨z, v, g1, g2, _⟩
  · rw [g1] at q
    exact ⟨a, none, e, g2, k _ _ G H q (Ex.refl G) (Ex.refl H) F (rep_bl (K := c.K) (G := G))⟩
  · rw [g1] at q
    exact ⟨a, some v, e, g2, k _ _ G H q (Ex.refl G) (Ex.refl H) F (rep_bl (K := c.K) (G := G))⟩
theorem opd_notInK : OpD c rNotInK (dInK not) := by
  intro B G H σ δ r1 r2 v1 v2 x y Ψ Q F h1 h2 e1 e2 hf k
  obtain ⟨key, kds, hk, ey, q⟩ := hf
  subst ey
  obtain ⟨a, e, g⟩ := view_get F h1 h2 e1 e2 hk
  rcases g with ⟨g1, g2⟩ | ⟨z, v, g1, g2, _⟩
  · rw [g1] at q
    exact ⟨a, none, e, g2, k _ _ G H q (Ex.refl G) (Ex.refl H) F (rep_bl (K := c.K) (G := G))⟩
  · rw [g1] at q
    exact ⟨a, some v, e, g2, k _ _ G H q (Ex.refl G) (Ex.refl H) F (rep_bl (K := c.K) (G := G))⟩
theorem opd_inBI : OpD c (rInB c.K) (dInB id) := fun B G H σ δ r1 r2 v1 v2 x y Ψ Q F h1 h2 e1 e2 hf k => hf.elim
  (fun hf => .inl (opd_inI B G H σ δ r1 r2 v1 v2 x y Ψ Q F h1 h2 e1 e2 hf k)) (fun hf => .inr (opd_inK B G H σ δ r1 r2 v1 v2 x y Ψ Q F h1 h2 e1 e2 hf k))
theorem opd_inBN : OpD c (rNotInB c.K) (dInB not) := fun B G H σ δ r1 r2 v1 v2 x y Ψ Q F h1 h2 e1 e2 hf k => hf.elim
  (fun hf => .inl (opd_inN B G H σ δ r1 r2 v1 v2 x y Ψ Q F h1 h2 e1 e2 hf k)) (fun hf => .inr (opd_notInK B G H σ δ r1 r2 v1 v2 x y Ψ Q F h1 h2 e1 e2 hf k))
end
section
variable {x y : D} {k : R → Prop} {kds : List (Key × D)} {key : Key}
theorem dInB_kI (hk : dKey x = some key) (h : k (.d (.bl (getD kds key).isSome))) : dInB id x (.dct kds) k := .inr ⟨key, kds, hk, rfl, h⟩
theorem dInB_kN (hk : dKey x = some key) (h : k (.d (.bl (!(getD kds key).isSome)))) : dInB not x (.dct kds) k := .inr ⟨key, kds, hk, rfl, h⟩
theorem dInB_sI {ch : Nat} {z : Str} (h : k (.d (.bl (decide (ch ∈ z.cps.toList))))) : dInB id (.str ⟨#[ch]⟩) (.str z) k := .inl (dIn_sI h)
theorem dInB_sN {ch : Nat} {z : Str} (h : k (.d (.bl (!decide (ch ∈ z.cps.toList))))) : dInB not (.str ⟨#[ch]⟩) (.str z) k := .inl (dIn_sN h)
end
/-! ### d[k] -/
def rIxK : R2 := fun x y H Q => ∃ a v, x = .ref a ∧ DGet H a y (some v) ∧ Q v H
def rIxB (K : PySem.W.Frag) : R2 := fun x y H Q => rIx K x y H Q ∨ rIxK x y H Q
theorem ix_dct {X : Cx} (hu : X.A.units + 64 < cLine) : IxR X rIxK := by
  intro value slice pins s σ H x y o i Q I rx ry h hs
  obtain ⟨a, v, e, g, q⟩ := h
  subst e
  obtain rfl : o = Value.ref a := rx
  have hT := dict_typeIs I g
  have h2 : wpAny (model X.prog X.w) X.A (getItem (.ref a) i) (EP X pins σ Q) X.xe s := d_getItem (by omega) I g ry fun w' s3 I3 rw' => ⟨v, H, I3, rw', q⟩
  unfold subscriptTail
  refine wpAny_bind ?_
  rw [getitemInPython_of_ne hT.not_modules]
  refine wpAny_bind (wpAny_specialOf hT PySem.F.slot_dict_getitem.lookup ?_)
  have fin : wpAny (model X.prog X.w) X.A (subscripted slice false (.ref a) i) (fun r z3 => wpAny (model X.prog X.w) X.A (letTemporaryGo value (.ref a) r >>= fun _ => pure r) (EP X pins σ Q) X.xe z3) X.xe s := by
    rw [hs]
    exact wpAny_operating (wpAny_mono h2 (fun r z3 h3 => wpAny_bind (wpAny_letTemporaryGo (wpAny_pure h3))) fun _ _ x => x)
  first
    | exact wpAny_pure (wpAny_bind fin)
    | exact wpAny_bind (wpAny_pure (wpAny_bind fin))
    | exact wpAny_bind fin
theorem ix_any {X : Cx} (hu : X.A.units + 64 < cLine) : IxR X (rIxB X.K) := ix_seq.or (ix_dct hu)
def dIxB : Dop := fun x y k => dIx x y k ∨ ∃ key kds z, dKey y = some key ∧ x = .dct kds ∧ getD kds key = some z ∧ k (.d z)
section
variable {c : Cd}
theorem opd_ixB : OpD c (rIxB c.K) dIxB := by
  intro B G H σ δ r1 r2 v1 v2 x y Ψ Q F h1 h2 e1 e2 hf k
  rcases hf with hf | ⟨key, kds, z, hk, ex, hz, q⟩
  · exact .inl (opd_ix B G H σ δ r1 r2 v1 v2 x y Ψ Q F h1 h2 e1 e2 hf k)
  · subst ex
    obtain ⟨a, e, g⟩ := view_get F h2 h1 e2 e1 hk
    rcases g with ⟨g1, _⟩ | ⟨w, v, g1, g2, g3⟩
    · rw [g1] at hz; cases hz
    · rw [g1] at hz
      cases hz
      exact .inr ⟨a, v, e, g2, k _ _ G H q (Ex.refl G) (Ex.refl H) F g3⟩
end
section
variable {x y z : D} {k : R → Prop} {kds : List (Key × D)} {key : Key} {xs : List D} {i : Int} {t : Str}
theorem dIxB_l (h1 : atI xs i = some x) (h : k (.d x)) : dIxB (.lst xs) (.int i) k := .inl (dIx_l h1 h)
theorem dIxB_r (h1 : atI xs i = some x) (h : k (.d x)) : dIxB (.ro xs) (.int i) k := .inl (dIx_r h1 h)
theorem dIxB_t (h1 : atI xs i = some x) (h : k (.d x)) : dIxB (.tup xs) (.int i) k := .inl (dIx_t h1 h)
theorem dIxB_s {ch : Nat} (h0 : t.length ≤ 16000000) (h1 : atI t.cps.toList i = some ch) (h : k (.d (.str ⟨#[ch]⟩))) : dIxB (.str t) (.int i) k := .inl (dIx_s h0 h1 h)
theorem dIxB_k (hk : dKey y = some key) (h1 : getD kds key = some z) (h : k (.d z)) : dIxB (.dct kds) y k := .inr ⟨key, kds, z, hk, rfl, h1, h⟩
end
/-! ### d[k] = v -/
def rSetB : TSet := fun o i v H Q => rSetL o i v H Q ∨ rSetD o i v H Q
theorem set_any {X : Cx} (hu : X.A.units + 64 < cLine) : PSet X rSetB := fun pins s σ H o i v ov iv u Q I ro ri rv h => h.elim (set_list pins s σ H o i v ov iv u Q I ro ri rv) (L2.set_dict (by omega) pins s σ H o i v ov iv u Q I ro ri rv)
theorem own_dct {K : PySem.W.Frag} {B G H : Hp} {σ : St} {δ : List Sl} {i : Nat} {a : Addr} {ds : List (Key × D)} (F : Frame K B G H σ δ) (e : δ[i]? = some (.own a (.dct ds))) : ∃ xs, H a = some (.dK xs) ∧ RepK K G ds xs := by
  obtain ⟨ov, _, _, h⟩ := F.get e
  exact h
theorem repK_len' {K : PySem.W.Frag} {G : Hp} : ∀ {ds : List (Key × D)} {vs : List (Key × V)}, RepK K G ds vs → vs.length = ds.length
  | [], vs, h => by unfold RepK at h; subst h; rfl
  | (k, d) :: ds, vs, h => by
    unfold RepK at h
    obtain ⟨v, vr, e, _, h2⟩ := h
    subst e
    simp [repK_len' h2]
section
variable {c : Cd} {δ : List Sl} {ta tb : TE}
theorem wg_setB {r : R} {Φ : List Sl → Prop} (h : ∃ x, frz r = .d x ∧ WE c false ta δ fun r1 δ1 => ∃ i a, r1 = .bor i a ∧ WE c false tb δ1 fun r2 δ2 =>
    (∃ n ds j, r2 = .d (.int n) ∧ δ2[i]? = some (.own a (.lst ds)) ∧ ixN ds.length n = some j ∧ ∀ δ3, δ3 = δ2.set i (.own a (.lst (ds.set j x))) → Φ δ3) ∨
    (∃ y key kds, r2 = .d y ∧ dKey y = some key ∧ δ2[i]? = some (.own a (.dct kds)) ∧ kds.length < 100000 ∧ ∀ δ3, δ3 = δ2.set i (.own a (.dct (putD kds key x))) → Φ δ3)) :
    WG c (gSub ta tb rSetB) r δ Φ := by
  intro B G H σ v Q F x k rv
  obtain ⟨y, hy, h⟩ := h
  obtain ⟨G0, e0, F0, rw0⟩ := k.weak F
  rw [hy] at rw0
  refine h B G0 H σ _ F0 (c.mono _ _ _ e0 x) fun r1 δ1 v1 G1 H1 w1 e1 F1 rv1 p1 => ?_
  obtain ⟨i, a, er, w1⟩ := w1
  subst er
  obtain ⟨ev, _⟩ := rv1
  subst ev
  refine w1 B G1 H1 σ _ F1 (c.mono _ _ _ (e0.trans e1) x) fun r2 δ2 v2 G2 H2 w2 e2 F2 rv2 p2 => ?_
  have hv : Rep c.K G2 y v := Rep.mono (e1.trans e2) (show Rep c.K G0 y v from rw0)
  rcases w2 with ⟨n, ds, j, er2, hd, hj, w2⟩ | ⟨w, key, kds, er2, hk, hd, hl, w2⟩
  · subst er2
    have q2 : v2 = .int n := by have z : Rep c.K G2 (.int n) v2 := rv2; unfold Rep at z; exact z
    subst q2
    obtain ⟨xs, hx, hr⟩ := own_lst F2 hd
    refine .inl ⟨a, xs, n, j, rfl, rfl, hx, by rw [reps_length hr]; exact hj, ?_⟩
    exact rv _ _ G2 _ (w2 _ rfl) (e0.trans (e1.trans e2)) (frame_mut F2 hd ⟨_, upd_same, reps_set j hr hv⟩)
  · subst er2
    have q2 : v2 = kV key := dKey_rep hk (show Rep c.K G2 w v2 from rv2)
    subst q2
    obtain ⟨xs, hx, hr⟩ := own_dct F2 hd
    have hl2 : xs.length < sizeLine := by rw [repK_len' hr, sizeLine_eq]; omega
    refine .inr ⟨a, _, rfl, .inl ⟨xs, key, hx, rfl, hl2, rfl⟩, ?_⟩
    exact rv _ _ G2 _ (w2 _ rfl) (e0.trans (e1.trans e2)) (frame_mut F2 hd ⟨_, upd_same, repK_put hr hv⟩)
end
end DL

/-! DL19: lists: pop, insert, index, clear; texts split; dict(..), list(a dict); d.get; isinstance of several. -/
namespace DL
open PySem PySem.Spec PyProof.Rows L2
open Evl (Ex)
section
variable {X : Cx}
theorem mt_popAtA : MtR X "list.pop" rPopAt := L2.mt_popAt
def rInsertA : V → List V → Hp → VK → Prop := fun x vs H Q => ∃ (l : Addr) (xs : List V) (i : Int) (y : V), x = .ref l ∧ vs = [.int i, y] ∧ H l = some (.lst xs) ∧ xs.length < sizeLine ∧ 0 ≤ i ∧ i < 2 ^ 63 ∧ Q .non (upd H l (.lst (xs.take i.toNat ++ [y] ++ xs.drop i.toNat)))
def rSplitA : V → List V → Hp → VK → Prop := fun x xs H Q => ∃ a b, x = .str a ∧ xs = [.str b] ∧ (b.length == 0) = false ∧ a.length + 2 ≤ sizeLine ∧ rNewStrs (Txt.split a b) H Q
theorem mt_splitA : MtR X "str.split" rSplitA := L2.mt_split
def rIndexA (K : PySem.W.Frag) : V → List V → Hp → VK → Prop := rIndex K
end
theorem reps_erase {K : PySem.W.Frag} {G : Hp} {ds : List D} {xs : List V} (i : Nat) (h : Reps K G ds xs) : Reps K G (ds.eraseIdx i) (xs.eraseIdx i) := by
  rw [List.eraseIdx_eq_take_drop_succ, List.eraseIdx_eq_take_drop_succ]
  exact reps_append (reps_take i h) (reps_drop (i + 1) h)
theorem sq_nat {i n : Nat} (h : i < n) : seqIndex? (i : Int) n = some i := by
  unfold seqIndex?
  simp
  omega
theorem mu_popAt : MuL rPopAt fun ds es k => ∃ (i : Nat) (x : D), es = [.int i] ∧ ds.length ≤ 100000 ∧ ds[i]? = some x ∧ k (ds.eraseIdx i) x := fun K G H a xs ds es vs Ψ Q hx eG hr he hf k => by
  obtain ⟨i, x, e, hl, hi, q⟩ := hf
  subst e
  obtain ⟨v, e2, h2⟩ := reps_one' he
  subst e2
  unfold Rep at h2
  subst h2
  obtain ⟨w, h3, h4⟩ := reps_get hr hi
  have hlt : i < xs.length := by
    rcases Nat.lt_or_ge i xs.length with q | q
    · exact q
    · rw [List.getElem?_eq_none q] at h3; cases h3
  have hle : xs.length = ds.length := reps_length hr
  exact ⟨a, xs, i, i, w, rfl, rfl, hx, by omega, by omega, sq_nat hlt, h3, k _ _ _ _ q (reps_erase i hr) h4⟩
section
variable {c : Cd} {p : Bool} {δ : List Sl} {te : TE} {tr : TA} {Φ : R → List Sl → Prop}
theorem we_popAt (h : WE c false te δ fun r1 δ1 => ∃ i a, r1 = .bor i a ∧ (∃ ds, δ1[i]? = some (.own a (.lst ds))) ∧ WA c false tr δ1 fun rs δ2 => ∃ (ds : List D) (n : Nat) (x : D), rs = [.d (.int n)] ∧ δ2[i]? = some (.own a (.lst ds)) ∧ ds.length ≤ 100000 ∧ ds[n]? = some x ∧
    ∀ δ3, δ3 = δ2.set i (.own a (.lst (ds.eraseIdx n))) → Φ (.d x) δ3) : WE c false (tBM c.K "list" rPopAt te tr) δ Φ := by
  refine we_mu mu_popAt (we_mono h fun r1 δ1 ⟨i, a, e1, h0, h1⟩ => ⟨i, a, e1, h0, ?_⟩)
  intro B G H σ Q F x k
  refine h1 B G H σ Q F x fun rs δ2 vs G' H' ⟨ds, n, y, e2, e3, hl, hy, q⟩ => k rs δ2 vs G' H' ⟨ds, [.int n], by rw [e2]; rfl, e3, n, y, rfl, hl, hy, q _ rfl⟩
theorem view_one {rs : List R} {K : PySem.W.Frag} {G : Hp} {vs : List V} {x : D} (e : views δ rs = some [x]) (h : RVs K G rs vs) : ∃ r w, rs = [r] ∧ vs = [w] ∧ view δ r = some x ∧ RW K G r w := by
  cases rs with
  | nil => cases views_nil e
  | cons r rs =>
    obtain ⟨x', es, e3, e4, e5⟩ := views_cons e
    cases e3
    cases rs with
    | nil =>
      obtain ⟨w, wr, e6, h3, h4⟩ := h
      have e7 : wr = [] := h4
      subst e7
      exact ⟨r, w, rfl, e6, e4, h3⟩
    | cons r2 rs =>
      obtain ⟨x', es, e3, e4, e5⟩ := views_cons e5
      cases e3
end
section
variable {c : Cd}
/-- the first place of x -/
def atD (x : D) : List D → Option Nat
  | [] => none
  | y :: ys => if eqF y x = true then some 0 else (atD x ys).map (· + 1)
theorem reps_strs {K : PySem.W.Frag} {G : Hp} : ∀ ys : List Str, Reps K G (ys.map D.str) (ys.map V.str)
  | [] => reps_nil
  | y :: ys => reps_cons rep_str (reps_strs ys)
theorem med_split : MeD c rSplitA fun x ds k => ∃ a b, x = .str a ∧ ds = [.str b] ∧ (b.length == 0) = false ∧ a.length ≤ 16000000 ∧ ∀ l, k (.own l (.lst ((Txt.split a b).map D.str))) := by
  intro B G H σ δ r1 rs v vs x ds Ψ Q F h1 hr e1 e2 hf k
  obtain ⟨a, b, ex, ed, hb, hl, q⟩ := hf
  subst ex ed
  have q1 := view_repH F h1 e1
  unfold Rep at q1
  subst q1
  obtain ⟨r, w, er, ew, e3, h3⟩ := view_one e2 hr
  subst er ew
  have q2 := view_repH F h3 e3
  unfold Rep at q2
  subst q2
  exact ⟨a, b, rfl, rfl, hb, by rw [sizeLine_eq]; omega, fun l hl' => k _ _ G _ (q l) (Ex.refl G) (Ex.new hl') (F.ex (Ex.new hl')) (rv_newL F hl' (reps_strs _))⟩
end
/-! ### dict(..), list(a dict), isinstance of several -/
/-- pairs of a key and data -/
def pairsD : List D → Option (List (Key × D))
  | [] => some []
  | .tup [k, x] :: r => match dKey k with
    | some key => (pairsD r).map ((key, x) :: ·)
    | none => none
  | _ :: _ => none
def rDictP (K : PySem.W.Frag) : List V → Hp → VK → Prop := fun xs H Q => ∃ (a : Addr) (ps : List Addr) (kvs : List (Key × V)), xs = [.ref a] ∧ SqL K H a (ps.map V.ref) ∧ Paired (fun p kv => SqT K H p [kV kv.1, kv.2]) ps kvs ∧ ∀ p, H p = none → Q (.ref p) (upd H p (.dK (mergeK [] kvs)))
def rDictD : List V → Hp → VK → Prop := fun xs H Q => ∃ (a : Addr) (kvs : List (Key × V)), xs = [.ref a] ∧ Rd H a (.dK kvs) ∧ ∀ p, H p = none → Q (.ref p) (upd H p (.dK kvs))
def rDictA (K : PySem.W.Frag) : List V → Hp → VK → Prop := fun xs H Q => rDictP K xs H Q ∨ rDictD xs H Q
def rListD : List V → Hp → VK → Prop := fun xs H Q => ∃ (a : Addr) (kvs : List (Key × V)), xs = [.ref a] ∧ Rd H a (.dK kvs) ∧ ∀ p, H p = none → Q (.ref p) (upd H p (.lst (kvs.map fun kv => kV kv.1)))
def rListB (K : PySem.W.Frag) : List V → Hp → VK → Prop := fun xs H Q => rListA K xs H Q ∨ rListD xs H Q
theorem call_listB {X : Cx} (hc : X.calm = true) : CallR X (.type "list") (rListB X.K) := call_listA.or (L2.call_listD hc)
section
variable {c : Cd}
theorem keys_reps {K : PySem.W.Frag} {G : Hp} : ∀ {ds : List (Key × D)} {vs : List (Key × V)}, RepK K G ds vs → Reps K G (ds.map fun kv => keyD kv.1) (vs.map fun kv => kV kv.1)
  | [], vs, h => by unfold RepK at h; subst h; exact reps_nil
  | (k, d) :: ds, vs, h => by
    unfold RepK at h
    obtain ⟨v, vr, e, _, h2⟩ := h
    subst e
    refine reps_cons ?_ (keys_reps h2)
    cases k <;> (unfold keyD Rep; rfl)
theorem cad_listB : CaD c (rListB c.K) fun ds k => ∃ x, ds = [x] ∧ ((∃ xs, seqD x = some xs ∧ ∀ a, k (.own a (.lst xs))) ∨ ∃ kds, x = .dct kds ∧ ∀ a, k (.own a (.lst (kds.map fun kv => keyD kv.1)))) := by
  intro B G H σ δ rs vs ds Ψ Q F h e hf k
  obtain ⟨x, ed, hf⟩ := hf
  rcases hf with ⟨xs, h1, q⟩ | ⟨kds, ex, q⟩
  · exact .inl (cad_list B G H σ δ rs vs ds Ψ Q F h e ⟨x, ed, xs, h1, q⟩ k)
  · subst ed ex
    obtain ⟨r, w, er, ew, e3, h3⟩ := view_one e h
    subst er ew
    obtain ⟨a, ws, ev, ha, hr⟩ := view_dct F h3 e3
    subst ev
    exact .inr ⟨a, ws, rfl, ha, fun l hl => k _ _ G _ (q l) (Ex.refl G) (Ex.new hl) (F.ex (Ex.new hl)) (rv_newL F hl (keys_reps hr))⟩
/-- isinstance(x, (A, B, ..)) -/
def rIsiS (K : PySem.W.Frag) : List V → Hp → VK → Prop := fun xs H Q => ∃ (x : V) (tp : Addr) (cs : List V) (t : Value) (us : List Value) (b : Bool), xs = [x, .ref tp] ∧ SqT K H tp cs ∧ Paired L2.ClsV cs us ∧ TyX K H x t ∧ PySem.W.kitAny K t us = some b ∧ Q (.bl b) H
theorem call_isiS {X : Cx} : CallR X (.builtin "isinstance") (rIsiS X.K) := by
  intro pins s σ H xs us Q I r h
  obtain ⟨x, tp, cs, t, ws, b, rfl, hT, k, ty, e, q⟩ := h
  obtain ⟨u1, u2, rfl, r1, r2⟩ := vals2 r
  cases (show u2 = Value.ref tp from r2)
  obtain ⟨P, Z, p, hx⟩ := kit_of I r1 ty
  obtain ⟨its, rv, ⟨o, h1, h2, n, h3⟩, _⟩ := I.tuple hT
  have e3 := L2.ClsV.all k rv
  subst e3
  obtain ⟨oc, od, dt, sl⟩ := o
  simp only at h2 h3
  subst h2 h3
  exact PySem.W.kia_tup Z I.kIn p h1 e hx fun tk => ⟨.bl b, H, I.tok tk, rfl, q⟩
def tysOf : List D → Option (List String)
  | [] => some []
  | .ty n :: r => (tysOf r).map (n :: ·)
  | _ :: _ => none
def kitAnyB (T : String) : List String → Option Bool
  | [] => some false
  | n :: r => match kitB T n with
    | some true => some true
    | some false => kitAnyB T r
    | none => none
theorem tys_cls {K : PySem.W.Frag} {G : Hp} {T : String} : ∀ {ys : List D} {ns : List String} {cs : List V} {b : Bool}, tysOf ys = some ns → Reps K G ys cs → kitAnyB T ns = some b → ∃ us, Paired L2.ClsV cs us ∧ PySem.W.kitAny K (.type T) us = some b
  | [], ns, cs, b, h, r, e => by
    unfold Reps at r
    cases h
    subst r
    exact ⟨[], .nil, e⟩
  | y :: ys, ns, cs, b, h, r, e => by
    cases y with
    | ty n =>
      unfold tysOf at h
      cases h2 : tysOf ys with
      | none => rw [h2] at h; cases h
      | some ms =>
        rw [h2] at h
        cases h
        unfold Reps at r
        obtain ⟨v, vr, e1, r1, r2⟩ := r
        subst e1
        unfold Rep at r1
        subst r1
        unfold kitAnyB at e
        cases hk : kitB T n with
        | none => rw [hk] at e; cases e
        | some q =>
          rw [hk] at e
          have ko : PySem.W.kitOne K (.type T) (.type n) = some q := kit_ty hk
          have all : ∃ us, Paired L2.ClsV vr us := by
            clear e ko hk
            induction ys generalizing vr ms with
            | nil => unfold Reps at r2; subst r2; exact ⟨[], .nil⟩
            | cons z zs ih =>
              cases z with
              | ty n2 =>
                unfold tysOf at h2
                cases h3 : tysOf zs with
                | none => rw [h3] at h2; cases h2
                | some _ =>
                  unfold Reps at r2
                  obtain ⟨w, wr, e2, q1, q2⟩ := r2
                  subst e2
                  unfold Rep at q1
                  subst q1
                  obtain ⟨us, hu⟩ := ih _ h3 _ q2
                  exact ⟨.type n2 :: us, .cons (.ty n2) hu⟩
              | _ => cases h2
          cases q with
          | true =>
            obtain ⟨us, hu⟩ := all
            refine ⟨.type n :: us, .cons (.ty n) hu, ?_⟩
            unfold PySem.W.kitAny
            rw [ko]
            exact e
          | false =>
            obtain ⟨us, hu, hb⟩ := tys_cls h2 r2 e
            refine ⟨.type n :: us, .cons (.ty n) hu, ?_⟩
            unfold PySem.W.kitAny
            rw [ko]
            exact hb
    | _ => cases h
def rIsiB (K : PySem.W.Frag) : List V → Hp → VK → Prop := fun xs H Q => rIsiA K xs H Q ∨ rIsiS K xs H Q
theorem call_isiB {X : Cx} : CallR X (.builtin "isinstance") (rIsiB X.K) := call_isiA.or call_isiS
def isiB (x : D) : D → Option Bool
  | .ty b => (tyD x).bind fun a => kitB a b
  | .tup ys => (tysOf ys).bind fun ns => (tyD x).bind fun a => kitAnyB a ns
  | _ => none
theorem cad_isiB : CaD c (rIsiB c.K) fun ds k => ∃ x y, ds = [x, y] ∧ ∃ b, isiB x y = some b ∧ k (.d (.bl b)) := by
  intro B G H σ δ rs vs ds Ψ Q F h e hf k
  obtain ⟨x, y, ed, b, hb, q⟩ := hf
  cases y with
  | ty n => exact .inl (cad_isi B G H σ δ rs vs ds Ψ Q F h e ⟨x, .ty n, ed, b, hb, q⟩ k)
  | tup ys =>
    subst ed
    obtain ⟨r, w, r2, w2, er, ew, e3, e4, h3, h4⟩ := views_two e h
    subst er ew
    have hb : ((tysOf ys).bind fun ns => (tyD x).bind fun a => kitAnyB a ns) = some b := hb
    cases hn : tysOf ys with
    | none => rw [hn] at hb; cases hb
    | some ns =>
      cases ht : tyD x with
      | none => rw [hn, ht] at hb; cases hb
      | some T =>
        rw [hn, ht] at hb
        obtain ⟨a, cs, ev, ha, hr⟩ := view_tup F h4 e4
        subst ev
        obtain ⟨us, hu, hk⟩ := tys_cls (K := c.K) hn hr hb
        exact .inr ⟨w, a, cs, .type T, us, b, rfl, ha, hu, tyD_ok F h3 e3 ht, hk, k _ _ G H q (Ex.refl G) (Ex.refl H) F (rv_bl (K := c.K))⟩
  | _ => cases hb
end
end DL

/-! DL20: the closers that the walk uses for DL18, DL19. -/
namespace DL
open PySem PySem.Spec PyProof.Rows L2
section
variable {δ : List Sl} {i : Nat} {a : Addr} {x y : D} {n : Int} {ds : List D} {kds : List (Key × D)} {key : Key} {j : Nat} {Q : Prop}
theorem ex_setBL {P : List D → Nat → Prop} (h1 : δ[i]? = some (.own a (.lst ds))) (h2 : ixN ds.length n = some j) (q : P ds j) :
    (∃ n' ds' j', R.d (.int n) = .d (.int n') ∧ δ[i]? = some (.own a (.lst ds')) ∧ ixN ds'.length n' = some j' ∧ P ds' j') ∨ Q := .inl ⟨n, ds, j, rfl, h1, h2, q⟩
theorem ex_setBD {P : Key → List (Key × D) → Prop} (h1 : δ[i]? = some (.own a (.dct kds))) (hk : dKey x = some key) (h2 : kds.length < 100000) (q : P key kds) :
    Q ∨ ∃ y' key' kds', R.d x = .d y' ∧ dKey y' = some key' ∧ δ[i]? = some (.own a (.dct kds')) ∧ kds'.length < 100000 ∧ P key' kds' := .inr ⟨x, key, kds, rfl, hk, h1, h2, q⟩
theorem ex_popAt {P : List D → Nat → D → Prop} {m : Nat} (h1 : δ[i]? = some (.own a (.lst ds))) (h2 : ds.length ≤ 100000) (h3 : ds[m]? = some x) (q : P ds m x) :
    ∃ (ds' : List D) (n' : Nat) (x' : D), [R.d (.int (m : Nat))] = [.d (.int (n' : Nat))] ∧ δ[i]? = some (.own a (.lst ds')) ∧ ds'.length ≤ 100000 ∧ ds'[n']? = some x' ∧ P ds' n' x' := ⟨ds, m, x, rfl, h1, h2, h3, q⟩
end
end DL

/-! DL21: objects of classes of one's own: fields read and written, made, asked. -/
namespace DL
open PySem PySem.Spec PyProof.Rows L2
open Evl (Ex)
theorem view_obj {K : PySem.W.Frag} {B G H : Hp} {σ : St} {δ : List Sl} {r : R} {v : V} {C : Addr} {fs : List (Str × D)} (F : Frame K B G H σ δ) (h : RW K G r v) (e : view δ r = some (.obj C fs)) : ∃ a dx fvs, v = .ref a ∧ H a = some (.ins C dx fvs) ∧ RepF K G fs fvs := by
  cases r with
  | d y =>
    have e' : y = .obj C fs := Option.some.inj e
    subst e'
    have h' : Rep K G (.obj C fs) v := h
    unfold Rep at h'
    obtain ⟨a, dx, xs, e1, h1, h2⟩ := h'
    exact ⟨a, dx, xs, e1, F.exG _ _ h1, h2⟩
  | own a y => exact h.elim
  | deep a y gs => cases e
  | bor i a =>
    have e1 : v = .ref a := h
    obtain ⟨dx, xs, h3, h4⟩ := (view_own F e).1
    exact ⟨a, dx, xs, e1, h3, h4⟩
theorem repF_look {K : PySem.W.Frag} {G : Hp} {f : Str} {x : D} : ∀ {fs : List (Str × D)} {vs : List (Str × V)}, RepF K G fs vs → fs.lookup f = some x → ∃ v, vs.lookup f = some v ∧ Rep K G x v
  | [], vs, h, e => by cases e
  | (g, d) :: fs, vs, h, e => by
    unfold RepF at h
    obtain ⟨v, vr, e1, h1, h2⟩ := h
    subst e1
    rw [List.lookup_cons] at e ⊢
    cases q : f == g with
    | true => rw [q] at e; cases e; exact ⟨v, rfl, h1⟩
    | false => rw [q] at e; exact repF_look h2 e
theorem repF_none {K : PySem.W.Frag} {G : Hp} {f : Str} : ∀ {fs : List (Str × D)} {vs : List (Str × V)}, RepF K G fs vs → fs.lookup f = none → vs.lookup f = none
  | [], vs, h, e => by unfold RepF at h; subst h; rfl
  | (g, d) :: fs, vs, h, e => by
    unfold RepF at h
    obtain ⟨v, vr, e1, h1, h2⟩ := h
    subst e1
    rw [List.lookup_cons] at e ⊢
    cases q : f == g with
    | true => rw [q] at e; cases e
    | false => rw [q] at e; exact repF_none h2 e
theorem repF_len {K : PySem.W.Frag} {G : Hp} : ∀ {fs : List (Str × D)} {vs : List (Str × V)}, RepF K G fs vs → vs.length = fs.length
  | [], vs, h => by unfold RepF at h; subst h; rfl
  | (k, d) :: ds, vs, h => by
    unfold RepF at h
    obtain ⟨v, vr, e, _, h2⟩ := h
    subst e
    simp [repF_len h2]
section
variable {c : Cd} {p : Bool} {δ : List Sl} {te tv : TE} {f : Str}
/-- e.f -/
theorem we_fld {Φ : R → List Sl → Prop} (h : WE c p te δ fun r δ1 => ∃ C fs x, view δ1 (frz r) = some (.obj C fs) ∧ Cls c.K C ∧ NoAttr c.K C f ∧ fs.lookup f = some x ∧ Φ (.d x) δ1) : WE c p (tFld c.K te f) δ Φ := by
  intro B G H σ Q F x k
  refine h B G H σ _ F x fun r1 δ1 v1 G1 H1 w1 e1 F1 rv1 p1 => ?_
  obtain ⟨G1', e1', F1', rw1⟩ := rv1.weak F1
  obtain ⟨C, fs, y, hv, hc, hn, hl, q⟩ := w1
  obtain ⟨a, dx, fvs, ev, ha, hr⟩ := view_obj F1' rw1 hv
  obtain ⟨v, h3, h4⟩ := repF_look hr hl
  exact ⟨a, C, dx, fvs, v, ev, ha, hc, hn, h3, k _ δ1 _ G1' H1 q (e1.trans e1') F1' h4 p1⟩
end
section
variable {K : PySem.W.Frag} {B G G' H H' : Hp} {σ : St} {δ : List Sl}
/-- the call of a def that may raise, objects lent: where it raises they are as they were -/
theorem callX_core {cn : Cn} {S : SpX} {Ψx : Nat → D → List Sl → Prop} {Φ : R → List Sl → Prop} {rs : List R} {as : List Sl} {vs : List V} {Q : VK} {X : XK} (F : Frame K B G H σ δ) (hv : RVs K G rs vs) (hto : toAs δ rs = some as) (nd : (owned as).Nodup)
    (hS : ∀ (P : R → List Sl → Prop) (Y : Nat → D → Prop), (∀ r as', ownOut r → Φ r (backAs δ rs as') → P r as') → (∀ nm x, Ψx nm x (backAs δ rs (lose as)) → Y nm x) → S as P Y)
    (k : ∀ r δ' v G' H', Φ r δ' → Ex G G' → Frame K B G' H' σ δ' → RV K B G' H' δ' r v → (noBor rs = true → δ' = δ ∧ Ex H H') → Q v H')
    (kx : ∀ nm x (d : Addr) v G' H', Ψx nm x (backAs δ rs (lose as)) → Ex G G' → Frame K B G' H' σ (backAs δ rs (lose as)) → G' d = some (.xd v) → RepF K G' (xfs (cn.fl nm) x) v → X (.ref (cn.ad nm)) (some d) H') : liftX K cn S vs H Q X := by
  obtain ⟨Bc, F0, hb⟩ := call_in F hv hto nd
  refine ⟨Bc, G, as, F0, hS _ _ (fun r as' hr hΦ v G' H' eG F' rv => ?_) fun nm y q d v G' H' eG F' hd hr => ?_⟩
  · obtain ⟨F2, hr2, hn⟩ := hb as' G' H' eG F'
    exact k r _ v G' H' hΦ eG F2 (hr2 r v hr rv) hn
  · exact kx nm y d v G' H' q eG (hb _ G' H' eG F').1 hd hr
end
section
variable {cn : Cn} {Ψ : Nat → D → List Sl → Prop} {Wx : WX} {δ : List Sl} {tr : TA}
/-- a call of a def that may raise, objects lent -/
theorem we_callXO {K : PySem.W.Frag} {S : SpX} {Φ : R → List Sl → Prop} (h : WA (cX K cn Ψ Wx) false tr δ fun rs δ1 => ∃ as, toAs δ1 rs = some as ∧ (owned as).Nodup ∧
    ∀ (P : R → List Sl → Prop) (Y : Nat → D → Prop), (∀ r as', ownOut r → Φ r (backAs δ1 rs as') → P r as') → (∀ nm x, Ψ nm x (backAs δ1 rs (lose as)) → Y nm x) → S as P Y) : WE (cX K cn Ψ Wx) false (tCallS (liftX K cn S) (L2.WE Wx) tr) δ Φ := by
  intro B G H σ Q F x k
  refine h B G H σ _ F x fun rs δ1 vs G1 H1 w e1 F1 rv p1 => ?_
  obtain ⟨as, hto, nd, hS⟩ := w
  exact callX_core F1 rv hto nd hS (fun r δ' v G' H' q eG F' rv' n => k r δ' v G' H' q (e1.trans eG) F' rv' fun z => nomatch z)
    fun nm y d v G' H' q eG F' hd hr => x nm y _ σ d v G' H' q (e1.trans eG) F' hd hr
end
end DL

/-! DL22: methods, objects made, fields written. -/
namespace DL
open PySem PySem.Spec PyProof.Rows L2
open Evl (Ex)
section
variable {X : Cx} {CX : CXT} {k : Nat} {f C : Addr} {fd : FuncData} {ps : List Str} {sp : Sp} {E : L2.St → XK} {x m : Str} {p pos apos : Pos} {e o : Expr} {es : List Expr} {ta : TE} {t : TA}
theorem runSG {pins : List (Addr × Obj)} {σ : L2.St} {H : Hp} {s : Shared} {Q : VK} {us : List Value} {vs : List V} (F : FnG X.prog X.w X.K X.mg X.base CX k f fd ps sp) (g : GOk X.base X.A) (hr : Room k X.A) (hb : Binds X.K fd ps []) (hx : PassesAt CX X σ (E σ))
    (I : Inv X pins σ H s) (r : Vals vs us) (h : sp vs H Q (E σ)) : wpAny (model X.prog X.w) X.A (call (.ref f) us) (EP X pins σ Q) X.xe s := by
  have many : us.length = ps.length := by rw [← r.length]; exact F.len _ _ _ _ h
  have b := hb s us I.kIn (by rw [List.append_nil]; exact many)
  rw [List.append_nil] at b
  refine wpAny_call (codeAny_mono (F.run X.A X.stack s H ⟨us, []⟩ us vs Q (E σ) g hr I.env0 b r h) fun res s' q' => ?_)
  match res, q' with
  | .error ex, q' => exact hx pins H s ex s' I q'
  | .ok (.ret u), q' => exact I.after q'
/-- o.m(e, ..) -/
def tMethS (m : Str) (sp : Sp) (E : L2.St → XK) (ta : TE) (C : Addr) (t : TA) : TE := fun σ H Q => ta σ H fun x H1 => ∃ a dx fs, x = .ref a ∧ H1 a = some (.ins C dx fs) ∧ fs.lookup m = none ∧ t σ H1 fun vs H2 => sp (x :: vs) H2 Q (E σ)
theorem pe_methSG0 {pl : Sem Bool} (he : PE X o ta) (c : Cls X.K C) (hm : Meth X.K C m f) (F : FnG X.prog X.w X.K X.mg X.base CX k f fd ps sp) (g : GOk X.base X.A) (hr : Room k X.A) (hb : Binds X.K fd ps []) (hx : ∀ σ, PassesAt CX X σ (E σ))
    (ht : eval (.Call (.Attribute o m apos) [] [] pos) X.env = (do
      let ov ← eval o X.env
      standAt apos.atName
      let (f, first) ← holding [ov] (getMethod ov m pl)
      callWith pos f first (backTo pos (starEach [] X.env)) (backToKw pos (keywordEach [] X.env))) := by rfl) :
    PE X (.Call (.Attribute o m apos) [] [] pos) (tMethS m sp E ta C tNil) := by
  refine ⟨fun pins s σ H Q I h => ?_⟩
  refine PySem.W.methodCall_KW (pl := pl) (thn (he.run pins s σ H _ I h) fun u s1 ⟨x, H1, I1, rx, a, dx, fs, ex, ea, l, q⟩ => ?_) ht
  subst ex
  obtain rfl : u = Value.ref a := rx
  refine getmeth_ok I1 ea c hm l ?_
  exact PySem.W.callWith_K0 (first := [.ref a]) I1.kIn hm.kp (runSG (us := [.ref a]) (vs := [.ref a]) F g hr hb (hx σ) I1 (.cons rfl .nil) q)
/-- C(e, ..): a new object, then its __init__ -/
def tMakeS (C : Addr) (sp : Sp) (E : L2.St → XK) (t : TA) : TE := fun σ H Q => t σ H fun vs H1 => ∀ x dx, H1 x = none → H1 dx = none → dx ≠ x →
  sp (.ref x :: vs) (upd (upd H1 dx (.own x)) x (.ins C dx [])) (fun v H2 => v = .non ∧ Q (.ref x) H2) (E σ)
theorem run_makeG {pins : List (Addr × Obj)} {σ : L2.St} {H : Hp} {s : Shared} {Q : VK} {us : List Value} {vs : List V} (M : Mk X.K C f) (F : FnG X.prog X.w X.K X.mg X.base CX k f fd ps sp) (g : GOk X.base X.A) (hr : Room (k + 1) X.A) (hb : Binds X.K fd ps [])
    (hx : PassesAt CX X σ (E σ)) (I : Inv X pins σ H s) (r : Vals vs us)
    (h : ∀ x dx, H x = none → H dx = none → dx ≠ x → sp (.ref x :: vs) (upd (upd H dx (.own x)) x (.ins C dx [])) (fun v H2 => v = .non ∧ Q (.ref x) H2) (E σ)) :
    wpAny (model X.prog X.w) X.A (call (.ref C) us) (EP X pins σ Q) X.xe s := by
  have wish := h (s.heap.objs.size + 1) s.heap.objs.size (I.hok.fresh (Nat.le_succ _)) (I.hok.fresh (Nat.le_refl _)) (Nat.ne_of_lt (Nat.lt_succ_self _))
  have J := Inv.made (C := C) I
  have r2 : Vals (V.ref (s.heap.objs.size + 1) :: vs) (Value.ref (s.heap.objs.size + 1) :: us) := .cons rfl r
  have many : (Value.ref (s.heap.objs.size + 1) :: us).length = ps.length := by
    have z := r2.length
    rw [F.len _ _ _ _ wish] at z
    exact z.symm
  have b := hb _ (Value.ref (s.heap.objs.size + 1) :: us) J.kIn (by rw [List.append_nil]; exact many)
  rw [List.append_nil] at b
  refine wpAny_call (make_map (f := f) I.kIn M.makes M.init (beq_iff_eq.mp M.fn) (codeAny_mono (F.run _ X.stack _ _ ⟨Value.ref (s.heap.objs.size + 1) :: us, []⟩ (Value.ref (s.heap.objs.size + 1) :: us) _ _ (E σ) g (hr.make C us [])
    (J.env0.make C us []) b r2 wish) fun res s' hq' => ?_))
  match res, hq' with
  | .error ex, hq' => exact hx pins _ _ ex s' J hq'
  | .ok (.ret u), hq' =>
    obtain ⟨v, H', I3, rv, ev, q3⟩ := J.after hq'
    subst ev
    exact ⟨rv, ⟨V.ref (s.heap.objs.size + 1), H', I3, rfl, q3⟩⟩
theorem pe_makeSG (M : Mk X.K C f) (F : FnG X.prog X.w X.K X.mg X.base CX k f fd ps sp) (g : GOk X.base X.A) (hr : Room (k + 1) X.A) (hg : Gl X x) (hm : X.mg x = some (.ref C)) (hb : Binds X.K fd ps []) (hx : ∀ σ, PassesAt CX X σ (E σ))
    (ha : PA X (e :: es) t) (hdb : (x == ("__debug__" : Str)) = false := by decide) (he : starEach (e :: es) X.env = (false, eval e X.env) :: starEach es X.env := by rfl) (hpl : (backTo pos (starEach es X.env)).any (·.1) = false := by rfl) :
    PE X (.Call (.Name x p) (e :: es) [] pos) (tMakeS C sp E t) := by
  refine ⟨fun pins s σ H Q I h => ?_⟩
  refine wpAny_Call_Name_kw (ld_glob I hg hm ?_ hdb)
  refine PySem.W.callWith_K (h₀ := X.base) I.ok.mod.kin M.kp (thn (ha.run pos pins s σ H _ I h) fun us s1 ⟨vs, H1, I1, r, q⟩ => ⟨I1.kIn, ?_⟩) he hpl
  exact run_makeG M F g hr hb (hx σ) I1 r q
end
end DL

/-! DL23: the words of methods, of objects made, of fields written. -/
namespace DL
open PySem PySem.Spec PyProof.Rows L2
open Evl (Ex)
/-! ### a slot more at the end -/
section
variable {K : PySem.W.Frag} {B G G' H H' : Hp} {σ : St} {δ ε : List Sl}
theorem SlsR.split : ∀ {δ ε : List Sl} {σ τ : St}, σ.length = δ.length → SlsR K G H (δ ++ ε) (σ ++ τ) → SlsR K G H δ σ ∧ SlsR K G H ε τ
  | [], ε, σ, τ, hl, h => by
    cases σ with
    | nil => exact ⟨rfl, h⟩
    | cons _ _ => cases hl
  | s :: δ, ε, σ, τ, hl, h => by
    cases σ with
    | nil => cases hl
    | cons ov σ =>
      obtain ⟨ov', σr, e, h1, h2⟩ := h
      cases e
      obtain ⟨q1, q2⟩ := SlsR.split (by simpa using hl) h2
      exact ⟨⟨ov, σ, rfl, h1, q1⟩, q2⟩
/-- a new object of one's own, as a slot more -/
theorem frame_more {a : Addr} {x : D} (F : Frame K B G H σ δ) (h : OwnR K G H a x) (hB : B a = none) (hG : G a = none) (hO : a ∉ owned δ) : Frame K B G H (σ ++ [some (.ref a)]) (δ ++ [.own a x]) := by
  have e : owned (δ ++ [.own a x]) = owned δ ++ [a] := by rw [owned_append]; rfl
  refine ⟨F.exB, F.exG, F.dis, F.sl.append ⟨_, _, rfl, ⟨rfl, h⟩, rfl⟩, fun b hb => ?_, ?_⟩
  · rw [e] at hb
    rcases List.mem_append.mp hb with q | q
    · exact F.own b q
    · rw [List.mem_singleton.mp q]; exact ⟨hB, hG⟩
  · rw [e]
    refine List.nodup_append.mpr ⟨F.nd, by simp, fun b hb c hc => ?_⟩
    rw [List.mem_singleton.mp hc]
    exact fun z => hO (by rw [← z]; exact hb)
/-- a slot's own, as what is handed on -/
inductive OutS (a : Addr) : Sl → R → Prop
  | own (x : D) : OutS a (.own a x) (.own a x)
  | deep (x : D) (gs : List (Addr × D)) : OutS a (.deep a x gs) (.deep a x gs)
theorem frame_less {ov : Option V} {s : Sl} (hl : σ.length = δ.length) (F : Frame K B G H (σ ++ [ov]) (δ ++ [s])) : Frame K B G H σ δ ∧ ∀ a r, OutS a s r → ov = some (.ref a) ∧ RV K B G H δ r (.ref a) := by
  obtain ⟨h1, h2⟩ := SlsR.split hl F.sl
  have sub : (owned δ).Sublist (owned (δ ++ [s])) := by rw [owned_append]; exact List.sublist_append_left _ _
  refine ⟨⟨F.exB, F.exG, F.dis, h1, fun b hb => F.own b (sub.subset hb), F.nd.sublist sub⟩, fun a r e => ?_⟩
  obtain ⟨ov', σr, e2, h3, _⟩ := h2
  cases e2
  have eo : owned (δ ++ [s]) = owned δ ++ ads s := by rw [owned_append, owned_cons]; simp [owned]
  have nd := F.nd
  rw [eo] at nd
  have nd' := List.nodup_append.mp nd
  have all : ∀ b ∈ ads s, B b = none ∧ G b = none ∧ b ∉ owned δ := fun b hb => by
    have hb' : b ∈ owned (δ ++ [s]) := by rw [eo]; exact List.mem_append_right _ hb
    exact ⟨(F.own b hb').1, (F.own b hb').2, fun z => nd'.2.2 b z b hb rfl⟩
  cases e with
  | own x =>
    have ha := all a (List.mem_singleton.mpr rfl)
    exact ⟨h3.1, rfl, h3.2, ha.1, ha.2.1, ha.2.2⟩
  | deep x gs => exact ⟨h3.1, rfl, h3.2.1, h3.2.2, all, nd'.2.1⟩
theorem toAs_app : ∀ {rs : List R} {as : List Sl}, toAs δ rs = some as → toAs (δ ++ ε) rs = some as
  | [], as, e => e
  | .d x :: rs, as, e => by
    unfold toAs at e ⊢
    cases q : toAs δ rs with
    | none => rw [q] at e; cases e
    | some es => rw [q] at e; rw [toAs_app q]; exact e
  | .own a x :: rs, as, e => by cases e
  | .deep a x gs :: rs, as, e => by cases e
  | .bor i a :: rs, as, e => by
    unfold toAs at e ⊢
    split at e
    · rename_i b x hx
      have hlt : i < δ.length := (List.getElem?_eq_some_iff.mp hx).1
      rw [List.getElem?_append_left hlt, hx]
      dsimp only
      split at e
      · rename_i hab
        rw [if_pos hab]
        cases q : toAs δ rs with
        | none => rw [q] at e; cases e
        | some es => rw [q] at e; rw [toAs_app q]; exact e
      · cases e
    · rename_i b x gs hx
      have hlt : i < δ.length := (List.getElem?_eq_some_iff.mp hx).1
      rw [List.getElem?_append_left hlt, hx]
      dsimp only
      split at e
      · rename_i hab
        rw [if_pos hab]
        cases q : toAs δ rs with
        | none => rw [q] at e; cases e
        | some es => rw [q] at e; rw [toAs_app q]; exact e
      · cases e
    · cases e
theorem toAs_lt (F : Frame K B G H σ δ) {rs : List R} {as : List Sl} {i : Nat} {a : Addr} (h : toAs δ rs = some as) (m : R.bor i a ∈ rs) : i < δ.length := by
  obtain ⟨⟨s, hs⟩, _⟩ := toAs_at F h m
  exact (List.getElem?_eq_some_iff.mp hs).1
theorem clr_len (rs : List R) : (clr δ rs).length = δ.length := clr_size rs
theorem clr_app : ∀ {rs : List R}, (∀ i a, R.bor i a ∈ rs → i < δ.length) → clr (δ ++ ε) rs = clr δ rs ++ ε
  | [], _ => rfl
  | .d x :: rs, h => clr_app (rs := rs) fun i a m => h i a (List.mem_cons_of_mem _ m)
  | .own a x :: rs, h => clr_app (rs := rs) fun i a m => h i a (List.mem_cons_of_mem _ m)
  | .deep a x gs :: rs, h => clr_app (rs := rs) fun i a m => h i a (List.mem_cons_of_mem _ m)
  | .bor i a :: rs, h => by
    show (clr (δ ++ ε) rs).set i .no = (clr δ rs).set i .no ++ ε
    rw [clr_app (rs := rs) fun i a m => h i a (List.mem_cons_of_mem _ m), List.set_append_left _ _ (by rw [clr_len]; exact h i a List.mem_cons_self)]
theorem fill_len (rs : List R) (as : List Sl) (δ : List Sl) : (fill δ rs as).length = δ.length := fill_size rs as δ
theorem fill_app : ∀ (rs : List R) (as : List Sl) (δ : List Sl), (∀ i a, R.bor i a ∈ rs → i < δ.length) → fill (δ ++ ε) rs as = fill δ rs as ++ ε
  | [], as, δ, _ => by cases as <;> rfl
  | .d x :: rs, [], δ, _ => rfl
  | .own a x :: rs, [], δ, _ => rfl
  | .deep a x gs :: rs, [], δ, _ => rfl
  | .bor i a :: rs, [], δ, _ => rfl
  | .d x :: rs, s :: as, δ, h => fill_app rs as δ fun i a m => h i a (List.mem_cons_of_mem _ m)
  | .own a x :: rs, s :: as, δ, h => fill_app rs as δ fun i a m => h i a (List.mem_cons_of_mem _ m)
  | .deep a x gs :: rs, s :: as, δ, h => fill_app rs as δ fun i a m => h i a (List.mem_cons_of_mem _ m)
  | .bor i a :: rs, s :: as, δ, h => by
    show (fill (δ ++ ε) rs as).set i s = (fill δ rs as).set i s ++ ε
    rw [fill_app rs as δ fun i a m => h i a (List.mem_cons_of_mem _ m), List.set_append_left _ _ (by rw [fill_len]; exact h i a List.mem_cons_self)]
theorem clr_more {n : Nat} {a : Addr} {s : Sl} {rs : List R} (hn : n = δ.length) (h : ∀ i a, R.bor i a ∈ rs → i < δ.length) : clr (δ ++ [s]) (.bor n a :: rs) = clr δ rs ++ [.no] := by
  show (clr (δ ++ [s]) rs).set n .no = _
  rw [clr_app h, List.set_append_right _ _ (by rw [clr_len, hn]; exact Nat.le_refl _), clr_len, hn, Nat.sub_self]
  rfl
theorem back_more {n : Nat} {a : Addr} {s s' : Sl} {rs : List R} {as : List Sl} (hn : n = δ.length) (h : ∀ i a, R.bor i a ∈ rs → i < δ.length) : backAs (δ ++ [s]) (.bor n a :: rs) (s' :: as) = backAs δ rs as ++ [s'] := by
  unfold backAs
  rw [clr_more hn h]
  show (fill (clr δ rs ++ [.no]) rs as).set n s' = _
  rw [fill_app rs as _ fun i a m => by rw [clr_len]; exact h i a m]
  rw [List.set_append_right _ _ (by rw [fill_len, clr_len, hn]; exact Nat.le_refl _), fill_len, clr_len, hn, Nat.sub_self]
  rfl
end
section
variable {c : Cd} {cn : Cn} {Ψ : Nat → D → List Sl → Prop} {Wx : WX} {δ : List Sl} {te tv : TE} {tr : TA} {C : Addr} {m : Str} {Φ : R → List Sl → Prop}
theorem frame_obj {K : PySem.W.Frag} {B G H : Hp} {σ : L2.St} {x dx : Addr} (F : Frame K B G H σ δ) (hx : H x = none) (hd : H dx = none) (hne : dx ≠ x) : Frame K B G (upd (upd H dx (.own x)) x (.ins C dx [])) (σ ++ [some (.ref x)]) (δ ++ [.own x (.obj C [])]) := by
  obtain ⟨h1, h2, h3⟩ := F.fresh hx
  have hx2 : (upd H dx (.own x)) x = none := by rw [upd_ne (fun z => hne z.symm)]; exact hx
  have F2 := (F.ex (Ex.new (o := .own x) hd)).ex (Ex.new (o := .ins C dx []) hx2)
  exact frame_more F2 ⟨dx, [], upd_same, by unfold RepF; rfl⟩ h1 h2 h3
theorem make_in {K : PySem.W.Frag} {B G1 H1 : Hp} {σ : L2.St} {δ1 : List Sl} {rs : List R} {as : List Sl} {vs : List V} {x dx : Addr} (F1 : Frame K B G1 H1 σ δ1) (rv : RVs K G1 rs vs) (hto : toAs δ1 rs = some as) (nd : (owned as).Nodup) (hx : H1 x = none) :
    (∀ i a, R.bor i a ∈ rs → i < δ1.length) ∧ toAs (δ1 ++ [.own x (.obj C [])]) (.bor δ1.length x :: rs) = some (.own x (.obj C []) :: as) ∧ (owned (.own x (.obj C []) :: as)).Nodup := by
  have hat : (δ1 ++ [Sl.own x (.obj C [])])[δ1.length]? = some (.own x (.obj C [])) := by simp
  refine ⟨fun i a hm => toAs_lt F1 hto hm, ?_, ?_⟩
  · unfold toAs
    rw [hat]
    dsimp only
    rw [if_pos rfl, toAs_app hto]
    rfl
  · show (x :: owned as).Nodup
    refine List.nodup_cons.mpr ⟨fun z => ?_, nd⟩
    rw [toAs_owned hto] at z
    obtain ⟨i, a, s, hi, hs, hm⟩ := lent_mem z
    exact (F1.fresh hx).2.2 (owned_getA hs hm)
/-- C(..), its __init__ may raise -/
theorem make_core {S : SpX} {Ψx : Nat → D → List Sl → Prop} {K : PySem.W.Frag} {B G1 H1 : Hp} {σ : L2.St} {δ1 : List Sl} {rs : List R} {as : List Sl} {vs : List V} {Q : VK} {E : XK} {x dx : Addr} (F1 : Frame K B G1 H1 σ δ1) (rv : RVs K G1 rs vs) (hto : toAs δ1 rs = some as) (nd : (owned as).Nodup)
    (hx : H1 x = none) (hd : H1 dx = none) (hne : dx ≠ x)
    (hS : ∀ (P : R → List Sl → Prop) (Y : Nat → D → Prop), (∀ s r as', OutS x s r → Φ r (backAs δ1 rs as') → P (.d .non) (s :: as')) → (∀ nm y, Ψx nm y δ1 → Y nm y) → S (.own x (.obj C []) :: as) P Y)
    (k : ∀ r δ' v G' H', Φ r δ' → Ex G1 G' → Frame K B G' H' σ δ' → RV K B G' H' δ' r v → Q v H')
    (kx : ∀ nm y (d : Addr) v G' H', Ψx nm y δ1 → Ex G1 G' → Frame K B G' H' σ δ1 → G' d = some (.xd v) → RepF K G' (xfs (cn.fl nm) y) v → E (.ref (cn.ad nm)) (some d) H') :
    liftX K cn S (.ref x :: vs) (upd (upd H1 dx (.own x)) x (.ins C dx [])) (fun v H2 => v = .non ∧ Q (.ref x) H2) E := by
  have F3 := frame_obj (C := C) F1 hx hd hne
  obtain ⟨hlt, hto', nd'⟩ := make_in (C := C) (dx := dx) F1 rv hto nd hx
  have hlen : σ.length = δ1.length := F1.sl.len
  have el : backAs (δ1 ++ [.own x (.obj C [])]) (.bor δ1.length x :: rs) (lose (.own x (.obj C []) :: as)) = δ1 ++ [.no] := by
    show backAs _ _ (.no :: as) = _
    rw [back_more rfl hlt, toAs_back hto]
  refine callX_core (Ψx := fun nm y δ2 => Ψx nm y δ1) (Φ := fun r δ2 => r = .d .non ∧ ∃ s r' δ3, OutS x s r' ∧ δ2 = δ3 ++ [s] ∧ Φ r' δ3) F3 (rs := .bor δ1.length x :: rs) (vs := .ref x :: vs) ⟨.ref x, vs, rfl, rfl, rv⟩ hto' nd'
    (fun P Y hP hY => hS P Y (fun s r as' ho q => hP _ _ trivial ⟨rfl, s, r, _, ho, back_more rfl hlt, q⟩) hY) (fun r δ2 v G' H' q eG F' rv' n => ?_) fun nm y d v G' H' q eG F' h1 h2 => ?_
  · obtain ⟨er, s, r', δ3, ho, ed, q⟩ := q
    subst er ed
    have ev : v = .non := by have z : Rep K G' .non v := rv'; unfold Rep at z; exact z
    have hl : σ.length = δ3.length := by have z := F'.sl.len; simpa using z
    obtain ⟨F4, ow⟩ := frame_less hl F'
    exact ⟨ev, k _ δ3 _ G' H' q eG F4 (ow x r' ho).2⟩
  · rw [el] at F'
    exact kx nm y d v G' H' q eG (frame_less hlen F').1 h1 h2
theorem we_makeX {K : PySem.W.Frag} {S : SpX} (h : WA (cX K cn Ψ Wx) false tr δ fun rs δ1 => ∃ as, toAs δ1 rs = some as ∧ (owned as).Nodup ∧
    ∀ (x : Addr) (P : R → List Sl → Prop) (Y : Nat → D → Prop), (∀ s r as', OutS x s r → Φ r (backAs δ1 rs as') → P (.d .non) (s :: as')) → (∀ nm y, Ψ nm y δ1 → Y nm y) → S (.own x (.obj C []) :: as) P Y) : WE (cX K cn Ψ Wx) false (tMakeS C (liftX K cn S) (L2.WE Wx) tr) δ Φ := by
  intro B G H σ Q F xk k
  refine h B G H σ _ F xk fun rs δ1 vs G1 H1 w e1 F1 rv p1 => ?_
  obtain ⟨as, hto, nd, hS⟩ := w
  intro x dx hx hd hne
  exact make_core (Φ := Φ) F1 rv hto nd hx hd hne (hS x) (fun r δ' v G' H' q eG F' rv' => k r δ' v G' H' q (e1.trans eG) F' rv' fun z => nomatch z)
    fun nm y d v G' H' q eG F' h1 h2 => xk nm y _ σ d v G' H' q (e1.trans eG) F' h1 h2
/-- o.m(..) -/
theorem we_meth {S : SpD} {E : L2.St → XK} (h : WE c false te δ fun r1 δ1 => (∃ fs, view δ1 (frz r1) = some (.obj C fs) ∧ fs.lookup m = none) ∧ WA c false tr δ1 fun rs δ2 => ∃ as, toAs δ2 (frz r1 :: rs) = some as ∧ (owned as).Nodup ∧
    ∀ P : R → List Sl → Prop, (∀ r as', ownOut r → Φ r (backAs δ2 (frz r1 :: rs) as') → P r as') → S as P) : WE c false (tMethS m (lift c.K S) E te C tr) δ Φ := by
  intro B G H σ Q F xk k
  refine h B G H σ _ F xk fun r1 δ1 v1 G1 H1 w1 e1 F1 rv1 p1 => ?_
  obtain ⟨⟨fs, hv, hl⟩, w1⟩ := w1
  obtain ⟨G1', e1', F1', rw1⟩ := rv1.weak F1
  obtain ⟨a, dx, fvs, ev, ha, hr⟩ := view_obj F1' rw1 hv
  refine ⟨a, dx, fvs, ev, ha, repF_none hr hl, ?_⟩
  refine w1 B G1' H1 σ _ F1' (c.mono _ _ _ (e1.trans e1') xk) fun rs δ2 vs G2 H2 w2 e2 F2 rv2 p2 => ?_
  obtain ⟨as, hto, nd, hS⟩ := w2
  exact call_core F2 (rs := frz r1 :: rs) (vs := v1 :: vs) ⟨v1, vs, rfl, rw1.mono e2, rv2⟩ hto nd hS fun r δ' v G' H' q eG F' rv' n => k r δ' v G' H' q ((e1.trans e1').trans (e2.trans eG)) F' rv' fun z => nomatch z
/-! ### o.f = e -/
def putFD (f : Str) (x : D) : List (Str × D) → List (Str × D)
  | [] => [(f, x)]
  | (g, y) :: r => if g = f then (g, x) :: r else (g, y) :: putFD f x r
theorem repF_put {K : PySem.W.Frag} {G : Hp} {f : Str} {x : D} {w : V} (hx : Rep K G x w) : ∀ {fs : List (Str × D)} {vs : List (Str × V)}, RepF K G fs vs → RepF K G (putFD f x fs) (putF f w vs)
  | [], vs, h => by
    unfold RepF at h
    subst h
    unfold putFD putF RepF
    exact ⟨w, [], rfl, hx, by unfold RepF; rfl⟩
  | (g, d) :: fs, vs, h => by
    unfold RepF at h
    obtain ⟨v, vr, e, h1, h2⟩ := h
    subst e
    unfold putFD putF
    by_cases q : g = f
    · rw [if_pos q, if_pos q]
      unfold RepF
      exact ⟨w, vr, rfl, hx, h2⟩
    · rw [if_neg q, if_neg q]
      unfold RepF
      exact ⟨v, _, rfl, h1, repF_put hx h2⟩
theorem w_setF {N Bk Ct : List Sl → Prop} {Rt : R → List Sl → Prop} {f : Str} (h : WE c false tv δ fun r δ1 => ∃ x, frz r = .d x ∧ WE c false te δ1 fun r2 δ2 => ∃ i a C fs, r2 = .bor i a ∧ δ2[i]? = some (.own a (.obj C fs)) ∧ Cls c.K C ∧ NoAttr c.K C f ∧ fs.length < 1000 ∧ ∀ δ3, δ3 = δ2.set i (.own a (.obj C (putFD f x fs))) → N δ3) :
    W c (sFld c.K te tv f) δ N Rt Bk Ct := by
  intro B G H σ D0 F xk hE
  refine h B G H σ _ F xk fun r1 δ1 v1 G1 H1 w1 e1 F1 rv1 p1 => ?_
  obtain ⟨y, hy, w1⟩ := w1
  obtain ⟨G1', e1', F1', rw1⟩ := rv1.weak F1
  rw [hy] at rw1
  refine w1 B G1' H1 σ _ F1' (c.mono _ _ _ (e1.trans e1') xk) fun r2 δ2 v2 G2 H2 w2 e2 F2 rv2 p2 => ?_
  obtain ⟨i, a, C, fs, er, hd, hc, hn, hl, w2⟩ := w2
  subst er
  obtain ⟨ev, _⟩ := rv2
  subst ev
  obtain ⟨ov, _, _, dx, fvs, ha, hr⟩ := F2.get hd
  have hv : Rep c.K G2 y v1 := Rep.mono e2 (show Rep c.K G1' y v1 from rw1)
  exact ⟨a, C, dx, fvs, rfl, ha, hc, hn, by rw [repF_len hr]; exact hl, hE.nx _ _ G2 _ (w2 _ rfl) ((e1.trans e1').trans e2) (frame_mut F2 hd ⟨dx, _, upd_same, repF_put hv hr⟩)⟩
end
end DL

/-! DL24: what the text's end leans on for own classes. -/
namespace DL
open PySem PySem.Spec PyProof.Rows L2
theorem passLA {X : Cx} (σ : L2.St) : PassesAt (L2.CX X.prog X.w) X σ E0 := fun pins H s e s' I c => passL pins σ H s e s' I c
/-- a class's method -/
structure MethOk (K : PySem.W.Frag) (C : Addr) (m qual : Str) (st : Stmt) (ps : List Str) (a : Addr) (fd : FuncData) : Prop where
  fn : Fun K m qual st a fd
  b : Binds K fd ps []
  m : Meth K C m a
end DL

/-! DL25: dicts that are walked (locked meanwhile), a slot's own lent as data, list(d.values()), max of a list. -/
namespace DL
open PySem PySem.Spec PyProof.Rows L2
open Evl (Ex)
/-! ### a dict locked, unlocked: what is read stays -/
/-- a dict's content -/
def Dky (u : HO) : Prop := (∃ kvs, u = .dK kvs) ∨ ∃ kvs, u = .dT kvs
/-- the same but for a dict that is locked or unlocked -/
def LE (G G' : Hp) : Prop := ∀ b o, G b = some o → G' b = some o ∨ ∃ u, Dky u ∧ Rd G b u ∧ Rd G' b u
section
variable {K : PySem.W.Frag} {G G' : Hp}
theorem LE.of (e : Ex G G') : LE G G' := fun b o h => .inl (e b o h)
theorem Dky.frz {o : Obj} {u : HO} (h : Dky (.frz o u)) : False := by rcases h with ⟨_, e⟩ | ⟨_, e⟩ <;> cases e
theorem LE.rd (e : LE G G') {a : Addr} {u : HO} (hu : ∀ o w, u ≠ .frz o w) (h : Rd G a u) : Rd G' a u := by
  rcases h with h | ⟨o, h⟩
  · rcases e a _ h with q | ⟨w, d, q1, q2⟩
    · exact .inl q
    · rcases q1 with q1 | ⟨o', q1⟩
      · rw [h] at q1; cases q1; exact q2
      · rw [h] at q1
        cases q1
        exact absurd rfl (hu _ _)
  · rcases e a _ h with q | ⟨w, d, q1, q2⟩
    · exact .inr ⟨o, q⟩
    · rcases q1 with q1 | ⟨o', q1⟩
      · rw [h] at q1; cases q1; exact d.frz.elim
      · rw [h] at q1; cases q1; exact q2
theorem LE.l (e : LE G G') {a : Addr} {xs : List V} (h : SqL K G a xs) : SqL K G' a xs := by
  rcases h with h | h
  · exact .inl (e.rd (fun _ _ z => nomatch z) h)
  · exact .inr h
theorem LE.t (e : LE G G') {a : Addr} {xs : List V} (h : SqT K G a xs) : SqT K G' a xs := by
  rcases h with h | h
  · exact .inl (e.rd (fun _ _ z => nomatch z) h)
  · exact .inr h
mutual
theorem Rep.le (e : LE G G') : ∀ {d : D} {v : V}, Rep K G d v → Rep K G' d v
  | .non, _, h => h
  | .bl _, _, h => h
  | .int _, _, h => h
  | .str _, _, h => h
  | .ty _, _, h => h
  | .ptr _, _, h => h
  | .lst ds, v, h => by
    unfold Rep at h ⊢
    obtain ⟨a, xs, e1, h1, h2⟩ := h
    refine ⟨a, xs, e1, ?_, Reps.le e h2⟩
    rcases e a _ h1 with q | ⟨w, d, q1, q2⟩
    · exact q
    · rcases q1 with q1 | ⟨o', q1⟩
      · rw [h1] at q1; cases q1; rcases d with ⟨_, z⟩ | ⟨_, z⟩ <;> cases z
      · rw [h1] at q1; cases q1
  | .ro ds, v, h => by
    unfold Rep at h ⊢
    obtain ⟨a, xs, e1, h1, h2⟩ := h
    exact ⟨a, xs, e1, e.l h1, Reps.le e h2⟩
  | .tup ds, v, h => by
    unfold Rep at h ⊢
    obtain ⟨a, xs, e1, h1, h2⟩ := h
    refine ⟨a, xs, e1, ?_, Reps.le e h2⟩
    rcases e a _ h1 with q | ⟨w, d, q1, q2⟩
    · exact q
    · rcases q1 with q1 | ⟨o', q1⟩
      · rw [h1] at q1; cases q1; rcases d with ⟨_, z⟩ | ⟨_, z⟩ <;> cases z
      · rw [h1] at q1; cases q1
  | .dct ds, v, h => by
    unfold Rep at h ⊢
    obtain ⟨a, xs, e1, h1, h2⟩ := h
    exact ⟨a, xs, e1, e.rd (fun _ _ z => nomatch z) h1, RepK.le e h2⟩
  | .dcT ds, v, h => by
    unfold Rep at h ⊢
    obtain ⟨a, xs, e1, h1, h2⟩ := h
    exact ⟨a, xs, e1, e.rd (fun _ _ z => nomatch z) h1, RepT.le e h2⟩
  | .obj C fs, v, h => by
    unfold Rep at h ⊢
    obtain ⟨a, dx, xs, e1, h1, h2⟩ := h
    refine ⟨a, dx, xs, e1, ?_, RepF.le e h2⟩
    rcases e a _ h1 with q | ⟨w, d, q1, q2⟩
    · exact q
    · rcases q1 with q1 | ⟨o', q1⟩
      · rw [h1] at q1; cases q1; rcases d with ⟨_, z⟩ | ⟨_, z⟩ <;> cases z
      · rw [h1] at q1; cases q1
theorem Reps.le (e : LE G G') : ∀ {ds : List D} {vs : List V}, Reps K G ds vs → Reps K G' ds vs
  | [], _, h => h
  | d :: ds, vs, h => by
    unfold Reps at h ⊢
    obtain ⟨v, vr, e1, h1, h2⟩ := h
    exact ⟨v, vr, e1, Rep.le e h1, Reps.le e h2⟩
theorem RepK.le (e : LE G G') : ∀ {ds : List (Key × D)} {vs : List (Key × V)}, RepK K G ds vs → RepK K G' ds vs
  | [], _, h => h
  | (k, d) :: ds, vs, h => by
    unfold RepK at h ⊢
    obtain ⟨v, vr, e1, h1, h2⟩ := h
    exact ⟨v, vr, e1, Rep.le e h1, RepK.le e h2⟩
theorem RepT.le (e : LE G G') : ∀ {ds : List (List Key × D)} {vs : List (List Key × V)}, RepT K G ds vs → RepT K G' ds vs
  | [], _, h => h
  | (k, d) :: ds, vs, h => by
    unfold RepT at h ⊢
    obtain ⟨v, vr, e1, h1, h2⟩ := h
    exact ⟨v, vr, e1, Rep.le e h1, RepT.le e h2⟩
theorem RepF.le (e : LE G G') : ∀ {ds : List (Str × D)} {vs : List (Str × V)}, RepF K G ds vs → RepF K G' ds vs
  | [], _, h => h
  | (k, d) :: ds, vs, h => by
    unfold RepF at h ⊢
    obtain ⟨v, vr, e1, h1, h2⟩ := h
    exact ⟨v, vr, e1, Rep.le e h1, RepF.le e h2⟩
end
variable {B H H' : Hp} {σ : St} {δ : List Sl}
theorem OwnR.le {a : Addr} {x : D} (e : LE G G') (h : OwnR K G H a x) (hH : H' a = H a) : OwnR K G' H' a x := by
  cases x with
  | lst ds => obtain ⟨xs, h1, h2⟩ := h; exact ⟨xs, hH.trans h1, h2.le e⟩
  | dct ds => obtain ⟨xs, h1, h2⟩ := h; exact ⟨xs, hH.trans h1, h2.le e⟩
  | dcT ds => obtain ⟨xs, h1, h2⟩ := h; exact ⟨xs, hH.trans h1, h2.le e⟩
  | obj C ds => obtain ⟨dx, xs, h1, h2⟩ := h; exact ⟨dx, xs, hH.trans h1, h2.le e⟩
  | _ => exact h.elim
theorem SlR.le {s : Sl} {ov : Option V} (e : LE G G') (eH : ∀ a ∈ ads s, H' a = H a) (h : SlR K G H s ov) : SlR K G' H' s ov := by
  cases s with
  | no => trivial
  | d x => obtain ⟨v, e1, r⟩ := h; exact ⟨v, e1, r.le e⟩
  | own a x => obtain ⟨e1, r⟩ := h; exact ⟨e1, r.le e (eH a (List.mem_singleton.mpr rfl))⟩
  | deep a x gs => obtain ⟨e1, r, g⟩ := h; exact ⟨e1, r.le e (eH a List.mem_cons_self), fun q hq => (g q hq).le e (eH _ (List.mem_cons_of_mem _ (List.mem_map_of_mem hq)))⟩
theorem SlsR.le : ∀ {δ : List Sl} {σ : St}, LE G G' → (∀ a ∈ owned δ, H' a = H a) → SlsR K G H δ σ → SlsR K G' H' δ σ
  | [], σ, _, _, h => h
  | s :: δ, σ, eG, eH, h => by
    obtain ⟨ov, σr, e, h1, h2⟩ := h
    rw [owned_cons] at eH
    exact ⟨ov, σr, e, h1.le eG fun a ha => eH a (List.mem_append_left _ ha), SlsR.le eG (fun a ha => eH a (List.mem_append_right _ ha)) h2⟩
theorem RV.le {r : R} {v : V} {a : Addr} (e : LE G G') (hH : ∀ b, b ≠ a → H' b = H b) (hG : ∀ b, b ≠ a → G' b = G b) (ha : (G a).isSome = true) (h : RV K B G H δ r v) : RV K B G' H' δ r v := by
  have nb : ∀ b, G b = none → b ≠ a := fun b h3 z => by subst z; rw [h3] at ha; cases ha
  cases r with
  | d x => exact Rep.le e h
  | own b x =>
    obtain ⟨e1, h1, h2, h3, h4⟩ := h
    exact ⟨e1, h1.le e (hH b (nb b h3)), h2, (hG b (nb b h3)).trans h3, h4⟩
  | deep b x gs =>
    obtain ⟨e1, h1, h2, h3, h4⟩ := h
    have nn : ∀ c ∈ b :: gs.map Prod.fst, c ≠ a := fun c hc => nb c (h3 c hc).2.1
    exact ⟨e1, h1.le e (hH b (nn b List.mem_cons_self)), fun q hq => (h2 q hq).le e (hH _ (nn _ (List.mem_cons_of_mem _ (List.mem_map_of_mem hq)))), fun c hc => ⟨(h3 c hc).1, (hG c (nn c hc)).trans (h3 c hc).2.1, (h3 c hc).2.2⟩, h4⟩
  | bor i a => exact h
end
end DL
namespace DL
open PySem PySem.Spec PyProof.Rows L2
open Evl (Ex)
/-- the statement, a dict locked meanwhile or no more to be locked -/
def tLk (t : TS) : TS := fun D σ H => tLock t D σ H ∨ t D σ H
def tLkE (t : TE) : TE := fun σ H Q => tLockE t σ H Q ∨ t σ H Q
/-- where a dict is locked -/
abbrev cL (K : PySem.W.Frag) (a : Addr) (u : HO) : Cd := ⟨K, fun _ G => G a = some u, fun _ _ _ e h => e a u h⟩
def dItems (kds : List (Key × D)) : List D := kds.map fun q => D.tup [keyD q.1, q.2]
def dValues (kds : List (Key × D)) : List D := kds.map Prod.snd
def dKeys (kds : List (Key × D)) : List D := kds.map fun q => keyD q.1
section
variable {K : PySem.W.Frag} {δ : List Sl} {i : Nat} {a : Addr} {o : Obj} {kds : List (Key × D)} {kvs : List (Key × V)} {p : Bool}
/-- an address's slot, its dict locked -/
structure VarL (K : PySem.W.Frag) (G : Hp) (σ : St) (i : Nat) (a : Addr) (o : Obj) (kvs : List (Key × V)) (kds : List (Key × D)) : Prop where
  s : σ[i]? = some (some (.ref a))
  g : G a = some (.frz o (.dK kvs))
  r : RepK K G kds kvs
abbrev cV (K : PySem.W.Frag) (a : Addr) (o : Obj) (kvs : List (Key × V)) (kds : List (Key × D)) : Cd := ⟨K, fun _ G => G a = some (.frz o (.dK kvs)) ∧ RepK K G kds kvs, fun _ _ _ e h => ⟨e a _ h.1, h.2.mono e⟩⟩
/-- WI at one state -/
def WIat (c : Cd) (p : Bool) (wi : TI) (δ : List Sl) (B G H : Hp) (σ : St) (ds : List D) : Prop :=
  ∀ (R : It → Hp → Prop), (∀ J G' H', Ex G G' → Frame c.K B G' H' σ δ → (p = true → Ex H H') → (∃ Gd Y, Walk J ds.length Gd Y ∧ (∀ H2, Ex G' H2 → Gd H2) ∧ Yl c.K G' ds Y) → R J H') → wi σ H R
end
end DL

namespace DL
open PySem PySem.Spec PyProof.Rows L2
open Evl (Ex)
/-- a walk at states where the i-th name stands for a -/
def wiAt (i : Nat) (a : Addr) (wi : TI) : TI := fun σ H R => σ[i]? = some (some (.ref a)) → wi σ H R
section
variable {K : PySem.W.Frag} {δ : List Sl} {i : Nat} {kds : List (Key × D)} {wi : TI} {g : TG} {t : TS} {tt : TT} {te : TE} {ds : List D} {E : En} {vs : List Nat}
abbrev WalkL (K : PySem.W.Frag) (wi : TI) (i : Nat) (δ : List Sl) (kds : List (Key × D)) (ds : List D) : Prop := ∀ (a : Addr) (o : Obj) (kvs : List (Key × V)) (B G H : Hp) (σ : St), Frame K B G H σ δ → VarL K G σ i a o kvs kds → WIat (c0 K) true wi δ B G H σ ds
/-! ### list(d.values()) -/
def tListVals (td : TE) : TE := fun σ H Q => td σ H fun x H1 => ∃ a kvs, x = V.ref a ∧ Rd H1 a (.dK kvs) ∧ ∀ l, H1 l = none → Q (.ref l) (upd H1 l (.lst (kvs.map Prod.snd)))
variable {X : Cx} {e : Expr} {p apos cpos pos : Pos}
/-! ### max of a list -/
def intsD : List D → Option (List Int)
  | [] => some []
  | .int i :: r => (intsD r).map (i :: ·)
  | _ :: _ => none
end
end DL

/-! DL26: more closers. -/
namespace DL
open PySem PySem.Spec PyProof.Rows L2
section
variable {x y : D} {b : Bool} {n T : String}
theorem ex_isiB {P : Bool → Prop} (h2 : isiB x y = some b) (q : P b) : ∃ x' y', [x, y] = [x', y'] ∧ ∃ b, isiB x' y' = some b ∧ P b := ⟨x, y, rfl, b, h2, q⟩
theorem isiB_ty (h : tyD x = some T) (h2 : kitB T n = some b) : isiB x (.ty n) = some b := by
  show ((tyD x).bind fun a => kitB a n) = some b
  rw [h]
  exact h2
end
theorem isi2_lst {xs : List D} : isiB (.lst xs) (.tup [.ty "list", .ty "tuple"]) = some true := by
  show kitAnyB "list" ["list", "tuple"] = some true
  decide +kernel
theorem isi2_tup {xs : List D} : isiB (.tup xs) (.tup [.ty "list", .ty "tuple"]) = some true := by
  show kitAnyB "tuple" ["list", "tuple"] = some true
  decide +kernel
theorem isi_tup {xs : List D} : isiB (.tup xs) (.ty "tuple") = some true := isiB_ty rfl (by decide +kernel)
theorem isi_st {z : Str} : isiB (.str z) (.ty "str") = some true := isiB_ty rfl (by decide +kernel)
section
variable {k : R → Prop} {kds : List (Key × D)} {z : Str} {v : D}
end
section
variable {K : PySem.W.Frag} {ε : List Sl} {vs : List Nat} {g1 g2 g3 : TG} {x y z : D} {Φ : List Sl → Prop}
theorem wgc_s2 (h : WGc g1 K x ε vs fun ε1 => WGc g2 K y ε1 vs Φ) : WGc (gSeq K 2 (gCons g1 (gCons g2 gNil))) K (.tup [x, y]) ε vs Φ := fun B G H σ v Q F r k =>
  .inl (wgc_tup rfl (wgcs_cons (fun B G H σ v Q F r k => h B G H σ v Q F r fun ε1 σ1 w => k ε1 σ1 (wgcs_cons (fun B G H σ v Q F r k => w B G H σ v Q F r fun ε2 σ2 w2 => k ε2 σ2 (wgcs_nil w2))))) B G H σ v Q F r k)
theorem wgc_s3 (h : WGc g1 K x ε vs fun ε1 => WGc g2 K y ε1 vs fun ε2 => WGc g3 K z ε2 vs Φ) : WGc (gSeq K 3 (gCons g1 (gCons g2 (gCons g3 gNil)))) K (.tup [x, y, z]) ε vs Φ := fun B G H σ v Q F r k =>
  .inl (wgc_tup rfl (wgcs_cons (fun B G H σ v Q F r k => h B G H σ v Q F r fun ε1 σ1 w => k ε1 σ1 (wgcs_cons (fun B G H σ v Q F r k => w B G H σ v Q F r fun ε2 σ2 w2 => k ε2 σ2 (wgcs_cons (fun B G H σ v Q F r k => w2 B G H σ v Q F r fun ε3 σ3 w3 => k ε3 σ3 (wgcs_nil w3))))))) B G H σ v Q F r k)
end
section
variable {K : PySem.W.Frag} {δ : List Sl} {r : R} {C : Addr} {fs : List (Str × D)} {x : D} {f : Str} {P : D → Prop}
theorem ex_fld (h1 : view δ r = some (.obj C fs)) (hc : Cls K C) (hn : NoAttr K C f) (hl : fs.lookup f = some x) (q : P x) : ∃ C fs x, view δ r = some (.obj C fs) ∧ Cls K C ∧ NoAttr K C f ∧ fs.lookup f = some x ∧ P x := ⟨C, fs, x, h1, hc, hn, hl, q⟩
end
end DL

/-! DL27: objects that are reached through others: a slot's own and what stands behind it. -/
namespace DL
open PySem PySem.Spec PyProof.Rows L2
open Evl (Ex)
section
variable {K : PySem.W.Frag} {B G G' H H' : Hp} {σ : St} {δ : List Sl}
def setG (gs : List (Addr × D)) (b : Addr) (y : D) : List (Addr × D) := gs.map fun q => if q.1 = b then (b, y) else q
/-- the slots, an object's content told otherwise -/
def upV (δ : List Sl) (i : Nat) (a : Addr) (y : D) : List Sl := match δ[i]? with
  | some (.own b _) => δ.set i (.own b y)
  | some (.deep b x gs) => if a = b then δ.set i (.deep b y gs) else δ.set i (.deep b x (setG gs a y))
  | _ => δ
/-- what stands at the i-th slot's address a -/
def At (δ : List Sl) (i : Nat) (a : Addr) (x : D) : Prop := view δ (.bor i a) = some x
end
/-! ### what a slot with objects behind it tells as data -/
def All2 {α β : Type} (R : α → β → Prop) : List α → List β → Prop
  | [], [] => True
  | x :: xs, y :: ys => R x y ∧ All2 R xs ys
  | _, _ => False
def ResC (R : D → D → Prop) : D → D → Prop
  | .lst ds, .lst zs => All2 R ds zs
  | .dct ds, .dct zs => All2 (fun p q => p.1 = q.1 ∧ R p.2 q.2) ds zs
  | .dcT ds, .dcT zs => All2 (fun p q => p.1 = q.1 ∧ R p.2 q.2) ds zs
  | .obj C fs, .obj C' zs => C = C' ∧ All2 (fun p q => p.1 = q.1 ∧ R p.2 q.2) fs zs
  | _, _ => False
def Res (gs : List (Addr × D)) : Nat → D → D → Prop
  | 0, d, z => d = z
  | n + 1, d, z => d = z ∨ ∃ b y, d = .ptr b ∧ gs.lookup b = some y ∧ ResC (Res gs n) y z
/-- a slot tells z -/
def Tells : Sl → D → Prop
  | .own _ x, z => x = z
  | .deep _ x gs, z => ∃ n, ResC (Res gs n) x z
  | _, _ => False
section
variable {K : PySem.W.Frag} {B G G' H H' : Hp} {σ : St} {δ : List Sl}
end
/-! ### scalars, and tuples of such: they hold nothing that changes -/
mutual
def tsc : D → Prop
  | .non => True
  | .bl _ => True
  | .int _ => True
  | .str _ => True
  | .ty _ => True
  | .tup xs => tscs xs
  | _ => False
def tscs : List D → Prop
  | [] => True
  | x :: xs => tsc x ∧ tscs xs
end
mutual
theorem tsc_rep {K : PySem.W.Frag} {G G' : Hp} (hT : ∀ b xs, G b = some (.tup xs) → G' b = some (.tup xs)) : ∀ (x : D) (v : V), tsc x → Rep K G x v → Rep K G' x v
  | .non, v, _, h => by unfold Rep at h ⊢; exact h
  | .bl _, v, _, h => by unfold Rep at h ⊢; exact h
  | .int _, v, _, h => by unfold Rep at h ⊢; exact h
  | .str _, v, _, h => by unfold Rep at h ⊢; exact h
  | .ty _, v, _, h => by unfold Rep at h ⊢; exact h
  | .tup xs, v, t, h => by
    unfold Rep at h ⊢
    obtain ⟨a, vs, e, h1, h2⟩ := h
    exact ⟨a, vs, e, hT a vs h1, tscs_rep hT xs vs (by unfold tsc at t; exact t) h2⟩
  | .ptr _, v, t, _ => by unfold tsc at t; exact t.elim
  | .lst _, v, t, _ => by unfold tsc at t; exact t.elim
  | .ro _, v, t, _ => by unfold tsc at t; exact t.elim
  | .dct _, v, t, _ => by unfold tsc at t; exact t.elim
  | .dcT _, v, t, _ => by unfold tsc at t; exact t.elim
  | .obj _ _, v, t, _ => by unfold tsc at t; exact t.elim
theorem tscs_rep {K : PySem.W.Frag} {G G' : Hp} (hT : ∀ b xs, G b = some (.tup xs) → G' b = some (.tup xs)) : ∀ (xs : List D) (vs : List V), tscs xs → Reps K G xs vs → Reps K G' xs vs
  | [], vs, _, h => by unfold Reps at h ⊢; exact h
  | x :: xs, vs, t, h => by
    unfold tscs at t
    unfold Reps at h ⊢
    obtain ⟨v, vr, e, h1, h2⟩ := h
    exact ⟨v, vr, e, tsc_rep hT x v t.1 h1, tscs_rep hT xs vr t.2 h2⟩
end
def tscK {α : Type} : List (α × D) → Prop
  | [] => True
  | p :: ps => tsc p.2 ∧ tscK ps
/-- a new object whose things are such -/
def tscO : D → Prop
  | .lst xs => tscs xs
  | .dct ks => tscK ks
  | .dcT ks => tscK ks
  | _ => False
/-- what may be handed on where a slot was lent -/
def Free : R → Prop
  | .d x => tsc x
  | .own _ x => tscO x
  | _ => False
section
variable {K : PySem.W.Frag} {B G G1 G' H H' : Hp} {σ : St} {δ : List Sl}
end
section
variable {c : Cd} {p : Bool} {δ : List Sl} {te : TE} {tt : TT} {t : TS} {tr : TA} {Φ : R → List Sl → Prop} {N Bk Ct : List Sl → Prop} {Rt : R → List Sl → Prop}
end
end DL

/-! DL28: dicts whose keys are tuples; sorted. -/
namespace DL
open PySem PySem.Spec PyProof.Rows L2
open Evl (Ex)
/-! ### sorted(d), d's keys pairs of ints -/
def pk (p : Int × Int) : List Key := [.inl p.1, .inl p.2]
def pairAt (H : Hp) : V → Int × Int
  | .ref a => match H a with
    | some (.tup [.int i, .int j]) => (i, j)
    | _ => (0, 0)
  | _ => (0, 0)
theorem pairAt_of {H : Hp} {a : Addr} {i j : Int} (h : H a = some (.tup [.int i, .int j])) : pairAt H (.ref a) = (i, j) := by
  show (match H a with
    | some (.tup [.int i, .int j]) => (i, j)
    | _ => (0, 0)) = _
  rw [h]
/-- first by the first, then by the second -/
def lexP (p q : Int × Int) : Prop := p.1 < q.1 ∨ (p.1 = q.1 ∧ p.2 ≤ q.2)
def rSortedDT : List V → Hp → VK → Prop := fun vs H Q => ∃ (d : Addr) (kvs : List (List Key × V)) (ps : List (Int × Int)), vs = [V.ref d] ∧ Rd H d (.dT kvs) ∧ kvs.map (·.1) = ps.map pk ∧
  ∀ (zs : List (Addr × Int × Int)) (p : Addr), (zs.map (·.2)).Perm ps → (zs.map (·.2)).Pairwise lexP → (∀ z ∈ zs, H z.1 = some (.tup [.int z.2.1, .int z.2.2])) → H p = none → Q (.ref p) (upd H p (.lst (zs.map fun z => V.ref z.1)))
theorem kt_get {H : Hp} : ∀ {kvs : List (List Key × V)} {xs : List (List Key × Addr × Value)} {ps : List (Int × Int)}, KT H kvs xs → kvs.map (·.1) = ps.map pk → ∀ x ∈ xs, ∃ p : Int × Int, H x.2.1 = some (.tup [.int p.1, .int p.2])
  | _, _, ps, .nil, _, x, hx => by cases hx
  | _, _, [], .cons _ _, e, x, hx => by simp at e
  | _, _, p :: ps, .cons (a := kv) (b := y) h t, e, x, hx => by
    rw [List.map_cons, List.map_cons] at e
    have e1 := (List.cons.inj e).1
    have e2 := (List.cons.inj e).2
    rcases List.mem_cons.mp hx with q | q
    · subst q
      refine ⟨p, ?_⟩
      rw [h.2.1, e1]
      rfl
    · exact kt_get t e2 x q
theorem kt_pairs {H : Hp} : ∀ {kvs : List (List Key × V)} {xs : List (List Key × Addr × Value)} {ps : List (Int × Int)}, KT H kvs xs → kvs.map (·.1) = ps.map pk → (xs.map fun x => pairAt H (.ref x.2.1)) = ps
  | _, _, [], .nil, _ => rfl
  | _, _, _ :: _, .nil, e => by simp at e
  | _, _, [], .cons _ _, e => by simp at e
  | _, _, p :: ps, .cons (a := kv) (b := y) h t, e => by
    rw [List.map_cons, List.map_cons] at e
    have e1 := (List.cons.inj e).1
    have e2 := (List.cons.inj e).2
    rw [List.map_cons, kt_pairs t e2]
    congr 1
    have e3 : H y.2.1 = some (.tup [.int p.1, .int p.2]) := by rw [h.2.1, e1]; rfl
    exact pairAt_of e3
theorem cr_sortedDT {X : Cx} (hc : X.calm = true) : CallR X (.builtin "sorted") rSortedDT := by
  intro pins s σ H vs us Q I r h
  obtain ⟨d, kvs, ps, rfl, hd, hk, q⟩ := h
  obtain ⟨u, rfl, rx⟩ := vals1 r
  cases rx
  obtain ⟨z, hs, ks, pr, o, es, ep, ho, hx, hdt, he, hn⟩ := (show ObjOk X.prog X.w H s.heap d (.dT kvs) from hd.ok I.hok)
  have l1 : es.size = ks.length := size_of_entries he
  have l2 : kvs.length = ks.length := Paired.length pr
  refine Calls.call_function_entry PyProof.Rows.kind_sorted PyProof.Rows.plain_sorted PyProof.Rows.entry_sorted (PyProof.Rows.args_sorted1 _) ?_
  unfold Builtin.«sorted»
  refine wpAny_bind (m := checkCount "sorted" 1 1 _) (wpAny_pure ?_)
  refine wpAny_bind (PySem.W.kdu_collect (A := X.A.in1) (kdl_raw hs hx hdt) (I.ok.hd hc) ho (by omega) fun h' tk acc hkp it => ?_)
  have ea : acc.toList = ks.map fun x => Value.ref x.2.1 := by
    have hl : acc.toList.length = ks.length := by rw [Array.length_toList, it.1]; exact l1
    apply List.ext_getElem?
    intro j
    rw [List.getElem?_map]
    cases hj : acc.toList[j]? with
    | none =>
      have h1 := List.getElem?_eq_none_iff.mp hj
      rw [List.getElem?_eq_none (by omega)]
      all_goals rfl
    | some v =>
      obtain ⟨en, hen, hv⟩ := it.2 j v (by rw [← Array.getElem?_toList]; exact hj)
      have qe := entry_at he j
      rw [hen] at qe
      cases hb : ks[j]? with
      | none =>
        rw [hb] at qe
        exact nomatch (show some en = none from qe)
      | some b =>
        rw [hb] at qe
        have e2 : en = entryOfKey (tupleKind (mixKind X.prog X.w)) b := Option.some.inj qe
        rw [hv, e2]
        all_goals rfl
  have hlen : acc.toList.length ≤ sizeLine := by rw [ea, List.length_map, ← l2]; exact z
  have I1 : Inv X pins σ H { s with heap := h', toks := tk } := I.kept hkp
  refine wpAny_bind (wpAny_newList ?_ hlen)
  have hoL : (h'.push (seqObj "list" acc.toList.toArray 0)).get? h'.objs.size = some (seqObj "list" acc.toList.toArray 0) := Heap.get?_push_size _ rfl
  show wpAny _ _ _ _ _ { s with heap := h'.push (seqObj "list" acc.toList.toArray 0), toks := tk }
  have isP : ∀ v ∈ acc.toList, ∃ t i j, v = Value.ref t ∧ H t = some (.tup [.int i, .int j]) ∧ pairAt H (.ref t) = (i, j) := fun v hv => by
    rw [ea] at hv
    obtain ⟨x, hx, rfl⟩ := List.mem_map.mp hv
    obtain ⟨p, hp⟩ := kt_get pr hk x hx
    exact ⟨_, p.1, p.2, rfl, hp, pairAt_of hp⟩
  have hp : ∀ v ∈ acc.toList, Srt.IsPair (h'.push (seqObj "list" acc.toList.toArray 0)) v (pairAt H (backV v)).1 (pairAt H (backV v)).2 := fun v hv => by
    obtain ⟨t, i, j, rfl, ht, hpa⟩ := isP v hv
    obtain ⟨_, its2, r2, o2, ho2, hc2, n2, hd2⟩ := I1.hok _ _ ht
    obtain ⟨u1, u2, rfl, ri, rj⟩ := vals2 r2
    obtain ⟨t1, rfl⟩ := ri
    obtain ⟨t2, rfl⟩ := rj
    show Srt.IsPair _ _ (pairAt H (.ref t)).1 (pairAt H (.ref t)).2
    rw [hpa]
    exact ⟨t, o2, t1, t2, n2, rfl, Heap.get?_push_of_some _ ho2, hc2, hd2⟩
  refine wpAny_bind (wpAny_holding (wpAny_call_entry PyProof.Rows.slot_list_sort ⟨_, hoL, rfl⟩ PyProof.Rows.entry_list_sort
    (SrtO.list_sort_ord (s := { s with heap := h'.push (seqObj "list" acc.toList.toArray 0), toks := tk }) (SrtO.swo_lex fun u => pairAt H (backV u)) hoL hlen (fun h2 => SrtO.pairs_sortableO (by omega) hp fun o e => ?_) fun out h1 h2 => ⟨_, rfl, ?_⟩) (PyProof.Rows.args_list_sort _)))
  · have e' : some o = some (seqObj "list" acc.toList.toArray 0) := e.symm.trans hoL
    cases e'
    intro c
    exact absurd (Value.type.inj c) (by decide)
  · have h3 : ∀ u ∈ out, ∃ t i j, u = Value.ref t ∧ H t = some (.tup [.int i, .int j]) ∧ pairAt H (.ref t) = (i, j) := fun u hu => isP u (h2.perm.mem_iff.mp hu)
    obtain ⟨e', he'⟩ := PyProof.Rows.sortedHeap_at (vs := acc.toList) (out := out.toArray) hoL
    -- the addresses and their pairs
    have lift : ∀ l : List Value, (∀ u ∈ l, ∃ t i j, u = Value.ref t ∧ H t = some (.tup [.int i, .int j]) ∧ pairAt H (.ref t) = (i, j)) → ∃ zs : List (Addr × Int × Int), l = zs.map (fun z => Value.ref z.1) ∧ (∀ z ∈ zs, H z.1 = some (.tup [.int z.2.1, .int z.2.2])) ∧ l.map (fun u => pairAt H (backV u)) = zs.map (·.2) := by
      intro l
      induction l with
      | nil => intro _; exact ⟨[], rfl, fun z hz => (by cases hz), rfl⟩
      | cons u l ih =>
        intro hl
        obtain ⟨t, i, j, e1, e2, e3⟩ := hl u List.mem_cons_self
        obtain ⟨zs, g1, g2, g3⟩ := ih fun v hv => hl v (List.mem_cons_of_mem _ hv)
        subst e1
        refine ⟨(t, i, j) :: zs, by rw [List.map_cons, ← g1], fun z hz => ?_, ?_⟩
        · rcases List.mem_cons.mp hz with q | q
          · subst q; exact e2
          · exact g2 z q
        · rw [List.map_cons, List.map_cons, g3]
          congr 1
    obtain ⟨zs, z1, z2, z3⟩ := lift out h3
    have hperm : (zs.map (·.2)).Perm ps := by
      rw [← z3, ← kt_pairs pr hk]
      have e := h2.perm.map (fun u => pairAt H (backV u))
      rw [ea, List.map_map] at e
      exact e
    have hsort : (zs.map (·.2)).Pairwise lexP := by
      rw [← z3, List.pairwise_map]
      refine List.Pairwise.imp (fun {x y} h => ?_) h1
      have h' := SrtO.lexB_no.mp h
      unfold lexP
      omega
    have rv : Vals (zs.map fun z => V.ref z.1) out := by
      rw [z1]
      clear z1 z2 z3 hperm hsort
      induction zs with
      | nil => exact .nil
      | cons z zs ih => exact .cons rfl ih
    have hlen2 : (zs.map fun z => V.ref z.1).length ≤ sizeLine := by
      have e := h2.len
      have e2 := congrArg List.length z1
      rw [List.length_map] at e2 ⊢
      omega
    refine wpAny_pure ⟨_, rfl, .ref h'.objs.size, upd H h'.objs.size (.lst (zs.map fun z => V.ref z.1)), I1.laid (t' := tk) (fun b u e => ?_) (Nat.le_refl _)
      (show ObjOk X.prog X.w _ _ _ (.lst (zs.map fun z => V.ref z.1)) from ⟨hlen2, out, e', rv, he'⟩), rfl, q zs _ hperm hsort z2 (I1.hok.fresh (Nat.le_refl _))⟩
    have hb : b < h'.objs.size := Heap.lt_size e
    rw [PyProof.Rows.sortedHeap_old (Nat.ne_of_lt hb) (by rw [size_push']; exact Nat.lt_succ_of_lt hb)]
    exact Heap.get?_push_of_some _ e
/-! ### sorted(a tuple of texts) -/
def rSortedSU (K : PySem.W.Frag) : List V → Hp → VK → Prop := fun vs H Q => ∃ (a : Addr) (xs : List Str), vs = [V.ref a] ∧ SqT K H a (xs.map V.str) ∧ xs.length < 64 ∧
  ∀ (ys : List Str) (p : Addr), ys.Perm xs → PyProof.Rows.sortedS ys = true → H p = none → Q (.ref p) (upd H p (.lst (ys.map V.str)))
theorem cr_sortedSU {X : Cx} : CallR X (.builtin "sorted") (rSortedSU X.K) := by
  intro pins s σ H vs us Q I r h
  obtain ⟨a, xs, rfl, hs, h64, q⟩ := h
  obtain ⟨its, rv, ⟨o, ho, hc, n, hd⟩, _⟩ := I.tuple hs
  rw [Vals.ref1 r]
  have hlen0 := rv.length
  rw [List.length_map] at hlen0
  have hS := rv.strs
  have hz : its.length < 64 := by omega
  have hz2 : its.length ≤ sizeLine := by rw [sizeLine_eq]; omega
  refine Calls.call_function_entry PyProof.Rows.kind_sorted PyProof.Rows.plain_sorted PyProof.Rows.entry_sorted (PyProof.Rows.args_sorted1 _) ?_
  unfold Builtin.«sorted»
  refine wpAny_bind (m := checkCount "sorted" 1 1 _) (wpAny_pure ?_)
  refine wpAny_bind (PySem.wpAny_collect_seq a (.inr rfl) ho hc hd (fun h' hk => ?_) (by simpa using hz2))
  have I1 : Inv X pins σ H { s with heap := h' } := I.kept (t' := s.toks) hk
  refine wpAny_bind (wpAny_newList ?_ (by simpa using hz2))
  have hoL : (h'.push (seqObj "list" its.toArray 0)).get? h'.objs.size = some (seqObj "list" its.toArray 0) := Heap.get?_push_size _ rfl
  show wpAny _ _ _ _ _ { s with heap := h'.push (seqObj "list" its.toArray 0) }
  refine wpAny_bind (wpAny_holding (wpAny_call_entry PyProof.Rows.slot_list_sort ⟨_, hoL, rfl⟩ PyProof.Rows.entry_list_sort
    (PyProof.Rows.list_sort_treeK PyProof.Rows.strKind_oneLt hoL hS.keysOf (fun v₁ v₂ rest e => PyProof.Rows.keyKind_strs (by rw [← e]; exact hS)) hz fun st' a1 a2 => ⟨_, rfl, ?_⟩) (PyProof.Rows.args_list_sort _)))
  obtain ⟨ys, h1, h2, h3⟩ := PyProof.Rows.sorted_out_str hS a1 a2
  obtain ⟨e', he'⟩ := PyProof.Rows.sortedHeap_at (vs := its) (out := (PyProof.Rows.arrOf st').map (·.2)) hoL
  have hlen : (ys.map V.str).length ≤ sizeLine := by rw [List.length_map, h2.length_eq, sizeLine_eq]; omega
  refine wpAny_pure ⟨_, rfl, .ref h'.objs.size, upd H h'.objs.size (.lst (ys.map V.str)), I1.laid (t' := s.toks) (fun b u e => ?_) (Nat.le_refl _)
    (show ObjOk X.prog X.w _ _ _ (.lst (ys.map V.str)) from ⟨hlen, _, e', vals_of_strs h1, he'⟩), rfl, q ys _ h2 h3 (I1.hok.fresh (Nat.le_refl _))⟩
  have hb : b < h'.objs.size := Heap.lt_size e
  rw [PyProof.Rows.sortedHeap_old (Nat.ne_of_lt hb) (by rw [size_push']; exact Nat.lt_succ_of_lt hb)]
  exact Heap.get?_push_of_some _ e
end DL

/-! DL29: words of dicts with tuple keys; get, len, sorted, extend, sum, min. -/
namespace DL
open PySem PySem.Spec PyProof.Rows L2
open Evl (Ex)
def putT (kvs : List (List Key × D)) (k : List Key) (v : D) : List (List Key × D) :=
  if (kvs.any fun kv => decide (kv.1 = k)) = true then kvs.map (fun kv => if kv.1 = k then (kv.1, v) else kv) else kvs ++ [(k, v)]
def getT (kvs : List (List Key × D)) (k : List Key) : Option D := (kvs.find? fun kv => decide (kv.1 = k)).map (·.2)
theorem repT_any {K : PySem.W.Frag} {G : Hp} (k : List Key) : ∀ {ds : List (List Key × D)} {vs : List (List Key × V)}, RepT K G ds vs → (ds.any fun kv => decide (kv.1 = k)) = (vs.any fun kv => decide (kv.1 = k))
  | [], vs, h => by unfold RepT at h; subst h; rfl
  | (k', d) :: ds, vs, h => by
    unfold RepT at h
    obtain ⟨v, vr, e, h1, h2⟩ := h
    subst e
    rw [List.any_cons, List.any_cons, repT_any k h2]
theorem repT_map {K : PySem.W.Frag} {G : Hp} {k : List Key} {x : D} {w : V} (hx : Rep K G x w) : ∀ {ds : List (List Key × D)} {vs : List (List Key × V)}, RepT K G ds vs →
    RepT K G (ds.map (fun kv => if kv.1 = k then (kv.1, x) else kv)) (vs.map (fun kv => if kv.1 = k then (kv.1, w) else kv))
  | [], vs, h => by unfold RepT at h; subst h; unfold RepT; rfl
  | (k', d) :: ds, vs, h => by
    unfold RepT at h
    obtain ⟨v, vr, e, h1, h2⟩ := h
    subst e
    have ih := repT_map (k := k) hx h2
    rw [List.map_cons, List.map_cons]
    by_cases q : k' = k
    · simp only [if_pos q]
      unfold RepT
      exact ⟨w, _, rfl, hx, ih⟩
    · simp only [if_neg q]
      unfold RepT
      exact ⟨v, _, rfl, h1, ih⟩
theorem repT_app {K : PySem.W.Frag} {G : Hp} {k : List Key} {x : D} {w : V} (hx : Rep K G x w) : ∀ {ds : List (List Key × D)} {vs : List (List Key × V)}, RepT K G ds vs → RepT K G (ds ++ [(k, x)]) (vs ++ [(k, w)])
  | [], vs, h => by
    unfold RepT at h
    subst h
    show RepT K G [(k, x)] [(k, w)]
    unfold RepT
    exact ⟨w, [], rfl, hx, by unfold RepT; rfl⟩
  | (k', d) :: ds, vs, h => by
    unfold RepT at h
    obtain ⟨v, vr, e, h1, h2⟩ := h
    subst e
    show RepT K G ((k', d) :: (ds ++ [(k, x)])) ((k', v) :: (vr ++ [(k, w)]))
    unfold RepT
    exact ⟨v, _, rfl, h1, repT_app hx h2⟩
theorem repT_put {K : PySem.W.Frag} {G : Hp} {k : List Key} {x : D} {w : V} {ds : List (List Key × D)} {vs : List (List Key × V)} (h : RepT K G ds vs) (hx : Rep K G x w) : RepT K G (putT ds k x) (putK vs k w) := by
  unfold putT putK
  rw [repT_any k h]
  split
  · exact repT_map hx h
  · exact repT_app hx h
theorem repT_val {K : PySem.W.Frag} {G : Hp} {k : List Key} : ∀ {ds : List (List Key × D)} {vs : List (List Key × V)}, RepT K G ds vs → (getT ds k = none ∧ valV vs k = none) ∨ ∃ x v, getT ds k = some x ∧ valV vs k = some v ∧ Rep K G x v
  | [], vs, h => by unfold RepT at h; subst h; exact .inl ⟨rfl, rfl⟩
  | (k', d) :: ds, vs, h => by
    unfold RepT at h
    obtain ⟨v, vr, e, h1, h2⟩ := h
    subst e
    by_cases q : k' = k
    · refine .inr ⟨d, v, by simp [getT, q], by simp [valV, q], h1⟩
    · have ih := repT_val (k := k) h2
      have e1 : getT ((k', d) :: ds) k = getT ds k := by simp [getT, q]
      have e2 : valV ((k', v) :: vr) k = valV vr k := by simp [valV, q]
      rw [e1, e2]
      exact ih
theorem repT_len {K : PySem.W.Frag} {G : Hp} : ∀ {ds : List (List Key × D)} {vs : List (List Key × V)}, RepT K G ds vs → vs.length = ds.length
  | [], vs, h => by unfold RepT at h; subst h; rfl
  | (k', d) :: ds, vs, h => by
    unfold RepT at h
    obtain ⟨v, vr, e, h1, h2⟩ := h
    subst e
    simp [repT_len h2]

def keysL : List D → Option (List Key)
  | [] => some []
  | x :: xs => match dKey x with
    | some k => (keysL xs).map (k :: ·)
    | none => none
/-- a tuple as a key -/
def dKeyT : D → Option (List Key)
  | .tup xs => keysL xs
  | _ => none
theorem keysL_rep {K : PySem.W.Frag} {G : Hp} : ∀ {xs : List D} {ks : List Key} {vs : List V}, keysL xs = some ks → Reps K G xs vs → vs = ks.map kV
  | [], ks, vs, e, h => by cases e; unfold Reps at h; subst h; rfl
  | x :: xs, ks, vs, e, h => by
    unfold Reps at h
    obtain ⟨v, vr, e1, h1, h2⟩ := h
    subst e1
    unfold keysL at e
    cases q : dKey x with
    | none => rw [q] at e; cases e
    | some k =>
      rw [q] at e
      cases q2 : keysL xs with
      | none => rw [q2] at e; cases e
      | some kr =>
        rw [q2] at e
        cases e
        rw [List.map_cons, ← keysL_rep q2 h2, dKey_rep q h1]
theorem dKeyT_view {K : PySem.W.Frag} {B G H : Hp} {σ : St} {δ : List Sl} {r : R} {v : V} {x : D} {k : List Key} (F : Frame K B G H σ δ) (h : RW K G r v) (e : view δ r = some x) (hk : dKeyT x = some k) : ∃ b, v = .ref b ∧ H b = some (.tup (k.map kV)) := by
  cases x with
  | tup xs =>
    obtain ⟨a, vs, e1, h1, h2⟩ := view_tupH F h e
    have e2 := keysL_rep (show keysL xs = some k from hk) h2
    subst e2
    exact ⟨a, e1, h1⟩
  | _ => cases hk
section
variable {c : Cd}
theorem view_getT {B G H : Hp} {σ : St} {δ : List Sl} {r1 r2 : R} {v1 v2 : V} {x : D} {kds : List (List Key × D)} {key : List Key} (F : Frame c.K B G H σ δ) (h1 : RW c.K G r1 v1) (h2 : RW c.K G r2 v2) (e1 : view δ r1 = some x) (e2 : view δ r2 = some (.dcT kds)) (hk : dKeyT x = some key) :
    ∃ a, v2 = .ref a ∧ ((getT kds key = none ∧ DGet H a v1 none) ∨ ∃ y v, getT kds key = some y ∧ DGet H a v1 (some v) ∧ Rep c.K G y v) := by
  obtain ⟨a, vs, e, ha, hr⟩ := view_dcT F h2 e2
  obtain ⟨b, ek, hb⟩ := dKeyT_view F h1 e1 hk
  refine ⟨a, e, ?_⟩
  rcases repT_val (k := key) hr with ⟨q1, q2⟩ | ⟨y, v, q1, q2, q3⟩
  · exact .inl ⟨q1, .inr ⟨vs, key, b, ha, ek, hb, q2.symm⟩⟩
  · exact .inr ⟨y, v, q1, .inr ⟨vs, key, b, ha, ek, hb, q2.symm⟩, q3⟩
/-! ### in -/
def dInT (f : Bool → Bool) : Dop := fun x y k => ∃ key kds, dKeyT x = some key ∧ y = .dcT kds ∧ k (.d (.bl (f (getT kds key).isSome)))
def dInC (f : Bool → Bool) : Dop := fun x y k => dInB f x y k ∨ dInT f x y k
theorem opd_inT : OpD c rInK (dInT id) := by
  intro B G H σ δ r1 r2 v1 v2 x y Ψ Q F h1 h2 e1 e2 hf k
  obtain ⟨key, kds, hk, ey, q⟩ := hf
  subst ey
  obtain ⟨a, e, g⟩ := view_getT F h1 h2 e1 e2 hk
  rcases g with ⟨g1, g2⟩ | ⟨z, v, g1, g2, _⟩
  · rw [g1] at q
    exact ⟨a, none, e, g2, k _ _ G H q (Ex.refl G) (Ex.refl H) F (rep_bl (K := c.K) (G := G))⟩
  · rw [g1] at q
    exact ⟨a, some v, e, g2, k _ _ G H q (Ex.refl G) (Ex.refl H) F (rep_bl (K := c.K) (G := G))⟩
theorem opd_notInT : OpD c rNotInK (dInT not) := by
  intro B G H σ δ r1 r2 v1 v2 x y Ψ Q F h1 h2 e1 e2 hf k
  obtain ⟨key, kds, hk, ey, q⟩ := hf
  subst ey
  obtain ⟨a, e, g⟩ := view_getT F h1 h2 e1 e2 hk
  rcases g with ⟨g1, g2⟩ | ⟨z, v, g1, g2, _⟩
  · rw [g1] at q
    exact ⟨a, none, e, g2, k _ _ G H q (Ex.refl G) (Ex.refl H) F (rep_bl (K := c.K) (G := G))⟩
  · rw [g1] at q
    exact ⟨a, some v, e, g2, k _ _ G H q (Ex.refl G) (Ex.refl H) F (rep_bl (K := c.K) (G := G))⟩
theorem opd_inCI : OpD c (rInB c.K) (dInC id) := fun B G H σ δ r1 r2 v1 v2 x y Ψ Q F h1 h2 e1 e2 hf k => hf.elim
  (fun hf => opd_inBI B G H σ δ r1 r2 v1 v2 x y Ψ Q F h1 h2 e1 e2 hf k) (fun hf => .inr (opd_inT B G H σ δ r1 r2 v1 v2 x y Ψ Q F h1 h2 e1 e2 hf k))
theorem opd_inCN : OpD c (rNotInB c.K) (dInC not) := fun B G H σ δ r1 r2 v1 v2 x y Ψ Q F h1 h2 e1 e2 hf k => hf.elim
  (fun hf => opd_inBN B G H σ δ r1 r2 v1 v2 x y Ψ Q F h1 h2 e1 e2 hf k) (fun hf => .inr (opd_notInT B G H σ δ r1 r2 v1 v2 x y Ψ Q F h1 h2 e1 e2 hf k))
/-! ### d[k] -/
def dIxC : Dop := fun x y k => dIxB x y k ∨ ∃ key kds z, dKeyT y = some key ∧ x = .dcT kds ∧ getT kds key = some z ∧ k (.d z)
theorem opd_ixC : OpD c (rIxB c.K) dIxC := by
  intro B G H σ δ r1 r2 v1 v2 x y Ψ Q F h1 h2 e1 e2 hf k
  rcases hf with hf | ⟨key, kds, z, hk, ex, hz, q⟩
  · exact opd_ixB B G H σ δ r1 r2 v1 v2 x y Ψ Q F h1 h2 e1 e2 hf k
  · subst ex
    obtain ⟨a, e, g⟩ := view_getT F h2 h1 e2 e1 hk
    rcases g with ⟨g1, _⟩ | ⟨w, v, g1, g2, g3⟩
    · rw [g1] at hz; cases hz
    · rw [g1] at hz
      cases hz
      exact .inr ⟨a, v, e, g2, k _ _ G H q (Ex.refl G) (Ex.refl H) F g3⟩
end
section
variable {x y z : D} {k : R → Prop} {kds : List (Key × D)} {key : Key} {tds : List (List Key × D)} {tk : List Key} {xs : List D} {i : Int} {t : Str} {ch : Nat}
theorem dInC_tI (hk : dKeyT x = some tk) (h : k (.d (.bl (getT tds tk).isSome))) : dInC id x (.dcT tds) k := .inr ⟨tk, tds, hk, rfl, h⟩
theorem dInC_kI (hk : dKey x = some key) (h : k (.d (.bl (DL.getD kds key).isSome))) : dInC id x (.dct kds) k := .inl (dInB_kI hk h)
theorem dInC_kN (hk : dKey x = some key) (h : k (.d (.bl (!(DL.getD kds key).isSome)))) : dInC not x (.dct kds) k := .inl (dInB_kN hk h)
theorem dInC_sI {z : Str} (h : k (.d (.bl (decide (ch ∈ z.cps.toList))))) : dInC id (.str ⟨#[ch]⟩) (.str z) k := .inl (dInB_sI h)
theorem dInC_sN {z : Str} (h : k (.d (.bl (!decide (ch ∈ z.cps.toList))))) : dInC not (.str ⟨#[ch]⟩) (.str z) k := .inl (dInB_sN h)
theorem dIxC_l (h1 : atI xs i = some x) (h : k (.d x)) : dIxC (.lst xs) (.int i) k := .inl (dIxB_l h1 h)
theorem dIxC_r (h1 : atI xs i = some x) (h : k (.d x)) : dIxC (.ro xs) (.int i) k := .inl (dIxB_r h1 h)
theorem dIxC_u (h1 : atI xs i = some x) (h : k (.d x)) : dIxC (.tup xs) (.int i) k := .inl (dIxB_t h1 h)
theorem dIxC_s (h0 : t.length ≤ 16000000) (h1 : atI t.cps.toList i = some ch) (h : k (.d (.str ⟨#[ch]⟩))) : dIxC (.str t) (.int i) k := .inl (dIxB_s h0 h1 h)
theorem dIxC_k (hk : dKey y = some key) (h1 : DL.getD kds key = some z) (h : k (.d z)) : dIxC (.dct kds) y k := .inl (dIxB_k hk h1 h)
theorem dIxC_t (hk : dKeyT y = some tk) (h1 : getT tds tk = some z) (h : k (.d z)) : dIxC (.dcT tds) y k := .inr ⟨tk, tds, z, hk, rfl, h1, h⟩
end
/-! ### d[k] = v -/
theorem own_dcT {K : PySem.W.Frag} {B G H : Hp} {σ : St} {δ : List Sl} {i : Nat} {a : Addr} {ds : List (List Key × D)} (F : Frame K B G H σ δ) (e : δ[i]? = some (.own a (.dcT ds))) : ∃ xs, H a = some (.dT xs) ∧ RepT K G ds xs := by
  obtain ⟨ov, _, _, h⟩ := F.get e
  exact h
section
variable {c : Cd} {p : Bool} {δ : List Sl} {ta tb te ty : TE} {Φ : R → List Sl → Prop}
theorem wg_setT {r : R} {Φ : List Sl → Prop} (h : ∃ x, frz r = .d x ∧ WE c false ta δ fun r1 δ1 => ∃ i a, r1 = .bor i a ∧ WE c false tb δ1 fun r2 δ2 =>
    ∃ y key kds, view δ2 (frz r2) = some y ∧ dKeyT y = some key ∧ δ2[i]? = some (.own a (.dcT kds)) ∧ kds.length < 100000 ∧ ∀ δ3, δ3 = δ2.set i (.own a (.dcT (putT kds key x))) → Φ δ3) :
    WG c (gSub ta tb rSetB) r δ Φ := by
  intro B G H σ v Q F x k rv
  obtain ⟨y, hy, h⟩ := h
  obtain ⟨G0, e0, F0, rw0⟩ := k.weak F
  rw [hy] at rw0
  refine h B G0 H σ _ F0 (c.mono _ _ _ e0 x) fun r1 δ1 v1 G1 H1 w1 e1 F1 rv1 p1 => ?_
  obtain ⟨i, a, er, w1⟩ := w1
  subst er
  obtain ⟨ev, _⟩ := rv1
  subst ev
  refine w1 B G1 H1 σ _ F1 (c.mono _ _ _ (e0.trans e1) x) fun r2 δ2 v2 G2 H2 w2 e2 F2 rv2 p2 => ?_
  obtain ⟨w, key, kds, hw, hk, hd, hl, w2⟩ := w2
  obtain ⟨G2', e2', F2', rw2⟩ := rv2.weak F2
  obtain ⟨b, ev2, hb⟩ := dKeyT_view F2' rw2 hw hk
  subst ev2
  have hv : Rep c.K G2' y v := Rep.mono (e1.trans (e2.trans e2')) (show Rep c.K G0 y v from rw0)
  obtain ⟨xs, hx, hr⟩ := own_dcT F2' hd
  have hl2 : xs.length < sizeLine := by rw [repT_len hr, sizeLine_eq]; omega
  refine .inr ⟨a, _, rfl, .inr ⟨xs, key, b, hx, rfl, hb, hl2, rfl⟩, ?_⟩
  exact rv _ _ G2' _ (w2 _ rfl) (e0.trans (e1.trans (e2.trans e2'))) (frame_mut F2' hd ⟨_, upd_same, repT_put hr hv⟩)
theorem we_dnewT (h : ∀ a, Φ (.own a (.dcT [])) δ) : WE c p tDNewT δ Φ := by
  intro B G H σ Q F _ k a ha
  obtain ⟨h1, h2, h3⟩ := F.fresh ha
  exact k _ δ _ G _ (h a) (Ex.refl G) (F.ex (Ex.new ha)) ⟨rfl, ⟨[], upd_same, by unfold RepT; rfl⟩, h1, h2, h3⟩ fun _ => ⟨rfl, Ex.new ha⟩
/-! ### d.get(k) -/
/-- what d.get(k) tells -/
def getV (x y : D) (o : Option D) : Prop := (∃ key kds, dKey y = some key ∧ x = .dct kds ∧ o = DL.getD kds key) ∨ ∃ key kds, dKeyT y = some key ∧ x = .dcT kds ∧ o = getT kds key
end
/-! ### len -/
def rLenK : List V → Hp → VK → Prop := fun xs H Q => ∃ a kvs, xs = [.ref a] ∧ Rd H a (.dK kvs) ∧ Q (.int kvs.length) H
def rLenT : List V → Hp → VK → Prop := fun xs H Q => ∃ a kvs, xs = [.ref a] ∧ Rd H a (.dT kvs) ∧ Q (.int kvs.length) H
theorem call_lenK {X : Cx} : CallR X (.builtin "len") rLenK := by
  intro pins s σ H xs us Q I r h
  obtain ⟨a, kvs, rfl, hd, q⟩ := h
  obtain ⟨u, rfl, rx⟩ := vals1 r
  cases rx
  exact d_len I hd fun t s' I' => ⟨.int kvs.length, H, I', ⟨t, rfl⟩, q⟩
theorem call_lenT {X : Cx} : CallR X (.builtin "len") rLenT := by
  intro pins s σ H xs us Q I r h
  obtain ⟨a, kvs, rfl, hd, q⟩ := h
  obtain ⟨u, rfl, rx⟩ := vals1 r
  cases rx
  obtain ⟨z, hs, ks, pr, o, es, ep, ho, hx, hdt, he, hn⟩ := (show ObjOk X.prog X.w H s.heap a (.dT kvs) from hd.ok I.hok)
  have l1 : es.size = ks.length := size_of_entries he
  have l2 : kvs.length = ks.length := Paired.length pr
  have l3 : (es.size : Int) = (kvs.length : Int) := by omega
  refine PyProof.Rows.call_len_slot (n := (kvs.length : Int)) (T := "dict") ⟨o, ho, hx.1⟩ PySem.F.slot_dict_len (fun Q' hq => ?_) (by omega) (by rw [sizeLine_eq] at z; omega) ⟨.int kvs.length, H, I.tok _, ⟨_, rfl⟩, q⟩
  have hraw : s.heap.DictRaw a es ep := ⟨o, ho, hx, hdt⟩
  exact call_len_raw hs hraw (by rw [l3]; exact hq)
def rLenB (K : PySem.W.Frag) : List V → Hp → VK → Prop := fun xs H Q => rLenA K xs H Q ∨ rLenK xs H Q ∨ rLenT xs H Q
theorem call_lenB {X : Cx} : CallR X (.builtin "len") (rLenB X.K) := fun pins s σ H xs us Q I r h => h.elim (call_lenA pins s σ H xs us Q I r) fun h => h.elim (call_lenK pins s σ H xs us Q I r) (call_lenT pins s σ H xs us Q I r)
def lenB : D → Option Nat
  | .dct kds => some kds.length
  | .dcT kds => some kds.length
  | x => lenD x
theorem cad_lenB {c : Cd} : CaD c (rLenB c.K) fun ds k => ∃ x, ds = [x] ∧ strOk x ∧ ∃ n, lenB x = some n ∧ k (.d (.int (n : Int))) := by
  intro B G H σ δ rs vs ds Ψ Q F hr hv hd k
  have hd' := hd
  obtain ⟨x, e, hs, n, hn, q⟩ := hd
  subst e
  obtain ⟨r1, w, e1, e2, h1, h2⟩ := view_one hv hr
  have done : lenD x = some n → rLenB c.K vs H Q := fun hn' => .inl (cad_len B G H σ δ rs vs [x] Ψ Q F hr hv ⟨x, rfl, hs, n, hn', q⟩ k)
  have fin := fun v (hv : v = V.int n) => k _ v G H q (Ex.refl G) (Ex.refl H) F (by rw [hv]; exact rep_int (K := c.K) (G := G))
  cases x with
  | dct kds =>
    cases hn
    subst e2
    obtain ⟨a, xs, e3, g1, g2⟩ := view_dct F h2 h1
    subst e3
    exact .inr (.inl ⟨a, xs, rfl, g1, fin _ (by rw [repK_len g2])⟩)
  | dcT kds =>
    cases hn
    subst e2
    obtain ⟨a, xs, e3, g1, g2⟩ := view_dcT F h2 h1
    subst e3
    exact .inr (.inr ⟨a, xs, rfl, g1, fin _ (by rw [repT_len g2])⟩)
  | _ => exact done hn
theorem ex_lenB {x : D} {n : Nat} {P : Nat → Prop} (h1 : strOk x) (h2 : lenB x = some n) (q : P n) : ∃ x', [x] = [x'] ∧ strOk x' ∧ ∃ n, lenB x' = some n ∧ P n := ⟨x, rfl, h1, n, h2, q⟩
/-! ### sorted -/
def pd (p : Int × Int) : D := .tup [.int p.1, .int p.2]
def rSortB (K : PySem.W.Frag) : List V → Hp → VK → Prop := fun vs H Q => rSortedDT vs H Q ∨ L2.rSortedPO K vs H Q ∨ L2.rSortedS K vs H Q ∨ rSortedSU K vs H Q
theorem call_sortB {X : Cx} (hc : X.calm = true) : CallR X (.builtin "sorted") (rSortB X.K) := fun pins s σ H xs us Q I r h =>
  h.elim (cr_sortedDT hc pins s σ H xs us Q I r) fun h => h.elim (cr_sortedPO pins s σ H xs us Q I r) fun h => h.elim (cr_sortedS pins s σ H xs us Q I r) (cr_sortedSU pins s σ H xs us Q I r)
theorem reps_pd {K : PySem.W.Frag} {G : Hp} : ∀ (zs : List (Addr × Int × Int)), (∀ z ∈ zs, G z.1 = some (.tup [.int z.2.1, .int z.2.2])) → Reps K G ((zs.map (·.2)).map pd) (zs.map fun z => V.ref z.1)
  | [], _ => reps_nil
  | z :: zs, h => by
    refine reps_cons ?_ (reps_pd zs fun w hw => h w (List.mem_cons_of_mem _ hw))
    show Rep K G (.tup [.int z.2.1, .int z.2.2]) (.ref z.1)
    unfold Rep
    exact ⟨z.1, _, rfl, h z List.mem_cons_self, reps_cons rep_int (reps_cons rep_int reps_nil)⟩
theorem repT_keys {K : PySem.W.Frag} {G : Hp} : ∀ {ds : List (List Key × D)} {vs : List (List Key × V)}, RepT K G ds vs → vs.map (·.1) = ds.map (·.1)
  | [], vs, h => by unfold RepT at h; subst h; rfl
  | (k, d) :: ds, vs, h => by
    unfold RepT at h
    obtain ⟨v, vr, e, _, h2⟩ := h
    subst e
    rw [List.map_cons, List.map_cons, repT_keys h2]
theorem pd_rep {K : PySem.W.Frag} {G : Hp} {p : Int × Int} {w : V} (h : Rep K G (pd p) w) : ∃ t : Addr, w = .ref t ∧ G t = some (.tup [.int p.1, .int p.2]) := by
  have h1 : Rep K G (.tup [.int p.1, .int p.2]) w := h
  unfold Rep at h1
  obtain ⟨a, xs, e1, g1, g2⟩ := h1
  have e2 : xs = [V.int p.1, V.int p.2] := by
    unfold Reps at g2
    obtain ⟨u1, r1, q1, q2, q3⟩ := g2
    unfold Reps at q3
    obtain ⟨u2, r2, q4, q5, q6⟩ := q3
    unfold Reps at q6
    unfold Rep at q2 q5
    rw [q1, q4, q6, q2, q5]
  exact ⟨a, e1, by rw [g1, e2]⟩
theorem pds_addr {K : PySem.W.Frag} {G : Hp} : ∀ {ps : List (Int × Int)} {vs : List V}, Reps K G (ps.map pd) vs → ∀ v ∈ vs, ∃ (t : Addr) (p : Int × Int), v = V.ref t ∧ G t = some (.tup [.int p.1, .int p.2])
  | [], vs, h, v, hv => by unfold Reps at h; rw [h] at hv; cases hv
  | p :: ps, vs, h, v, hv => by
    have h' : Reps K G (pd p :: ps.map pd) vs := h
    unfold Reps at h'
    obtain ⟨w, vr, e, h1, h2⟩ := h'
    subst e
    rcases List.mem_cons.mp hv with q | q
    · subst q
      obtain ⟨t, e1, g1⟩ := pd_rep h1
      exact ⟨t, p, e1, g1⟩
    · exact pds_addr h2 v q
theorem pds_map {K : PySem.W.Frag} {G H : Hp} (e : Ex G H) : ∀ {ps : List (Int × Int)} {vs : List V}, Reps K G (ps.map pd) vs → vs.map (pairAt H) = ps
  | [], vs, h => by unfold Reps at h; rw [h]; rfl
  | p :: ps, vs, h => by
    have h' : Reps K G (pd p :: ps.map pd) vs := h
    unfold Reps at h'
    obtain ⟨w, vr, e0, h1, h2⟩ := h'
    subst e0
    obtain ⟨t, e1, g1⟩ := pd_rep h1
    rw [List.map_cons, pds_map e h2, e1, pairAt_of (e _ _ g1)]
theorem cad_sortB {c : Cd} : CaD c (rSortB c.K) fun ds k => ∃ x, ds = [x] ∧ ((∃ (kds : List (List Key × D)) (ps : List (Int × Int)), x = .dcT kds ∧ kds.map (·.1) = ps.map pk ∧ ∀ (a : Addr) (qs : List (Int × Int)), qs.Perm ps → qs.Pairwise lexP → k (.own a (.lst (qs.map pd)))) ∨
    (∃ ps : List (Int × Int), x = .lst (ps.map pd) ∧ ∀ (a : Addr) (qs : List (Int × Int)), qs.Perm ps → qs.Pairwise lexP → k (.own a (.lst (qs.map pd)))) ∨
    (∃ ss : List Str, x = .lst (ss.map .str) ∧ ss.length < 64 ∧ ∀ (a : Addr) (zs : List Str), zs.Perm ss → sortedS zs = true → k (.own a (.lst (zs.map .str)))) ∨
    ∃ ss : List Str, x = .tup (ss.map .str) ∧ ss.length < 64 ∧ ∀ (a : Addr) (zs : List Str), zs.Perm ss → sortedS zs = true → k (.own a (.lst (zs.map .str)))) := by
  intro B G H σ δ rs vs ds Ψ Q F hr hv hd k
  obtain ⟨x, e, hd⟩ := hd
  subst e
  obtain ⟨r1, w, e1, e2, h1, h2⟩ := view_one hv hr
  subst e2
  rcases hd with ⟨kds, ps, ex, hk, q⟩ | ⟨ps, ex, q⟩ | ⟨ss, ex, hl, q⟩ | ⟨ss, ex, hl, q⟩
  · subst ex
    obtain ⟨a, xs, e3, g1, g2⟩ := view_dcT F h2 h1
    subst e3
    refine .inl ⟨a, xs, ps, rfl, g1, (repT_keys g2).trans hk, fun zs l z1 z2 z3 hl => ?_⟩
    obtain ⟨G1, eG, gL, F1⟩ := F.tups (zs.map (·.1)) fun b hb => by
      obtain ⟨z, hz, e⟩ := List.mem_map.mp hb
      subst e
      exact ⟨_, z3 z hz⟩
    have hrep : Reps c.K G1 ((zs.map (·.2)).map pd) (zs.map fun z => V.ref z.1) := reps_pd zs fun z hz => by
      rw [gL z.1 (List.mem_map_of_mem hz)]; exact z3 z hz
    exact k _ _ G1 _ (q l _ z1 z2) eG (Ex.new hl) (F1.ex (Ex.new hl)) (rv_newL F1 hl hrep)
  · subst ex
    obtain ⟨a, xs, e3, g1, g2⟩ := view_lst F h2 h1
    subst e3
    refine .inr (.inl ⟨a, xs, pairAt H, rfl, .inl g1, fun x hx => ?_, fun ys l z1 z2 hl => ?_⟩)
    · obtain ⟨t, p, e, g⟩ := pds_addr g2 x hx
      have g' := F.exG _ _ g
      exact ⟨t, e, by rw [e, pairAt_of g']; exact g'⟩
    · have hp : ys.Perm xs := z2.perm
      have hm : (ys.map (pairAt H)).Perm ps := by rw [← pds_map F.exG g2]; exact hp.map _
      have hs : (ys.map (pairAt H)).Pairwise lexP := by
        rw [List.pairwise_map]
        refine List.Pairwise.imp (fun {x y} h => ?_) z1
        have h' := SrtO.lexB_no.mp h
        unfold lexP
        omega
      have hrep : Reps c.K G ((ys.map (pairAt H)).map pd) ys := by
        have all : ∀ l : List V, (∀ v ∈ l, v ∈ xs) → Reps c.K G ((l.map (pairAt H)).map pd) l := by
          intro l
          induction l with
          | nil => intro _; exact reps_nil
          | cons v l ih =>
            intro hm
            obtain ⟨t, p, e, g⟩ := pds_addr g2 v (hm v List.mem_cons_self)
            refine reps_cons ?_ (ih fun u hu => hm u (List.mem_cons_of_mem _ hu))
            rw [e, pairAt_of (F.exG _ _ g)]
            show Rep c.K G (.tup [.int p.1, .int p.2]) (.ref t)
            unfold Rep
            exact ⟨t, _, rfl, g, reps_cons rep_int (reps_cons rep_int reps_nil)⟩
        exact all ys fun v hv => hp.mem_iff.mp hv
      exact k _ _ G _ (q l _ hm hs) (Ex.refl G) (Ex.new hl) (F.ex (Ex.new hl)) (rv_newL F hl hrep)
  · subst ex
    obtain ⟨a, xs, e3, g1, g2⟩ := view_lst F h2 h1
    subst e3
    have e4 : xs = ss.map V.str := by
      have := strs_rep (strsD_map ss) g2
      exact this
    subst e4
    refine .inr (.inr (.inl ⟨a, ss, rfl, .inl g1, hl, fun ys l z1 z2 hl2 => ?_⟩))
    exact k _ _ G _ (q l _ z1 z2) (Ex.refl G) (Ex.new hl2) (F.ex (Ex.new hl2)) (rv_newL F hl2 (reps_strs _))
  · subst ex
    obtain ⟨a, xs, e3, g1, g2⟩ := view_tup F h2 h1
    subst e3
    have e4 : xs = ss.map V.str := by
      have := strs_rep (strsD_map ss) g2
      exact this
    subst e4
    refine .inr (.inr (.inr ⟨a, ss, rfl, g1, hl, fun ys l z1 z2 hl2 => ?_⟩))
    exact k _ _ G _ (q l _ z1 z2) (Ex.refl G) (Ex.new hl2) (F.ex (Ex.new hl2)) (rv_newL F hl2 (reps_strs _))
/-! ### extend -/
theorem mt_extendA {X : Cx} : MtR X "list.extend" rExtend := mt_extend
section
variable {c : Cd} {δ : List Sl} {te : TE} {tr : TA} {Φ : R → List Sl → Prop}
theorem we_extend (h : WE c false te δ fun r1 δ1 => ∃ i a, r1 = .bor i a ∧ (∃ ds, δ1[i]? = some (.own a (.lst ds))) ∧ WA c false tr δ1 fun rs δ2 => ∃ (ds es : List D), rs = [.d (.lst es)] ∧ δ2[i]? = some (.own a (.lst ds)) ∧ ds.length + es.length ≤ 100000 ∧
    ∀ δ3, δ3 = δ2.set i (.own a (.lst (ds ++ es))) → Φ (.d .non) δ3) : WE c false (tBM c.K "list" rExtend te tr) δ Φ := by
  intro B G H σ Q F x k
  refine h B G H σ _ F x fun r1 δ1 v1 G1 H1 w1 e1 F1 rv1 p1 => ?_
  obtain ⟨i, a, er, ⟨ds0, hd0⟩, w1⟩ := w1
  subst er
  obtain ⟨ev, _⟩ := rv1
  subst ev
  obtain ⟨xs0, hx0, _⟩ := own_lst F1 hd0
  refine ⟨.inl ⟨rfl, xs0, SqL.of hx0⟩, ?_⟩
  refine w1 B G1 H1 σ _ F1 (c.mono _ _ _ e1 x) fun rs δ2 vs G2 H2 w2 e2 F2 rv2 p2 => ?_
  obtain ⟨ds, es, er2, hd, hl, w2⟩ := w2
  subst er2
  obtain ⟨v2, vr, e3, h1, h2⟩ := rv2
  have e4 : vr = [] := h2
  subst e4
  subst e3
  obtain ⟨xs, hx, hr⟩ := own_lst F2 hd
  have h1' : Rep c.K G2 (.lst es) v2 := h1
  unfold Rep at h1'
  obtain ⟨b, zs, eb, hb, hz⟩ := h1'
  subst eb
  refine ⟨a, b, xs, zs, rfl, rfl, hx, F2.exG _ _ hb, by rw [reps_length hr, reps_length hz, sizeLine_eq]; omega, ?_⟩
  exact k _ _ _ G2 _ (w2 _ rfl) (e1.trans e2) (frame_mut F2 hd ⟨_, upd_same, reps_append hr hz⟩) (rep_non (K := c.K) (G := G2)) fun z => nomatch z
end
/-! ### sum, min of a list -/
end DL

/-! DL30: isinstance of an own class; what stands behind a slot's own is changed, or put there. -/
namespace DL
open PySem PySem.Spec PyProof.Rows L2
open Evl (Ex)
/-! ### isinstance(x, C), C an own class -/
structure ClsI (K : PySem.W.Frag) (C : Addr) : Prop where
  cl : Cls K C
  ha : PySem.W.findIn K (.ref C) "__class__" = some (some (.builtin "object.__class__"))
  hn : PySem.W.specialIn K (.builtin "object.__class__") "__get__" = some (some (.builtin "getset_descriptor.__get__"))
  htk : PySem.W.takesIn K (.builtin "object.__class__") = some true
  hm : PySem.W.mroIn K C (.type "object") = some true
  self : PySem.W.kitOne K (.ref C) (.ref C) = some true
  non : PySem.W.kitOne K (.type "NoneType") (.ref C) = some false
  bl : PySem.W.kitOne K (.type "bool") (.ref C) = some false
  int : PySem.W.kitOne K (.type "int") (.ref C) = some false
  str : PySem.W.kitOne K (.type "str") (.ref C) = some false
  lst : PySem.W.kitOne K (.type "list") (.ref C) = some false
  tup : PySem.W.kitOne K (.type "tuple") (.ref C) = some false
  dct : PySem.W.kitOne K (.type "dict") (.ref C) = some false
def rIsiC (K : PySem.W.Frag) : List V → Hp → VK → Prop := rIsi K
def plainTy : D → Bool
  | .non => true | .bl _ => true | .int _ => true | .str _ => true | .lst _ => true | .tup _ => true | .dct _ => true | _ => false
/-! ### what is reached through a slot's own is changed -/
section
variable {c : Cd} {p : Bool} {δ : List Sl} {te ta tb : TE} {tr : TA} {Φ : R → List Sl → Prop}
/-! ### own objects put into a slot's own -/
/-- new objects of one's own: the root, and what stands behind it -/
inductive NewO : R → Addr → List (Addr × D) → Prop
  | own (b : Addr) (y : D) : NewO (.own b y) b [(b, y)]
  | deep (b : Addr) (y : D) (hs : List (Addr × D)) : NewO (.deep b y hs) b ((b, y) :: hs)
/-- things, some of them new objects of one's own -/
def WAg (c : Cd) (p : Bool) (tr : TA) (δ : List Sl) (Φ : List D → List (Addr × D) → List Sl → Prop) : Prop :=
  ∀ (B G H : Hp) (σ : L2.St) (Q : List V → Hp → Prop), Frame c.K B G H σ δ → c.xr B G →
    (∀ ds gs δ' vs G' H', Φ ds gs δ' → Ex G G' → Frame c.K B G' H' σ δ' → Reps c.K G' ds vs → OwnG c.K G' H' gs → (∀ b ∈ gs.map Prod.fst, B b = none ∧ G' b = none ∧ b ∉ owned δ') → (gs.map Prod.fst).Nodup → (p = true → δ' = δ ∧ Ex H H') → Q vs H') → tr σ H Q
end
end DL

/-! DL31: d.update(d2), xs.reverse(). -/
namespace DL
open PySem PySem.Spec PyProof.Rows L2
open Evl (Ex)
def rUpdA : V → List V → Hp → VK → Prop := fun x xs H Q => ∃ (a b : Addr) (kvs more : List (Key × V)), x = .ref a ∧ xs = [.ref b] ∧ a ≠ b ∧ H a = some (.dK kvs) ∧ Rd H b (.dK more) ∧ kvs.length + more.length ≤ sizeLine ∧ (mergeK kvs more).length ≤ sizeLine ∧
  Q .non (upd H a (.dK (mergeK kvs more)))
section
variable {c : Cd} {δ : List Sl} {te : TE} {tr : TA} {Φ : R → List Sl → Prop}
end
end DL

/-! DL32: == of data without truths and dicts: they are one, or not. -/
namespace DL
open PySem PySem.Spec PyProof.Rows L2
open Evl (Ex)
mutual
def pure0 : D → Bool
  | .non => true
  | .int _ => true
  | .str s => PyData.strOk s
  | .lst xs => pure0s xs
  | .tup xs => pure0s xs
  | _ => false
def pure0s : List D → Bool
  | [] => true
  | x :: xs => pure0 x && pure0s xs
end
mutual
theorem pure_py : ∀ x : D, pure0 x = true → ∃ d, py x = some d ∧ d.canLay0 = true ∧ d.depth = dpt x
  | .non, _ => ⟨_, rfl, rfl, rfl⟩
  | .int _, _ => ⟨_, rfl, rfl, rfl⟩
  | .str s, h => ⟨.str s, rfl, by unfold pure0 at h; unfold PyData.canLay0; exact h, rfl⟩
  | .lst xs, h => by
    obtain ⟨ds, h1, h2, h3⟩ := pures_py xs (by unfold pure0 at h; exact h)
    exact ⟨.list ds, by unfold py; rw [h1]; rfl, by unfold PyData.canLay0; exact h2, by unfold PyData.depth dpt; rw [h3]⟩
  | .tup xs, h => by
    obtain ⟨ds, h1, h2, h3⟩ := pures_py xs (by unfold pure0 at h; exact h)
    exact ⟨.tuple ds, by unfold py; rw [h1]; rfl, by unfold PyData.canLay0; exact h2, by unfold PyData.depth dpt; rw [h3]⟩
  | .bl _, h => by unfold pure0 at h; cases h
  | .ty _, h => by unfold pure0 at h; cases h
  | .ptr _, h => by unfold pure0 at h; cases h
  | .ro _, h => by unfold pure0 at h; cases h
  | .dct _, h => by unfold pure0 at h; cases h
  | .dcT _, h => by unfold pure0 at h; cases h
  | .obj _ _, h => by unfold pure0 at h; cases h
theorem pures_py : ∀ xs : List D, pure0s xs = true → ∃ ds, pys xs = some ds ∧ PyData.canLayAll0 ds = true ∧ PyData.depthAll ds = dpts xs
  | [], _ => ⟨[], rfl, rfl, rfl⟩
  | x :: xs, h => by
    unfold pure0s at h
    obtain ⟨h0, h1⟩ := Bool.and_eq_true_iff.mp h
    obtain ⟨d, a1, a2, a3⟩ := pure_py x h0
    obtain ⟨ds, b1, b2, b3⟩ := pures_py xs h1
    exact ⟨d :: ds, by unfold pys; rw [a1, b1]; rfl, by unfold PyData.canLayAll0; rw [a2, b2]; rfl, by unfold PyData.depthAll dpts; rw [a3, b3]⟩
end
mutual
theorem eqv_pure : ∀ (x y : D) (d e : PyData), pure0 x = true → pure0 y = true → py x = some d → py y = some e → (PyData.eqv d e = true ↔ x = y)
  | .non, y, d, e, hx, hy, h1, h2 => by
    unfold py at h1; cases h1
    cases y with
    | non => unfold py at h2; cases h2; simp [PyData.eqv]
    | int i => unfold py at h2; cases h2; simp [PyData.eqv]
    | str s => unfold py at h2; cases h2; simp [PyData.eqv]
    | lst ys => unfold py at h2; cases q : pys ys with
      | none => rw [q] at h2; cases h2
      | some es => rw [q] at h2; cases h2; simp [PyData.eqv]
    | tup ys => unfold py at h2; cases q : pys ys with
      | none => rw [q] at h2; cases h2
      | some es => rw [q] at h2; cases h2; simp [PyData.eqv]
    | _ => unfold pure0 at hy; cases hy
  | .int i, y, d, e, hx, hy, h1, h2 => by
    unfold py at h1; cases h1
    cases y with
    | non => unfold py at h2; cases h2; simp [PyData.eqv]
    | int j => unfold py at h2; cases h2; simp [PyData.eqv]
    | str s => unfold py at h2; cases h2; simp [PyData.eqv]
    | lst ys => unfold py at h2; cases q : pys ys with
      | none => rw [q] at h2; cases h2
      | some es => rw [q] at h2; cases h2; simp [PyData.eqv]
    | tup ys => unfold py at h2; cases q : pys ys with
      | none => rw [q] at h2; cases h2
      | some es => rw [q] at h2; cases h2; simp [PyData.eqv]
    | _ => unfold pure0 at hy; cases hy
  | .str s, y, d, e, hx, hy, h1, h2 => by
    unfold py at h1; cases h1
    cases y with
    | non => unfold py at h2; cases h2; simp [PyData.eqv]
    | int j => unfold py at h2; cases h2; simp [PyData.eqv]
    | str t => unfold py at h2; cases h2; simp [PyData.eqv]
    | lst ys => unfold py at h2; cases q : pys ys with
      | none => rw [q] at h2; cases h2
      | some es => rw [q] at h2; cases h2; simp [PyData.eqv]
    | tup ys => unfold py at h2; cases q : pys ys with
      | none => rw [q] at h2; cases h2
      | some es => rw [q] at h2; cases h2; simp [PyData.eqv]
    | _ => unfold pure0 at hy; cases hy
  | .lst xs, y, d, e, hx, hy, h1, h2 => by
    unfold py at h1
    cases q0 : pys xs with
    | none => rw [q0] at h1; cases h1
    | some ds =>
    rw [q0] at h1; cases h1
    cases y with
    | non => unfold py at h2; cases h2; simp [PyData.eqv]
    | int j => unfold py at h2; cases h2; simp [PyData.eqv]
    | str t => unfold py at h2; cases h2; simp [PyData.eqv]
    | lst ys => unfold py at h2; cases q : pys ys with
      | none => rw [q] at h2; cases h2
      | some es =>
        rw [q] at h2; cases h2
        have ih := eqvs_pure xs ys ds es (by unfold pure0 at hx; exact hx) (by unfold pure0 at hy; exact hy) q0 q
        show PyData.eqv (.list ds) (.list es) = true ↔ _
        unfold PyData.eqv
        rw [ih]
        exact ⟨fun h => by rw [h], fun h => by cases h; rfl⟩
    | tup ys => unfold py at h2; cases q : pys ys with
      | none => rw [q] at h2; cases h2
      | some es => rw [q] at h2; cases h2; simp [PyData.eqv]
    | _ => unfold pure0 at hy; cases hy
  | .tup xs, y, d, e, hx, hy, h1, h2 => by
    unfold py at h1
    cases q0 : pys xs with
    | none => rw [q0] at h1; cases h1
    | some ds =>
    rw [q0] at h1; cases h1
    cases y with
    | non => unfold py at h2; cases h2; simp [PyData.eqv]
    | int j => unfold py at h2; cases h2; simp [PyData.eqv]
    | str t => unfold py at h2; cases h2; simp [PyData.eqv]
    | tup ys => unfold py at h2; cases q : pys ys with
      | none => rw [q] at h2; cases h2
      | some es =>
        rw [q] at h2; cases h2
        have ih := eqvs_pure xs ys ds es (by unfold pure0 at hx; exact hx) (by unfold pure0 at hy; exact hy) q0 q
        show PyData.eqv (.tuple ds) (.tuple es) = true ↔ _
        unfold PyData.eqv
        rw [ih]
        exact ⟨fun h => by rw [h], fun h => by cases h; rfl⟩
    | lst ys => unfold py at h2; cases q : pys ys with
      | none => rw [q] at h2; cases h2
      | some es => rw [q] at h2; cases h2; simp [PyData.eqv]
    | _ => unfold pure0 at hy; cases hy
  | .bl _, _, _, _, h, _, _, _ => by unfold pure0 at h; cases h
  | .ty _, _, _, _, h, _, _, _ => by unfold pure0 at h; cases h
  | .ptr _, _, _, _, h, _, _, _ => by unfold pure0 at h; cases h
  | .ro _, _, _, _, h, _, _, _ => by unfold pure0 at h; cases h
  | .dct _, _, _, _, h, _, _, _ => by unfold pure0 at h; cases h
  | .dcT _, _, _, _, h, _, _, _ => by unfold pure0 at h; cases h
  | .obj _ _, _, _, _, h, _, _, _ => by unfold pure0 at h; cases h
theorem eqvs_pure : ∀ (xs ys : List D) (ds es : List PyData), pure0s xs = true → pure0s ys = true → pys xs = some ds → pys ys = some es → (PyData.eqvAll ds es = true ↔ xs = ys)
  | [], ys, ds, es, hx, hy, h1, h2 => by
    unfold pys at h1; cases h1
    cases ys with
    | nil => unfold pys at h2; cases h2; simp [PyData.eqvAll]
    | cons y ys =>
      unfold pys at h2
      cases q : py y with
      | none => rw [q] at h2; cases h2
      | some e0 =>
        rw [q] at h2
        cases q2 : pys ys with
        | none => rw [q2] at h2; cases h2
        | some er => rw [q2] at h2; cases h2; simp [PyData.eqvAll]
  | x :: xs, ys, ds, es, hx, hy, h1, h2 => by
    unfold pys at h1
    cases p1 : py x with
    | none => rw [p1] at h1; cases h1
    | some d0 =>
    rw [p1] at h1
    cases p2 : pys xs with
    | none => rw [p2] at h1; cases h1
    | some dr =>
    rw [p2] at h1
    cases h1
    cases ys with
    | nil => unfold pys at h2; cases h2; simp [PyData.eqvAll]
    | cons y ys =>
      unfold pys at h2
      cases q : py y with
      | none => rw [q] at h2; cases h2
      | some e0 =>
        rw [q] at h2
        cases q2 : pys ys with
        | none => rw [q2] at h2; cases h2
        | some er =>
          rw [q2] at h2
          cases h2
          unfold pure0s at hx hy
          obtain ⟨hx0, hx1⟩ := Bool.and_eq_true_iff.mp hx
          obtain ⟨hy0, hy1⟩ := Bool.and_eq_true_iff.mp hy
          have i1 := eqv_pure x y d0 e0 hx0 hy0 p1 q
          have i2 := eqvs_pure xs ys dr er hx1 hy1 p2 q2
          show PyData.eqvAll (d0 :: dr) (e0 :: er) = true ↔ _
          unfold PyData.eqvAll
          rw [Bool.and_eq_true_iff, i1, i2]
          exact ⟨fun h => by rw [h.1, h.2], fun h => by cases h; exact ⟨rfl, rfl⟩⟩
end
theorem dEq_p {f : Bool → Bool} {x y : D} {k : R → Prop} (h1 : pure0 x = true) (h2 : pure0 y = true) (h3 : dpt x ≤ 60) (h4 : dpt y ≤ 60) (t : x = y → k (.d (.bl (f true)))) (n : x ≠ y → k (.d (.bl (f false)))) : dEqF f x y k := by
  obtain ⟨d, a1, a2, a3⟩ := pure_py x h1
  obtain ⟨e, b1, b2, b3⟩ := pure_py y h2
  refine dEq_d a1 b1 (by unfold SeqAt.shaped; rw [a2, a3]; simp; omega) (by unfold SeqAt.shaped; rw [b2, b3]; simp; omega) ?_
  have iff := eqv_pure x y d e h1 h2 a1 b1
  cases q : PyData.eqv d e with
  | true => exact t (iff.mp q)
  | false => exact n fun z => by rw [iff.mpr z] at q; cases q
theorem pure0s_map {α : Type} {f : α → D} : ∀ {l : List α}, (∀ a ∈ l, pure0 (f a) = true) → pure0s (l.map f) = true
  | [], _ => rfl
  | a :: l, h => by
    rw [List.map_cons]
    unfold pure0s
    rw [h a List.mem_cons_self, pure0s_map fun b hb => h b (List.mem_cons_of_mem _ hb)]
    rfl
theorem dpts_map {α : Type} {f : α → D} {n : Nat} : ∀ {l : List α}, (∀ a ∈ l, dpt (f a) ≤ n) → dpts (l.map f) ≤ n
  | [], _ => by rw [List.map_nil]; unfold dpts; omega
  | a :: l, h => by
    rw [List.map_cons]
    unfold dpts
    have h1 := h a List.mem_cons_self
    have h2 := dpts_map (l := l) fun b hb => h b (List.mem_cons_of_mem _ hb)
    omega
end DL

/-! DL33: for over a list of one's own, which stays; what comes back with objects behind it, told as data. -/
namespace DL
open PySem PySem.Spec PyProof.Rows L2
open Evl (Ex)
section
variable {K : PySem.W.Frag} {B G G' H H' : Hp} {σ : St} {δ ε : List Sl}
end
section
variable {c : Cd} {p : Bool} {δ : List Sl} {te : TE} {t : TS} {g : TG} {Φ : R → List Sl → Prop} {N Bk Ct : List Sl → Prop} {Rt : R → List Sl → Prop}
/-- for over a thing that stays as it is, be it one's own -/
theorem w_forA (h : WE c false te δ fun r δ1 => ∃ y ds, view δ1 r = some y ∧ itemsD y = some ds ∧ ∃ I : Nat → List Sl → Prop, I 0 δ1 ∧ (∀ j δ2, j ≤ ds.length → I j δ2 → view δ2 r = some y) ∧
    (∀ j d δ2, ds[j]? = some d → I j δ2 → WG c g (.d d) δ2 fun δ3 => W c t δ3 (I (j + 1)) Rt N (I (j + 1))) ∧ ∀ δ2, I ds.length δ2 → N δ2) : W c (tFor (iAny c.K te) g t) δ N Rt Bk Ct := by
  intro B G H σ Dd F x e
  refine h B G H σ _ F x fun r δ1 v G1 H1 w e1 F1 rv p1 => ?_
  obtain ⟨y, ds, hv, hi, I, i0, iat, it, iend⟩ := w
  have core : ∀ (J : It) (Gd : Hp → Prop) (Y : Nat → Hp → V → Hp → Prop) (G1' : Hp), Walk J ds.length Gd Y → Ex G1 G1' → Frame c.K B G1' H1 σ δ1 → (∀ j δ2 G2 H2 σ2, j ≤ ds.length → I j δ2 → Ex G1' G2 → Frame c.K B G2 H2 σ2 δ2 → Gd H2) →
      (∀ j δ2 G2 H2 σ2 y H3, j < ds.length → I j δ2 → Ex G1' G2 → Frame c.K B G2 H2 σ2 δ2 → Y j H2 y H3 → H3 = H2 ∧ ∃ d, ds[j]? = some d ∧ Rep c.K G2 d y) →
      ∃ Wv : Nat → Nat → St → Hp → Prop, (∃ m, Wv 0 m σ H1) ∧ ∀ i m σ H, Wv i m σ H → (J.stop i H ∧ Dd.nx σ H) ∨ (J.go i H ∧ ∃ N : St → Hp → Prop, (∀ σ' H', N σ' H' → ∃ m', m' < m ∧ Wv (i + 1) m' σ' H') ∧ ∀ x H', J.yld i H x H' → g x σ H' fun σ2 H2 => t { Dd with nx := N, ct := N, bk := Dd.nx } σ2 H2) := by
    intro J Gd Y G1' Wk e0 F0 hG hY
    refine for_it Wk (fun i σ' H' => ∃ δ' G', I i δ' ∧ Ex G1' G' ∧ Frame c.K B G' H' σ' δ') ⟨δ1, G1', i0, Ex.refl G1', F0⟩ (fun j σ' H' hj ⟨δ', G', hI, e2, F2⟩ => hG j δ' G' H' σ' hj hI e2 F2) (fun j y σ' H2 H3 hj pv yy => ?_) fun σ' H' ⟨δ', G', hI, e2, F2⟩ => e.nx δ' σ' G' H' (iend δ' hI) (e1.trans (e0.trans e2)) F2
    obtain ⟨δ', G', hI, e2, F2⟩ := pv
    obtain ⟨eH, d, hd, hrd⟩ := hY j δ' G' H2 σ' y H3 hj hI e2 F2 yy
    subst eH
    have e02 := e1.trans (e0.trans e2)
    refine it j d δ' hd hI B G' H3 σ' y _ F2 (c.mono _ _ _ e02 x) hrd fun δ3 σ3 G3 H3 hws e4 F4 => ?_
    have e5 := e2.trans e4
    have e6 := e1.trans (e0.trans e5)
    exact hws B G3 H3 σ3 _ F4 (c.mono _ _ _ e6 x) ⟨fun δ4 σ4 G4 H4 w e7 F5 => ⟨δ4, G4, w, e5.trans e7, F5⟩, fun r δ4 v σ4 G4 H4 w e7 F5 => e.rt r δ4 v σ4 G4 H4 w (e6.trans e7) F5, fun δ4 σ4 G4 H4 w e7 F5 => e.nx δ4 σ4 G4 H4 w (e6.trans e7) F5, fun δ4 σ4 G4 H4 w e7 F5 => ⟨δ4, G4, w, e5.trans e7, F5⟩⟩
  have dat : ∀ G1', Ex G1 G1' → Frame c.K B G1' H1 σ δ1 → Rep c.K G1' y v → iAny c.K (fun σ H Q => Q v H) σ H1 fun J H' => ∃ Wv : Nat → Nat → St → Hp → Prop, (∃ m, Wv 0 m σ H') ∧ ∀ i m σ H, Wv i m σ H → (J.stop i H ∧ Dd.nx σ H) ∨ (J.go i H ∧ ∃ N : St → Hp → Prop, (∀ σ' H', N σ' H' → ∃ m', m' < m ∧ Wv (i + 1) m' σ' H') ∧ ∀ x H', J.yld i H x H' → g x σ H' fun σ2 H2 => t { Dd with nx := N, ct := N, bk := Dd.nx } σ2 H2) := by
    intro G1' e0 F0 hr
    cases y with
    | lst ys =>
      cases hi
      unfold Rep at hr
      obtain ⟨a, xs, e2, h1, h2⟩ := hr
      refine .inl ⟨a, e2, ⟨xs, .inl (Rd.of (F0.exG _ _ h1))⟩, core _ _ _ G1' (by rw [← reps_length h2]; exact walk_list (K := c.K) (a := a) (xs := xs)) e0 F0 (fun j δ2 G2 H2 σ2 _ _ e3 F2 => sql (Rd.of (F2.exG _ _ (e3 _ _ h1)))) fun j δ2 G2 H2 σ2 z H3 _ _ e3 F2 (yy : YAt xs j H2 z H3) => ⟨yy.1, ?_⟩⟩
      obtain ⟨d, hd, hrd⟩ := reps_getV h2 yy.2
      exact ⟨d, hd, hrd.mono e3⟩
    | tup ys =>
      cases hi
      unfold Rep at hr
      obtain ⟨a, xs, e2, h1, h2⟩ := hr
      refine .inr (.inl ⟨a, e2, ⟨xs, SqT.of (F0.exG _ _ h1)⟩, core _ _ _ G1' (by rw [← reps_length h2]; exact walk_tup (K := c.K) (a := a) (xs := xs)) e0 F0 (fun j δ2 G2 H2 σ2 _ _ e3 F2 => SqT.of (F2.exG _ _ (e3 _ _ h1))) fun j δ2 G2 H2 σ2 z H3 _ _ e3 F2 (yy : YAt xs j H2 z H3) => ⟨yy.1, ?_⟩⟩)
      obtain ⟨d, hd, hrd⟩ := reps_getV h2 yy.2
      exact ⟨d, hd, hrd.mono e3⟩
    | str z =>
      cases hi
      have e2 : v = .str z := by unfold Rep at hr; exact hr
      have el : (signsD z).length = z.cps.size := by unfold signsD; simp
      refine .inr (.inr ⟨z, e2, core _ _ _ G1' (by rw [el]; exact walk_str) e0 F0 (fun _ _ _ _ _ _ _ _ _ => trivial) fun j δ2 G2 H2 σ2 u H3 _ _ e3 F2 (yy : H3 = H2 ∧ ∃ c, z.cps[j]? = some c ∧ u = .str ⟨#[c]⟩) => ⟨yy.1, ?_⟩⟩)
      obtain ⟨_, ch, hc, ey⟩ := yy
      refine ⟨.str ⟨#[ch]⟩, ?_, ?_⟩
      · unfold signsD
        rw [List.getElem?_map, Array.getElem?_toList, hc]
        rfl
      · rw [ey]; exact rep_str
    | _ => cases hi
  cases r with
  | d z =>
    cases hv
    exact dat G1 (Ex.refl G1) F1 rv
  | own a z =>
    cases hv
    obtain ⟨G1', e1', F1', rw1⟩ := rv.weak F1
    exact dat G1' e1' F1' rw1
  | deep a z gs => cases hv
  | bor i a =>
    obtain ⟨ev, _⟩ := rv
    subst ev
    have ow : ∀ j δ2 G2 H2 σ2, j ≤ ds.length → I j δ2 → Frame c.K B G2 H2 σ2 δ2 → OwnR c.K G2 H2 a y := fun j δ2 G2 H2 σ2 hj hI F2 => (view_own F2 (iat j δ2 hj hI)).1
    cases y with
    | lst ys =>
      cases hi
      have own : ∀ j δ2 G2 H2 σ2, j ≤ ds.length → I j δ2 → Frame c.K B G2 H2 σ2 δ2 → ∃ xs, H2 a = some (.lst xs) ∧ Reps c.K G2 ds xs := ow
      refine .inl ⟨a, rfl, ?_, ?_⟩
      · obtain ⟨xs, hx, _⟩ := own 0 δ1 G1 H1 σ (Nat.zero_le _) i0 F1
        exact ⟨xs, SqL.of hx⟩
      have Wk : Walk (Itl c.K a) ds.length (fun H => ∃ xs, SqL c.K H a xs ∧ xs.length = ds.length) (fun i H x H' => H' = H ∧ ∀ xs, SqL c.K H a xs → xs[i]? = some x) :=
        ⟨fun i _ hi ⟨xs, q, l⟩ => ⟨xs, xs[i]'(by omega), q, by simp [show i < xs.length by omega]⟩, fun _ ⟨xs, q, l⟩ => ⟨xs, q, by omega⟩, fun _ _ _ _ _ _ y => y⟩
      refine core _ _ _ G1 Wk (Ex.refl G1) F1 (fun j δ2 G2 H2 σ2 hj hI _ F2 => ?_) fun j δ2 G2 H2 σ2 z H3 hj hI _ F2 yy => ⟨yy.1, ?_⟩
      · obtain ⟨xs, hx, hr⟩ := own j δ2 G2 H2 σ2 hj hI F2
        exact ⟨xs, SqL.of hx, reps_length hr⟩
      · obtain ⟨xs, hx, hr⟩ := own j δ2 G2 H2 σ2 (Nat.le_of_lt hj) hI F2
        exact reps_getV hr (yy.2 xs (SqL.of hx))
    | dct kds => cases hi
    | dcT kds => cases hi
    | obj C fs => cases hi
    | _ => exact (ow 0 δ1 G1 H1 σ (Nat.zero_le _) i0 F1).elim
end
/-- a thing, as data or as one's own -/
inductive Arg (x : D) : Sl → Prop
  | d : Arg x (.d x)
  | o (b : Addr) : Arg x (.own b x)
end DL

/-! DL34: list(range(..)); a walk over a dict with tuple keys that a path tells. -/
namespace DL
open PySem PySem.Spec PyProof.Rows L2
open Evl (Ex)
section
variable {c : Cd} {p : Bool} {δ : List Sl} {ta : TE} {Φ : R → List Sl → Prop}
end
/-! ### for k in e: e a dict with tuple keys -/
def keyTD (k : List Key) : D := .tup (k.map keyD)
/-- a path that tells a dict with tuple keys, locked or not -/
def PthT (K : PySem.W.Frag) (te : TE) (δ : List Sl) (tds : List (List Key × D)) : Prop := ∀ (B G H : Hp) (σ : L2.St), Frame K B G H σ δ → ∃ (a : Addr) (kvs : List (List Key × V)), Rd G a (.dT kvs) ∧ RepT K G tds kvs ∧
  ∀ (G1 H1 : Hp), LE G G1 → Frame K B G1 H1 σ δ → ∀ Q : VK, Q (.ref a) H1 → te σ H1 Q
section
variable {te : TE} {δ : List Sl} {tds : List (List Key × D)} {g : TG} {t : TS} {E : En}
end
section
variable {c : Cd} {te : TE} {δ : List Sl} {tds : List (List Key × D)} {g : TG} {t : TS} {N Bk Ct : List Sl → Prop} {Rt : R → List Sl → Prop}
end
end DL

/-! DL35: d.pop(k), dict(d), d with tuple keys. -/
namespace DL
open PySem PySem.Spec PyProof.Rows L2
open Evl (Ex)
section
variable {K : Type} [DecidableEq K] {prog : Program} {w : World} {knd : HeapKind prog w K} {A : Around} {E : Value → Shared → Prop} {s : Shared}
end
def rPopT1 : V → List V → Hp → VK → Prop := fun x xs H Q => ∃ (a : Addr) (kvs : List (List L2.Key × V)) (k : List L2.Key) (b : Addr) (v : V), x = .ref a ∧ xs = [.ref b] ∧ H a = some (.dT kvs) ∧ H b = some (.tup (k.map kV)) ∧
  valV kvs k = some v ∧ Q v (upd H a (.dT (dropK kvs k)))
def dropT (kds : List (List Key × D)) (k : List Key) : List (List Key × D) := kds.filter fun kv => decide (kv.1 ≠ k)
section
variable {c : Cd} {δ : List Sl} {te ta : TE} {Φ : R → List Sl → Prop}
end
end DL

/-! DL36: a comprehension that makes own objects; rows of rows. -/
namespace DL
open PySem PySem.Spec PyProof.Rows L2
open Evl (Ex)
section
variable {c : Cd} {p : Bool} {δ : List Sl} {te ta tb tx ty : TE} {tt : TT} {g : TG}
/-! rows of rows, a slot's own -/
end
end DL

/-! DL37: s.upper(); any thing among texts. -/
namespace PySem.SeqAt
open Builtin
section
variable {A : Around} {s : Shared}
end
end PySem.SeqAt
namespace DL
open PySem PySem.Spec PyProof.Rows L2
open Evl (Ex)
section
variable {X : Cx} {pins : List (Addr × Obj)} {σ : L2.St} {H : Hp} {s : Shared}
/-- a thing that is none among texts, but a text -/
def strIn (x : D) (ss : List Str) : Bool := match x with
  | .str z => decide (z ∈ ss)
  | _ => false
def strEq (x : D) (b : Str) : Bool := match x with
  | .str z => decide (b = z)
  | _ => false
end
def rInX (K : PySem.W.Frag) : R2 := fun x y H Q => ∃ d ss a, (tyD d).isSome = true ∧ Rep K H d x ∧ y = .ref a ∧ SqL K H a (ss.map V.str) ∧ Q (.bl (strIn d ss)) H
def rNotInX (K : PySem.W.Frag) : R2 := fun x y H Q => ∃ d ss a, (tyD d).isSome = true ∧ Rep K H d x ∧ y = .ref a ∧ SqL K H a (ss.map V.str) ∧ Q (.bl (!strIn d ss)) H
section
variable {X : Cx}
end
section
variable {c : Cd}
def dInX (f : Bool → Bool) : Dop := fun x y k => ∃ ss : List Str, (tyD x).isSome = true ∧ y = .lst (ss.map .str) ∧ k (.d (.bl (f (strIn x ss))))
/-! s.upper() -/
def rUpperA : V → List V → Hp → VK → Prop := fun x xs H Q => ∃ a, x = .str a ∧ xs = [] ∧ a.length ≤ 5592405 ∧ Q (.str (Txt.upper a)) H
/-- a call's arguments -/
theorem ex_callM {δ : List Sl} {as : List Sl} {rs : List R} {P : List Sl → Prop} (h1 : toAs δ rs = some as) (h2 : (owned as).Nodup) (q : P as) : ∃ as, toAs δ rs = some as ∧ (owned as).Nodup ∧ P as := ⟨as, h1, h2, q⟩
end
end DL

/-! DL38: for over a slot's dict. -/
namespace DL
open PySem PySem.Spec PyProof.Rows L2
open Evl (Ex)
section
variable {K : PySem.W.Frag} {cn : Cn} {Wx : WX} {Ψ : Nat → D → List Sl → Prop} {δ : List Sl} {kds : List (Key × D)} {i : Nat} {g : TG} {t : TS} {N Bk Ct : List Sl → Prop} {Rt : R → List Sl → Prop}
end
section
variable {x y z w : D} {P : List D → Prop}
end
section
variable {K : PySem.W.Frag} {B G H : Hp} {σ : L2.St} {δ : List Sl}
end
section
variable {c : Cd} {δ : List Sl} {te : TE} {Φ : R → List Sl → Prop}
end
end DL

/-! DL39: min, max of a list of ints with a default. -/
namespace PySem
open Builtin

section
variable {prog : Program} {w : World} {A : Around} {R : Result → Shared → Prop} {it : Addr} {fp wr : List Addr} {n : Nat} {P : Nat → Value → Prop} {St : Nat → Heap → Prop}
end
section
variable {prog : Program} {w : World} {A : Around} {E : Value → Shared → Prop} {s : Shared}
end

section
variable {prog : Program} {w : World} {A : Around} {R : Result → Shared → Prop} {it : Addr} {fp wr : List Addr} {n : Nat} {P : Nat → Value → Prop} {St : Nat → Heap → Prop}
end
section
variable {prog : Program} {w : World} {A : Around} {E : Value → Shared → Prop} {s : Shared}
end
end PySem

namespace L2
open PySem PySem.Spec PyProof.Rows
section
variable {X : Cx}
def rminD (K : PySem.W.Frag) : List V → List V → Hp → VK → Prop := fun xs zs H Q => ∃ (a : Addr) (ns : List Int) (d : V), xs = [.ref a] ∧ zs = [d] ∧ SqL K H a (ns.map V.int) ∧ (ns = [] → Q d H) ∧ ∀ m, m ∈ ns → (∀ y, y ∈ ns → m ≤ y) → Q (.int m) H
end
end L2
namespace DL
open PySem PySem.Spec PyProof.Rows L2
open Evl (Ex)
section
variable {c : Cd} {p : Bool} {δ : List Sl} {tr tk : TA} {Φ : R → List Sl → Prop}
end
end DL

namespace L2
open PySem PySem.Spec PyProof.Rows
section
variable {X : Cx}
def rmaxD (K : PySem.W.Frag) : List V → List V → Hp → VK → Prop := fun xs zs H Q => ∃ (a : Addr) (ns : List Int) (d : V), xs = [.ref a] ∧ zs = [d] ∧ SqL K H a (ns.map V.int) ∧ (ns = [] → Q d H) ∧ ∀ m, m ∈ ns → (∀ y, y ∈ ns → y ≤ m) → Q (.int m) H
end
end L2
namespace DL
open PySem PySem.Spec PyProof.Rows L2
open Evl (Ex)
section
variable {c : Cd} {p : Bool} {δ : List Sl} {tr tk : TA} {Φ : R → List Sl → Prop}
end
end DL

/-! DL40: for over the items of a dict that a call hands on; sorted of a list of numbers. -/
namespace L2
open PySem PySem.Spec PyProof.Rows
/-- a dict that is handed on is locked from here on -/
def tLkR (t : TE) : TE := fun σ H Q => t σ H fun x H1 => ∃ d u, x = .ref d ∧ H1 d = some u ∧ Mut (some u) ∧ ∀ od, Q x (upd H1 d (.frz od u))
end L2
namespace DL
open PySem PySem.Spec PyProof.Rows L2
open Evl (Ex)
section
variable {c : Cd} {δ : List Sl} {te : TE}
end
end DL

/-! DL41: any thing in a tuple of texts. -/
namespace DL
open PySem PySem.Spec PyProof.Rows L2
open Evl (Ex)
def rInXT (K : PySem.W.Frag) : R2 := fun x y H Q => ∃ d ss a, (tyD d).isSome = true ∧ Rep K H d x ∧ y = .ref a ∧ SqT K H a (ss.map V.str) ∧ Q (.bl (strIn d ss)) H
def rNotInXT (K : PySem.W.Frag) : R2 := fun x y H Q => ∃ d ss a, (tyD d).isSome = true ∧ Rep K H d x ∧ y = .ref a ∧ SqT K H a (ss.map V.str) ∧ Q (.bl (!strIn d ss)) H
section
variable {X : Cx}
end
section
variable {c : Cd}
def dInXT (f : Bool → Bool) : Dop := fun x y k => ∃ ss : List Str, (tyD x).isSome = true ∧ y = .tup (ss.map .str) ∧ k (.d (.bl (f (strIn x ss))))
end
end DL

/-! DL42: any thing in a tuple of texts that the module keeps. -/
namespace DL
open PySem PySem.Spec PyProof.Rows L2
open Evl (Ex)
def KTup (K : PySem.W.Frag) (a : Addr) (ss : List Str) : Prop := ∃ (o : Obj) (its : Array Value) (n : Nat), K.lookup a = some o ∧ o.cls = .type "tuple" ∧ o.data = .seq its n ∧ its.size ≤ sizeLine ∧ Vals (ss.map V.str) its.toList
section
variable {c : Cd} {p : Bool} {δ : List Sl} {te : TE} {Φ : R → List Sl → Prop}
end
end DL

/-! DL43: abs; d.get(k, z). -/
namespace DL
open PySem PySem.Spec PyProof.Rows L2
open Evl (Ex)
def rAbsA : List V → Hp → VK → Prop := fun xs H Q => ∃ i, xs = [V.int i] ∧ Q (.int (if i < 0 then -i else i)) H
section
variable {c : Cd} {p : Bool} {δ : List Sl} {ta tb tz : TE} {Φ : R → List Sl → Prop}
end
end DL

/-! DL44: a pair of numbers in a list of pairs, and its place. -/
namespace DL
open PySem PySem.Spec PyProof.Rows L2
open Evl (Ex)
def prI (q : Int × Int) : D := .tup [.int q.1, .int q.2]
def prP (q : Int × Int) : PyData := .tuple [.int q.1, .int q.2]
section
variable {X : Cx}
def rInP (K : PySem.W.Frag) : R2 := fun x y H Q => ∃ (p : Int × Int) (ps : List (Int × Int)) (vs : List V) (a : Addr), Rep K H (prI p) x ∧ y = .ref a ∧ SqL K H a vs ∧ Reps K H (ps.map prI) vs ∧ Q (.bl (decide (p ∈ ps))) H
def rIndexP (K : PySem.W.Frag) : V → List V → Hp → VK → Prop := fun x xs H Q => ∃ (p : Int × Int) (ps : List (Int × Int)) (vs : List V) (a : Addr) (y : V) (j : Nat), x = V.ref a ∧ xs = [y] ∧ Rep K H (prI p) y ∧ SqL K H a vs ∧ Reps K H (ps.map prI) vs ∧ ps[j]? = some p ∧ (∀ m : Nat, m < j → ps[m]? ≠ some p) ∧ Q (.int (j : Nat)) H
end
section
variable {c : Cd}
/-- a pair in a list of pairs -/
def dInP : Dop := fun x y k => ∃ (p : Int × Int) (ps : List (Int × Int)), x = prI p ∧ y = .lst (ps.map prI) ∧ k (.d (.bl (decide (p ∈ ps))))
end
end DL

/-! DL45: list(text). -/
namespace DL
open PySem PySem.Spec PyProof.Rows L2
open Evl (Ex)
def rListS : List V → Hp → VK → Prop := fun xs H Q => ∃ z : Str, xs = [.str z] ∧ z.cps.size ≤ 100000 ∧ ∀ p, H p = none → Q (.ref p) (upd H p (.lst (z.cps.toList.map fun ch => V.str ⟨#[ch]⟩)))
section
variable {c : Cd}
end
end DL

/-! DL46: dict(list of pairs), the keys being tuples; dict(d), its keys tuples of unlike hashes. -/
namespace DL
open PySem PySem.Spec PyProof.Rows L2
open Evl (Ex)
def rDictPT (K : PySem.W.Frag) : List V → Hp → VK → Prop := fun xs H Q => ∃ (a : Addr) (ps : List Addr) (kvs : List (List Key × V)), xs = [.ref a] ∧ SqL K H a (ps.map V.ref) ∧
  Paired (fun p kv => ∃ b, SqT K H p [V.ref b, kv.2] ∧ H b = some (.tup (kv.1.map kV))) ps kvs ∧ (kvs.map Prod.fst).Nodup ∧ ∀ p, H p = none → Q (.ref p) (upd H p (.dT kvs))
/-- the hash of a pair of small numbers -/
def hash2 (p : Nat × Nat) : Int := reduceHash (Builtin.Tuple.tupleHashOf [hashInt (p.1 : Nat), hashInt (p.2 : Nat)])
def smallPs : List (Nat × Nat) := (List.range 13).flatMap fun i => (List.range 13).map fun j => (i, j)
def kP (p : Nat × Nat) : List Key := [.inl (p.1 : Int), .inl (p.2 : Int)]
def rDictDT : List V → Hp → VK → Prop := fun xs H Q => ∃ (a : Addr) (kvs : List (List Key × V)) (ps : List (Nat × Nat)), xs = [.ref a] ∧ Rd H a (.dT kvs) ∧ kvs.map Prod.fst = ps.map kP ∧ (∀ q ∈ ps, q.1 < 13 ∧ q.2 < 13) ∧ ∀ p, H p = none → Q (.ref p) (upd H p (.dT kvs))
def rDictTT (K : PySem.W.Frag) : List V → Hp → VK → Prop := fun xs H Q => rDictPT K xs H Q ∨ rDictDT xs H Q
/-- pairs of a tuple key and data -/
def pairsT : List D → Option (List (List Key × D))
  | [] => some []
  | .tup [k, x] :: r => match dKeyT k with
    | some key => (pairsT r).map ((key, x) :: ·)
    | none => none
  | _ :: _ => none
section
variable {c : Cd}
end
end DL

/-! DL47: f-strings of texts and numbers. -/
namespace DL
open PySem PySem.Spec PyProof.Rows L2
open Evl (Ex)
def tFS (ts : List TE) : TE := fun σ H Q => tJs ts Str.empty σ H fun out H1 => Q (.str out) H1
section
variable {c : Cd} {p : Bool} {δ : List Sl} {te : TE} {Φ : R → List Sl → Prop}
def WJs (c : Cd) (p : Bool) : List TE → Str → List Sl → (Str → List Sl → Prop) → Prop
  | [], acc, δ, Ψ => Ψ acc δ
  | t :: ts, acc, δ, Ψ => WE c p t δ fun r δ1 => ∃ y : Str, r = .d (.str y) ∧ (acc ++ y).length ≤ 16000000 ∧ WJs c p ts (acc ++ y) δ1 Ψ
end
end DL

/-! DL48: sorted of a list of alike data (numbers, texts, tuples of these), any length. -/
namespace DL
open PySem PySem.Spec PyProof.Rows L2
open Evl (Ex)
abbrev SIt := V × D × PyData
def encS (b : SIt) : PyData := b.2.2
def leD (x y : D) : Bool := PySem.W.dataLe false (fun d => (pyA d).getD .none) x y
def rSortG (K : PySem.W.Frag) : List V → Hp → VK → Prop := fun vs H Q => ∃ (a : Addr) (bs : List SIt), vs = [V.ref a] ∧ SqL K H a (bs.map (·.1)) ∧ (∀ b ∈ bs, Rep K H b.2.1 b.1 ∧ pyA b.2.1 = some b.2.2 ∧ b.2.2.depth ≤ 50) ∧
  PySem.W.AllAlike (bs.map encS) ∧ PySem.W.Sortable (bs.map encS) ∧ bs.length ≤ sizeLine ∧ ∀ p, H p = none → Q (.ref p) (upd H p (.lst ((bs.mergeSort (PySem.W.dataLe false encS)).map (·.1))))
theorem vals_each : ∀ {bs : List SIt} {us : List Value}, Vals (bs.map (·.1)) us → PySem.W.EachIs (fun (u : Value) (b : SIt) => RelV b.1 u) us bs
  | [], _, h => by cases h; exact .nil
  | b :: bs, _, h => by
    cases h with
    | cons h1 h2 => exact .cons h1 (vals_each h2)
theorem each_vals : ∀ {bs : List SIt} {us : List Value}, PySem.W.EachIs (fun (u : Value) (b : SIt) => RelV b.1 u) us bs → Vals (bs.map (·.1)) us
  | _, _, .nil => .nil
  | _, _, .cons h1 h2 => .cons h1 (each_vals h2)
theorem each_reads {X : Cx} {pins : List (Addr × Obj)} {σ : St} {H : Hp} {s : Shared} (I : Inv X pins σ H s) (m : ∃ o es ep, X.base.get? sysModules = some o ∧ o.data = .dict es ep) : ∀ {bs : List SIt} {us : List Value}, (∀ b ∈ bs, Rep X.K H b.2.1 b.1 ∧ pyA b.2.1 = some b.2.2) →
    PySem.W.EachIs (fun (u : Value) (b : SIt) => RelV b.1 u) us bs → PySem.W.EachIs (fun u b => ∃ as, Reads s.heap u (encS b) as) us bs
  | _, _, _, .nil => .nil
  | b :: bs, _, h, .cons h1 h2 => by
    obtain ⟨as, r, _⟩ := rep_reads I m b.2.1 b.1 _ b.2.2 (h b List.mem_cons_self).2 (h b List.mem_cons_self).1 h1
    exact .cons ⟨as, r⟩ (each_reads I m (fun c hc => h c (List.mem_cons_of_mem _ hc)) h2)
theorem call_sortG {X : Cx} (g : GOk X.base X.A) (hu : X.A.units + 64 < cLine) : CallR X (.builtin "sorted") (rSortG X.K) := by
  intro pins s σ H vs us Q I r h
  obtain ⟨a, bs, e, hs, hb, hal, hk, hl, q⟩ := h
  subst e
  obtain ⟨its, rv, pl, hz⟩ := I.list hs
  rw [Vals.ref1 r]
  have e := vals_each rv
  have pl' : s.heap.IsList a its.toArray := by
    obtain ⟨o, n, h1, h2, _, h3⟩ := pl
    exact ⟨o, h1, h2, n, h3⟩
  have er := each_reads I g.2 (fun b hb' => ⟨(hb b hb').1, (hb b hb').2.1⟩) e
  refine PySem.W.sorted_data (Q := EP X pins σ Q) (R := fun (u : Value) (b : SIt) => RelV b.1 u) pl' e er hal hk hl (fun b hb' => by have := (hb b hb').2.2; show X.A.units + 2 + b.2.2.depth < cLine; omega) fun out ho eo => ?_
  obtain ⟨c, hc⟩ := PyProof.Rows.sortedAll_at s.heap its out.toArray
  have hsz : ((bs.mergeSort (PySem.W.dataLe false encS)).map (·.1)).length ≤ sizeLine := by rw [List.length_map, List.length_mergeSort]; exact hl
  exact ⟨.ref (s.heap.objs.size + 1), upd H (s.heap.objs.size + 1) (.lst ((bs.mergeSort (PySem.W.dataLe false encS)).map (·.1))), I.laid (t' := s.toks) (fun b u q => PyProof.Rows.sortedAll_old q) (Nat.le_succ _) ⟨hsz, out, c, each_vals eo, hc⟩, rfl, q _ (I.hok.fresh (Nat.le_succ _))⟩
theorem zipS {K : PySem.W.Frag} {G : Hp} : ∀ {xs : List D} {vs : List V} {bs : List PyData}, Reps K G xs vs → pyAs xs = some bs → ∃ its : List SIt, its.map (·.1) = vs ∧ its.map (·.2.1) = xs ∧ its.map encS = bs ∧ ∀ b ∈ its, Rep K G b.2.1 b.1 ∧ pyA b.2.1 = some b.2.2
  | [], vs, bs, r, e => by
    unfold Reps at r
    unfold pyAs at e
    subst r
    cases e
    exact ⟨[], rfl, rfl, rfl, fun b hb => nomatch hb⟩
  | x :: xs, vs, bs, r, e => by
    unfold Reps at r
    obtain ⟨v, vr, e1, h1, h2⟩ := r
    subst e1
    unfold pyAs at e
    cases e2 : pyA x with
    | none => simp [e2] at e
    | some d =>
      cases e3 : pyAs xs with
      | none => simp [e2, e3] at e
      | some ds =>
        simp only [e2, e3] at e
        cases e
        obtain ⟨its, q1, q2, q3, q4⟩ := zipS h2 e3
        refine ⟨(v, x, d) :: its, by rw [List.map_cons, q1], by rw [List.map_cons, q2], by rw [List.map_cons, q3]; rfl, fun b hb => ?_⟩
        rcases List.mem_cons.mp hb with z | z
        · subst z; exact ⟨h1, e2⟩
        · exact q4 b z
theorem reps_its {K : PySem.W.Frag} {G : Hp} : ∀ {its : List SIt}, (∀ b ∈ its, Rep K G b.2.1 b.1) → Reps K G (its.map (·.2.1)) (its.map (·.1))
  | [], _ => reps_nil
  | b :: its, h => reps_cons (h b List.mem_cons_self) (reps_its fun c hc => h c (List.mem_cons_of_mem _ hc))
theorem cad_sortG {c : Cd} : CaD c (rSortG c.K) fun ds k => ∃ xs bs, ds = [.lst xs] ∧ pyAs xs = some bs ∧ PySem.W.AllAlike bs ∧ PySem.W.Sortable bs ∧ xs.length ≤ 16000000 ∧ (∀ b ∈ bs, b.depth ≤ 50) ∧ ∀ a, k (.own a (.lst (xs.mergeSort leD))) := by
  intro B G H σ δ rs vs ds Ψ Q F hr hv hd k
  obtain ⟨xs, bs, e, hp, hal, hso, hl, hdp, q⟩ := hd
  subst e
  obtain ⟨r1, w, e1, e2, h1, h2⟩ := view_one hv hr
  subst e2
  obtain ⟨a, ws, e3, g1, g2⟩ := view_lst F h2 h1
  subst e3
  obtain ⟨its, z1, z2, z3, z4⟩ := zipS g2 hp
  have hil : its.length = xs.length := by rw [← z2, List.length_map]
  refine ⟨a, its, rfl, .inl (by rw [z1]; exact g1), fun b hb => ⟨Rep.mono F.exG (z4 b hb).1, (z4 b hb).2, hdp _ (by rw [← z3]; exact List.mem_map_of_mem hb)⟩, by rw [z3]; exact hal, by rw [z3]; exact hso, by rw [hil, sizeLine_eq]; omega, fun p hl2 => ?_⟩
  have hm : (its.mergeSort (PySem.W.dataLe false encS)).map (·.2.1) = xs.mergeSort leD := by
    rw [← z2]
    refine List.map_mergeSort fun x hx y hy => ?_
    unfold leD
    rw [PySem.W.dataLe_eq, PySem.W.dataLe_eq]
    show (!PySem.W.dataLt y.2.2 x.2.2) = (!PySem.W.dataLt ((pyA y.2.1).getD .none) ((pyA x.2.1).getD .none))
    rw [(z4 x hx).2, (z4 y hy).2]
    rfl
  have hr2 : Reps c.K G (xs.mergeSort leD) ((its.mergeSort (PySem.W.dataLe false encS)).map (·.1)) := by
    rw [← hm]
    exact reps_its fun b hb => (z4 b (List.mem_mergeSort.mp hb)).1
  exact k _ _ G _ (q p) (Ex.refl G) (Ex.new hl2) (F.ex (Ex.new hl2)) (rv_newL F hl2 hr2)
end DL

/-! DL49: any pure thing in a list or tuple of pure things, and its place. -/
namespace DL
open PySem PySem.Spec PyProof.Rows L2
open Evl (Ex)
def seqP (t : Bool) (ds : List PyData) : PyData := if t = true then .tuple ds else .list ds
def rInG (K : PySem.W.Frag) (neg : Bool) : R2 := fun x y H Q => ∃ d ds t, Dp K H x d ∧ Dp K H y (seqP t ds) ∧ d.canLay0 = true ∧ PyData.canLayAll0 ds = true ∧ d.depth ≤ 60 ∧ Q (.bl (if neg = true then !(ds.any fun e => PyData.eqv e d) else ds.any fun e => PyData.eqv e d)) H
section
variable {X : Cx}
theorem op_inG (hu : X.A.units + 64 < cLine) : OpR X (compareOp .In) (rInG X.K false) := by
  intro pins s σ H x y v u Q I rx ry h
  obtain ⟨d, ds, t, h1, h2, h3, h4, h5, q⟩ := h
  obtain ⟨as, r1⟩ := Dp.reads I _ _ _ h1 rx
  obtain ⟨bs, r2⟩ := Dp.reads I _ _ _ h2 ry
  have hm : min (PyData.depthAll ds) d.depth ≤ 60 := Nat.le_trans (Nat.min_le_right _ _) h5
  cases t
  · exact SeqAt.in_list_reads r2 r1 h4 h3 (by omega) ⟨.bl _, H, I, rfl, q⟩
  · exact SeqAt.in_tuple_reads r2 r1 h4 h3 (by omega) ⟨.bl _, H, I, rfl, q⟩
theorem op_notInG (hu : X.A.units + 64 < cLine) : OpR X (compareOp .NotIn) (rInG X.K true) := by
  intro pins s σ H x y v u Q I rx ry h
  obtain ⟨d, ds, t, h1, h2, h3, h4, h5, q⟩ := h
  obtain ⟨as, r1⟩ := Dp.reads I _ _ _ h1 rx
  obtain ⟨bs, r2⟩ := Dp.reads I _ _ _ h2 ry
  have hm : min (PyData.depthAll ds) d.depth ≤ 60 := Nat.le_trans (Nat.min_le_right _ _) h5
  cases t
  · exact SeqAt.notIn_list_reads r2 r1 h4 h3 (by omega) ⟨.bl _, H, I, rfl, q⟩
  · exact SeqAt.notIn_tuple_reads r2 r1 h4 h3 (by omega) ⟨.bl _, H, I, rfl, q⟩
def rIndexG (K : PySem.W.Frag) : V → List V → Hp → VK → Prop := fun x xs H Q => ∃ (d : PyData) (ds : List PyData) (vs : List V) (a : Addr) (y : V) (j : Nat), x = V.ref a ∧ xs = [y] ∧ Dp K H y d ∧ SqL K H a vs ∧ DpAll K H vs ds ∧ d.canLay0 = true ∧ PyData.canLayAll0 ds = true ∧ d.depth ≤ 60 ∧
  (∃ e, ds[j]? = some e ∧ PyData.eqv e d = true) ∧ (∀ (m : Nat) e, m < j → ds[m]? = some e → PyData.eqv e d = false) ∧ Q (.int (j : Nat)) H
theorem mt_indexG (hu : X.A.units + 64 < cLine) : MtR X "list.index" (rIndexG X.K) := by
  intro pins s σ H x xs v us Q I rx rxs h
  obtain ⟨d, ds, vs, a, y, j, rfl, rfl, h1, hs, hr, h3, h4, h5, ⟨e, he, hev⟩, hno, q⟩ := h
  cases rx
  cases rxs with
  | cons ry rt =>
    rename_i uy ut
    cases rt
    obtain ⟨its, rv, ⟨⟨cls, dd, data, sl⟩, n, ho, hc, hdn, hd⟩, hlen⟩ := I.list hs
    simp only at hc hd
    subst hc hd
    obtain ⟨as, r1⟩ := Dp.reads I _ _ _ h1 ry
    obtain ⟨bs, r2⟩ := Dp.readsAll I _ _ _ hr rv
    have hm : min (PyData.depthAll ds) d.depth ≤ 60 := Nat.le_trans (Nat.min_le_right _ _) h5
    have f1 := SeqAt.items_eqAt (A := X.A) (vs := its.toArray) (by simpa using r2) r1 h4 h3 (by omega)
    have hmap := SeqAt.readsAll_map ds its bs h4 r2
    have get : ∀ (m : Nat) (z : Value), its[m]? = some z → ds[m]? = some (SeqAt.readOf s.heap z) := fun m z hz => by
      rw [← hmap, List.getElem?_map, hz]; rfl
    have hil : its.length = ds.length := by rw [← hmap, List.length_map]
    obtain ⟨hjl, hje⟩ := List.getElem?_eq_some_iff.mp he
    have hvl := rv.length
    have hj : j < its.toArray.size := by simpa [hil] using hjl
    have hsl := sizeLine_eq
    refine call_meets PySem.F.slot_list_index ⟨_, ho, rfl⟩ PySem.F.entry_list_index (PySem.F.args_list_index_2 _ _)
      (SeqAt.list_indexAt a its.toArray n dd sl uy (fun z => PyData.eqv (SeqAt.readOf s.heap z) d) j hj (by omega) ?_ ?_) ⟨ho, f1, ?_⟩
    · have hji : j < its.length := by omega
      have := get j its[j] (List.getElem?_eq_getElem hji)
      rw [he] at this
      have e1 : its.toArray[j] = its[j] := by simp
      rw [e1, ← Option.some.inj this, hev]
    · intro m hm2 hmj
      have hml : m < its.length := by simpa using hm2
      have := get m its[m] (List.getElem?_eq_getElem hml)
      have e1 : its.toArray[m] = its[m] := by simp
      rw [e1]
      exact hno m _ hmj this
    · exact ⟨.int (j : Nat), H, I.tok _, ⟨_, rfl⟩, q⟩
end
section
variable {c : Cd}
/-- a pure thing in a list or tuple of pure things -/
def dInG (f : Bool → Bool) : Dop := fun x y k => ∃ ys, (y = .lst ys ∨ y = .tup ys) ∧ pure0 x = true ∧ pure0s ys = true ∧ dpt x ≤ 60 ∧ (x ∈ ys → k (.d (.bl (f true)))) ∧ (x ∉ ys → k (.d (.bl (f false))))
theorem any_pure {x : D} {d : PyData} (hx : pure0 x = true) (h1 : py x = some d) : ∀ {ys : List D} {ds : List PyData}, pure0s ys = true → pys ys = some ds → ((ds.any fun e => PyData.eqv e d) = true ↔ x ∈ ys)
  | [], ds, _, h => by unfold pys at h; cases h; simp
  | y :: ys, ds, hp, h => by
    unfold pys at h
    cases q : py y with
    | none => rw [q] at h; cases h
    | some e0 =>
      rw [q] at h
      cases q2 : pys ys with
      | none => rw [q2] at h; cases h
      | some er =>
        rw [q2] at h
        cases h
        unfold pure0s at hp
        obtain ⟨hp0, hp1⟩ := Bool.and_eq_true_iff.mp hp
        rw [List.any_cons, Bool.or_eq_true_iff, eqv_pure y x e0 d hp0 hx q h1, any_pure hx h1 hp1 q2, List.mem_cons]
        exact or_congr_left ⟨Eq.symm, Eq.symm⟩
theorem opd_inGc (neg : Bool) {r : R2} (hr : r = rInG c.K neg) : OpD c r (dInG (neg ^^ ·)) := by
  intro B G H σ δ r1 r2 v1 v2 x y Ψ Q F h1 h2 e1 e2 hf k
  subst hr
  obtain ⟨ys, hy, hx, hys, hd, k1, k2⟩ := hf
  have q1 := view_repH F h1 e1
  have q2 := view_repH F h2 e2
  obtain ⟨d, a1, a2, a3⟩ := pure_py x hx
  obtain ⟨ds, b1, b2, b3⟩ := pures_py ys hys
  have iff := any_pure hx a1 hys b1
  have core : ∀ t : Bool, y = (if t = true then .tup ys else .lst ys) → rInG c.K neg v1 v2 H Q := fun t ht => by
    have hy2 : py y = some (seqP t ds) := by
      rw [ht]
      cases t
      · show py (.lst ys) = some (.list ds)
        unfold py; rw [b1]; rfl
      · show py (.tup ys) = some (.tuple ds)
        unfold py; rw [b1]; rfl
    refine ⟨d, ds, t, py_dp a1 q1, py_dp hy2 q2, a2, b2, by rw [a3]; exact hd, ?_⟩
    by_cases m : x ∈ ys
    · have e := iff.mpr m
      rw [e]
      have kb := k1 m
      cases neg
      · exact k _ _ G H kb (Ex.refl G) (Ex.refl H) F (rv_bl (K := c.K))
      · exact k _ _ G H kb (Ex.refl G) (Ex.refl H) F (rv_bl (K := c.K))
    · have e : (ds.any fun e => PyData.eqv e d) = false := Bool.eq_false_iff.mpr fun z => m (iff.mp z)
      rw [e]
      have kb := k2 m
      cases neg
      · exact k _ _ G H kb (Ex.refl G) (Ex.refl H) F (rv_bl (K := c.K))
      · exact k _ _ G H kb (Ex.refl G) (Ex.refl H) F (rv_bl (K := c.K))
  rcases hy with hy | hy
  · exact core false hy
  · exact core true hy
theorem opd_inG : OpD c (rInG c.K false) (dInG id) := by
  have e : dInG (false ^^ ·) = dInG id := by
    congr 1
    funext b
    exact Bool.false_xor b
  rw [← e]
  exact opd_inGc false rfl
theorem opd_notInG : OpD c (rInG c.K true) (dInG not) := by
  have e : dInG (true ^^ ·) = dInG not := by
    congr 1
    funext b
    exact Bool.true_xor b
  rw [← e]
  exact opd_inGc true rfl
theorem med_indexG : MeD c (rIndexG c.K) fun x ds k => ∃ xs y j, x = .lst xs ∧ ds = [y] ∧ pure0 y = true ∧ pure0s xs = true ∧ dpt y ≤ 60 ∧ xs[j]? = some y ∧ (∀ m : Nat, m < j → xs[m]? ≠ some y) ∧ k (.d (.int (j : Nat))) := by
  intro B G H σ δ r1 rs v vs x ds Ψ Q F h1 hr e1 e2 hf k
  obtain ⟨xs, y, j, ex, ed, hy, hxs, hd, hj, hno, q⟩ := hf
  subst ex ed
  obtain ⟨a, ws, ev, ha, hw⟩ := view_lst F h1 e1
  subst ev
  obtain ⟨r, w, er, ew, e3, h3⟩ := view_one e2 hr
  subst er ew
  obtain ⟨d, a1, a2, a3⟩ := pure_py y hy
  obtain ⟨es, b1, b2, b3⟩ := pures_py xs hxs
  have hit : ∀ {xs : List D} {es : List PyData}, pure0s xs = true → pys xs = some es → ∀ (m : Nat) (z : D), xs[m]? = some z → ∃ e, es[m]? = some e ∧ py z = some e ∧ pure0 z = true := by
    intro xs
    induction xs with
    | nil => intro es _ _ m z h; cases h
    | cons x xs ih =>
      intro es hp h m z hz
      unfold pys at h
      cases q : py x with
      | none => rw [q] at h; cases h
      | some e0 =>
        rw [q] at h
        cases q2 : pys xs with
        | none => rw [q2] at h; cases h
        | some er =>
          rw [q2] at h
          cases h
          unfold pure0s at hp
          obtain ⟨hp0, hp1⟩ := Bool.and_eq_true_iff.mp hp
          cases m with
          | zero => cases hz; exact ⟨e0, rfl, q, hp0⟩
          | succ m => exact ih hp1 q2 m z hz
  have hlen : es.length = xs.length := by
    have : ∀ {xs : List D} {es : List PyData}, pys xs = some es → es.length = xs.length := by
      intro xs
      induction xs with
      | nil => intro es h; unfold pys at h; cases h; rfl
      | cons x xs ih =>
        intro es h
        unfold pys at h
        cases q : py x with
        | none => rw [q] at h; cases h
        | some e0 =>
          rw [q] at h
          cases q2 : pys xs with
          | none => rw [q2] at h; cases h
          | some er => rw [q2] at h; cases h; rw [List.length_cons, List.length_cons, ih q2]
    exact this b1
  refine ⟨d, es, ws, a, w, j, rfl, rfl, py_dp a1 (view_repH F h3 e3), .inl ha, pys_dp b1 (Reps.mono F.exG hw), a2, b2, by rw [a3]; exact hd, ?_, ?_, k _ _ G H q (Ex.refl G) (Ex.refl H) F (rep_int (K := c.K) (G := G))⟩
  · obtain ⟨e, g1, g2, g3⟩ := hit hxs b1 j y hj
    exact ⟨e, g1, (eqv_pure y y e d g3 hy g2 a1).mpr rfl⟩
  · intro m e hm he
    have hmx : m < xs.length := by have := (List.getElem?_eq_some_iff.mp he).1; omega
    have hz := List.getElem?_eq_getElem hmx
    obtain ⟨e', g1, g2, g3⟩ := hit hxs b1 m _ hz
    rw [he] at g1
    cases g1
    exact Bool.eq_false_iff.mpr fun z => hno m hm (by rw [hz, (eqv_pure _ y e d g3 hy g2 a1).mp z])
/-- the place of a text in a text, where it stands there -/
def rSIndex : V → List V → Hp → VK → Prop := fun x xs H Q => ∃ a b i rest, x = .str a ∧ xs = [.str b] ∧ Builtin.Str.occurrences a b 0 a.length 1 = i :: rest ∧ Q (.int (i : Nat)) H
theorem mt_sindexA {X : Cx} : MtR X "str.index" rSIndex := mt_sindex
theorem med_sindex : MeD c rSIndex fun x ds k => ∃ a b i rest, x = .str a ∧ ds = [.str b] ∧ Builtin.Str.occurrences a b 0 a.length 1 = i :: rest ∧ k (.d (.int (i : Nat))) := by
  intro B G H σ δ r1 rs v vs x ds Ψ Q F h1 hr e1 e2 hf k
  obtain ⟨a, b, i, rest, ex, ed, ho, q⟩ := hf
  subst ex ed
  have q1 := view_repH F h1 e1
  unfold Rep at q1
  obtain ⟨r, w, er, ev, e4, h3⟩ := views_one (r2 := r1) e2 hr
  subst er ev
  have q2 := view_repH F h3 e4
  unfold Rep at q2
  exact ⟨a, b, i, rest, q1, by rw [q2], ho, k _ _ G H q (Ex.refl G) (Ex.refl H) F (rep_int (K := c.K) (G := G))⟩
end
end DL

/-! DL50: a slice of a tuple, not the whole of it. -/
namespace DL
open PySem PySem.Spec PyProof.Rows L2
open Evl (Ex)
section
variable {c : Cd} {p : Bool} {δ : List Sl} {te : TE} {Φ : R → List Sl → Prop}
theorem we_slT {to th : TO} (h : WE c p te δ fun r1 δ1 => WO c p to δ1 fun lo δ2 => WO c p th δ2 fun hi δ3 => ∃ xs, view δ3 (frz r1) = some (.tup xs) ∧ ¬ (HT.sIx xs.length 0 lo = 0 ∧ HT.sIx xs.length xs.length hi = xs.length) ∧ Φ (.d (.tup (cutD xs lo hi))) δ3) : WE c p (tSl (L2.rSlT c.K) te to th) δ Φ := by
  intro B G H σ Q F x k
  refine h B G H σ _ F x fun r1 δ1 v1 G1 H1 w1 e1 F1 rv1 p1 => ?_
  obtain ⟨G1', e1', F1', rw1⟩ := rv1.weak F1
  refine w1 B G1' H1 σ _ F1' (c.mono _ _ _ (e1.trans e1') x) fun lo δ2 G2 H2 w2 e2 F2 p2 => ?_
  refine w2 B G2 H2 σ _ F2 (c.mono _ _ _ ((e1.trans e1').trans e2) x) fun hi δ3 G3 H3 w3 e3 F3 p3 => ?_
  obtain ⟨xs, hy, hn, hd⟩ := w3
  have eG := (e1.trans e1').trans (e2.trans e3)
  have rw3 := rw1.mono (e2.trans e3)
  have pp : p = true → δ3 = δ ∧ Ex H H3 := fun hp => ⟨((p3 hp).1.trans (p2 hp).1).trans (p1 hp).1, ((p1 hp).2.trans (p2 hp).2).trans (p3 hp).2⟩
  obtain ⟨a, vs, q1, q2, q3⟩ := view_tup F3 rw3 hy
  have hln := reps_length q3
  refine ⟨a, vs, q1, q2, by rw [hln]; exact hn, fun b hb => ?_⟩
  have hG := (F3.fresh hb).2.1
  exact k _ δ3 _ (upd G3 b (.tup (cutV vs lo hi))) _ hd (eG.trans (Ex.new hG)) (F3.laid hb) (rep_newT hG (reps_cut q3)) fun hp => ⟨(pp hp).1, (pp hp).2.trans (Ex.new hb)⟩
end
end DL

/-! DL51: a list of one's own times a number. -/
namespace DL
open PySem PySem.Spec PyProof.Rows L2
open Evl (Ex)
section
variable {c : Cd} {δ : List Sl} {te th : TE} {Φ : R → List Sl → Prop}
theorem reps_rep {K : PySem.W.Frag} {G : Hp} {xs : List D} {vs : List V} (h : Reps K G xs vs) : ∀ m : Nat, Reps K G (List.replicate m xs).flatten (List.replicate m vs).flatten
  | 0 => reps_nil
  | m + 1 => by
    rw [List.replicate_succ, List.replicate_succ, List.flatten_cons, List.flatten_cons]
    exact reps_append h (reps_rep h m)
theorem we_rep (h : WE c false te δ fun r1 δ1 => ∃ a xs, r1 = .own a (.lst xs) ∧ WE c false th δ1 fun r2 δ2 => ∃ n : Nat, r2 = .d (.int (n : Nat)) ∧ n ≤ 1000 ∧ xs.length * n ≤ 100000 ∧ ∀ b, Φ (.own b (.lst (List.replicate n xs).flatten)) δ2) : WE c false (tOp L2.rRep te th) δ Φ := by
  intro B G H σ Q F x k
  refine h B G H σ _ F x fun r δ1 v G1 H1 w e1 F1 rv p1 => ?_
  obtain ⟨a, xs, er, w⟩ := w
  subst er
  obtain ⟨ev, ⟨vs, hx, hk⟩, hB, hG, hO⟩ := rv
  subst ev
  have Fz := F1.freeze hx hB hG hO
  have eG : Ex G1 (upd G1 a (.lst vs)) := Ex.new hG
  refine w B (upd G1 a (.lst vs)) H1 σ _ Fz (c.mono _ _ _ (e1.trans eG) x) fun r2 δ2 v2 G2 H2 w2 e2 F2 rv2 p2 => ?_
  obtain ⟨n, er2, h1, h2, hq⟩ := w2
  subst er2
  have hv2 : v2 = .int (n : Nat) := by
    have z : Rep c.K G2 (.int (n : Nat)) v2 := rv2
    unfold Rep at z
    exact z
  have hH : H2 a = some (.lst vs) := F2.exG a _ (e2 a _ upd_same)
  have hl := reps_length hk
  have hr := Reps.mono (eG.trans e2) hk
  refine ⟨a, (n : Nat), vs, rfl, hv2, hH, by omega, by omega, by rw [Int.toNat_natCast, hl, sizeLine_eq]; omega, fun b hb => ?_⟩
  rw [Int.toNat_natCast]
  exact k _ δ2 _ G2 _ (hq b) ((e1.trans eG).trans e2) (F2.ex (Ex.new hb)) (rv_newL F2 hb (reps_rep hr n)) fun z => nomatch z
end
end DL

/-! DL52: a goal's kind, told ahead of the step (fewer steps are tried). -/
namespace DL
open PySem PySem.Spec PyProof.Rows L2
section
variable {c : Cd} {p : Bool} {δ : List Sl}
theorem gW {t : TS} {N Bk Ct : List Sl → Prop} {Rt : R → List Sl → Prop} (h : W c t δ N Rt Bk Ct) : W c t δ N Rt Bk Ct := h
theorem gWE {te : TE} {Φ : R → List Sl → Prop} (h : WE c p te δ Φ) : WE c p te δ Φ := h
theorem gOp {f : V → V → Hp → VK → Prop} {te th : TE} {Φ : R → List Sl → Prop} (h : WE c p (tOp f te th) δ Φ) : WE c p (tOp f te th) δ Φ := h
theorem gCB {f : List V → Hp → VK → Prop} {ta : TA} {Φ : R → List Sl → Prop} (h : WE c p (tCB f ta) δ Φ) : WE c p (tCB f ta) δ Φ := h
theorem gWA {ta : TA} {Φ : List R → List Sl → Prop} (h : WA c p ta δ Φ) : WA c p ta δ Φ := h
theorem gWG {g : TG} {r : R} {Φ : List Sl → Prop} (h : WG c g r δ Φ) : WG c g r δ Φ := h
theorem gWT {tt : TT} {Φ : Bool → List Sl → Prop} (h : WT c p tt δ Φ) : WT c p tt δ Φ := h
end
end DL

namespace Lw
open PySem PySem.Spec PyProof.Rows L2 DL TL
open Evl (Ex)
abbrev St := L2.St
abbrev R := DL.R
abbrev XNoPlaces : Nat := 0
abbrev XNoName : Nat := 1
abbrev XTwice : Nat := 2
abbrev XNoTies : Nat := 3
abbrev XNoTie : Nat := 4
abbrev XNoPlace : Nat := 5
abbrev XLoop : Nat := 6
abbrev XNoLength : Nat := 7
abbrev XNoText : Nat := 8
abbrev XTied : Nat := 9
abbrev XBadLine : Nat := 10
abbrev CWeb : Nat := 11

def wholeB : D → Int → Int → Bool
  | .int i, lo, hi => decide (lo ≤ i) && decide (i ≤ hi)
  | _, _, _ => false
/-- the letters -/
def lettersL : List Nat := [97, 98, 99, 100, 101, 102, 103, 104, 105, 106, 107, 108, 109, 110, 111, 112, 113, 114, 115, 116, 117, 118, 119, 120, 121, 122]
def nmOk (x : Str) : Bool := decide (1 ≤ x.length) && decide (x.length ≤ 6) && (tl x).all fun ch => decide (ch ∈ lettersL)
structure NmOk (ns : List Str) : Prop where
  l1 : 1 ≤ ns.length
  l2 : ns.length ≤ 12
  nd : ns.Nodup
  ok : ∀ x ∈ ns, nmOk x = true
/-- names, as a list or a tuple -/
def nsD (t : Bool) (ns : List Str) : D := if t = true then .tup (ns.map .str) else .lst (ns.map .str)
/-- any thing -/
def anyD (x : D) : Prop := (tyD x).isSome = true ∧ strOk x
def nameB : D → Bool
  | .str s => nmOk s
  | _ => false
def S_is_whole : SpD := fun as Φ => ∃ x lo hi, as = [.d x, .d (.int lo), .d (.int hi)] ∧ (tyD x).isSome = true ∧ Φ (.d (.bl (wholeB x lo hi))) as
def S_is_name : SpD := fun as Φ => ∃ x, as = [.d x] ∧ anyD x ∧ Φ (.d (.bl (nameB x))) as
/-! webs -/
abbrev Tie := (Nat × Nat) × Nat
def kN (p : Nat × Nat) : List Key := [.inl (p.1 : Int), .inl (p.2 : Int)]
def pN (p : Nat × Nat) : D := .tup [.int p.1, .int p.2]
def lnK (L : List Tie) : List (List Key × D) := L.map fun t => (kN t.1, .int (t.2 : Nat))
def spK (ns : List Str) : List (Key × D) := ns.zipIdx.map fun q => (.inr q.1, .int (q.2 : Nat))
def webD (C : Addr) (ns : List Str) (L : List Tie) : D := .obj C [("spots", .dct (spK ns)), ("names", .lst (ns.map .str)), ("lengths", .dcT (lnK L))]
structure WbOk (ns : List Str) (L : List Tie) : Prop where
  nm : NmOk ns
  ok : ∀ t ∈ L, t.1.1 < t.1.2 ∧ t.1.2 < ns.length ∧ 1 ≤ t.2 ∧ t.2 ≤ 1000000
  nd : (L.map Prod.fst).Nodup
  le : L.length ≤ 40
def mm (i j : Nat) : Nat × Nat := (min i j, max i j)
def posN (s : Str) : List Str → Option Nat
  | [] => none
  | x :: xs => if x = s then some 0 else (posN s xs).map (· + 1)
def spotN (ns : List Str) : D → Option Nat
  | .str s => posN s ns
  | _ => none
/-- what is handed in as places: the names, or the refusal that is due -/
def scanN : List Str → List D → (Nat × D) ⊕ List Str
  | acc, [] => .inr acc
  | acc, .str s :: ds => if nmOk s = true then (if s ∈ acc then .inl (XTwice, .str s) else scanN (acc ++ [s]) ds) else .inl (XNoName, .str s)
  | _, d :: _ => .inl (XNoName, d)
def placesR (x : D) : (Nat × D) ⊕ List Str := match seqD x with
  | some ds => if 1 ≤ ds.length ∧ ds.length ≤ 12 then scanN [] ds else .inl (XNoPlaces, x)
  | none => .inl (XNoPlaces, x)
/-- one tie, behind others -/
def tieR (ns : List Str) (L : List Tie) (d : D) : (Nat × D) ⊕ List Tie := match d with
  | .tup [a, b, l] => match spotN ns a with
    | none => .inl (XNoPlace, a)
    | some i => match spotN ns b with
      | none => .inl (XNoPlace, b)
      | some j => if i = j then .inl (XLoop, d) else match l with
        | .int n => if 1 ≤ n ∧ n ≤ 1000000 then (if mm i j ∈ L.map Prod.fst then .inl (XTied, .tup [a, b]) else .inr (L ++ [(mm i j, n.toNat)])) else .inl (XNoLength, l)
        | _ => .inl (XNoLength, l)
  | _ => .inl (XNoTie, d)
def scanT (ns : List Str) : List Tie → List D → (Nat × D) ⊕ List Tie
  | L, [] => .inr L
  | L, d :: ds => match tieR ns L d with
    | .inl e => .inl e
    | .inr L' => scanT ns L' ds
def tiesR (ns : List Str) (x : D) : (Nat × D) ⊕ List Tie := match seqD x with
  | some ds => if ds.length ≤ 40 then scanT ns [] ds else .inl (XNoTies, x)
  | none => .inl (XNoTies, x)
/-- things in them are any -/
def anyS (x : D) : Prop := anyD x ∧ ∀ ds, seqD x = some ds → ∀ d ∈ ds, anyD d
def anyT (x : D) : Prop := anyS x ∧ ∀ ds, seqD x = some ds → ∀ es, .tup es ∈ ds → ∀ d ∈ es, anyD d
def S_spots_of : SpX := fun as Φ Y => ∃ s x, as = [s] ∧ Arg x s ∧ anyS x ∧ match placesR x with
  | .inl (n, y) => s = .d x ∧ Y n y
  | .inr ns => ∀ a, Φ (.own a (.dct (spK ns))) as
def S_spot_of : SpX := fun as Φ Y => ∃ ns x, as = [.d (.dct (spK ns)), .d x] ∧ NmOk ns ∧ anyD x ∧ match spotN ns x with
  | none => Y XNoPlace x
  | some i => Φ (.d (.int (i : Nat))) as
def S_pair_of : SpD := fun as Φ => ∃ i j : Nat, as = [.d (.int i), .d (.int j)] ∧ Φ (.d (pN (mm i j))) as
def S_lengths_of : SpX := fun as Φ Y => ∃ ns s x, as = [.d (.dct (spK ns)), s] ∧ Arg x s ∧ NmOk ns ∧ anyT x ∧ match tiesR ns x with
  | .inl (n, y) => s = .d x ∧ Y n y
  | .inr L => ∀ a, Φ (.own a (.dcT (lnK L))) as
def S_Web___init__ (cn : Cn) : SpX := fun as Φ Y => ∃ a s t x y, as = [.own a (.obj (cn.ad CWeb) []), s, t] ∧ Arg x s ∧ Arg y t ∧ anyS x ∧ anyT y ∧ match placesR x with
  | .inl (n, z) => s = .d x ∧ t = .d y ∧ Y n z
  | .inr ns => match tiesR ns y with
    | .inl (n, z) => s = .d x ∧ t = .d y ∧ Y n z
    | .inr L => Φ (.d .non) [.own a (webD (cn.ad CWeb) ns L), s, t]
/-- in their order -/
def lexN (p q : Nat × Nat) : Bool := decide (p.1 < q.1 ∨ (p.1 = q.1 ∧ p.2 ≤ q.2))
def sortT (L : List Tie) : List Tie := L.mergeSort fun s t => lexN s.1 t.1
def nmAt (ns : List Str) (i : Nat) : Str := ns.getD i ""
def tieD (ns : List Str) (t : Tie) : D := .tup [.str (nmAt ns t.1.1), .str (nmAt ns t.1.2), .int (t.2 : Nat)]
def tiesD (ns : List Str) (L : List Tie) : List D := (sortT L).map (tieD ns)
def besD (ns : List Str) (L : List Tie) (i : Nat) : List D := ns.zipIdx.filterMap fun q => (L.lookup (mm i q.2)).map fun l => .tup [.str q.1, .int (l : Nat)]
def lenO (L : List Tie) (i j : Nat) : D := ((L.lookup (mm i j)).map fun (l : Nat) => D.int l).getD .non
def toldD (ns : List Str) (L : List Tie) : D := .tup [.tup (ns.map .str), .tup (tiesD ns L)]
def S_Web_places (cn : Cn) : SpD := fun as Φ => ∃ ns L, as = [.d (webD (cn.ad CWeb) ns L)] ∧ ∀ b, Φ (.own b (.lst (ns.map .str))) as
def S_Web_many (cn : Cn) : SpD := fun as Φ => ∃ ns L, as = [.d (webD (cn.ad CWeb) ns L)] ∧ Φ (.d (.int (ns.length : Nat))) as
def S_Web_ties (cn : Cn) : SpD := fun as Φ => ∃ ns L, as = [.d (webD (cn.ad CWeb) ns L)] ∧ WbOk ns L ∧ ∀ b, Φ (.own b (.lst (tiesD ns L))) as
def S_Web_number (cn : Cn) : SpX := fun as Φ Y => ∃ ns L x, as = [.d (webD (cn.ad CWeb) ns L), .d x] ∧ NmOk ns ∧ anyD x ∧ match spotN ns x with
  | none => Y XNoPlace x
  | some i => Φ (.d (.int (i : Nat))) as
def S_Web_length (cn : Cn) : SpX := fun as Φ Y => ∃ ns L x y, as = [.d (webD (cn.ad CWeb) ns L), .d x, .d y] ∧ WbOk ns L ∧ anyD x ∧ anyD y ∧ match spotN ns x with
  | none => Y XNoPlace x
  | some i => match spotN ns y with
    | none => Y XNoPlace y
    | some j => Φ (.d (lenO L i j)) as
def S_Web_beside (cn : Cn) : SpX := fun as Φ Y => ∃ ns L x, as = [.d (webD (cn.ad CWeb) ns L), .d x] ∧ WbOk ns L ∧ anyD x ∧ match spotN ns x with
  | none => Y XNoPlace x
  | some i => ∀ b, Φ (.own b (.lst (besD ns L i))) as
def S_Web_told (cn : Cn) : SpD := fun as Φ => ∃ ns L, as = [.d (webD (cn.ad CWeb) ns L)] ∧ WbOk ns L ∧ Φ (.d (toldD ns L)) as
/-- a box: three numbers, at most n draws behind -/
def BoxD (n : Nat) (x : D) : Prop := ∃ x0 x1 x2 : Int, x = .lst [.int x0, .int x1, .int x2] ∧ 0 ≤ x1 ∧ x1 < 2147483648 ∧ 0 ≤ x2 ∧ x2 ≤ n
/-- so many names -/
structure Nms (m : Nat) (ns : List Str) : Prop where
  len : ns.length = m
  nd : ns.Nodup
  ok : ∀ x ∈ ns, nmOk x = true
def worldD (nms : List Str) (L : List Tie) : D := .dct [(.inr "names", .lst (nms.map .str)), (.inr "ties", .dcT (lnK L))]
structure WorldOk (nms : List Str) (L : List Tie) : Prop where
  nm : Nms nms.length nms
  l : 2 ≤ nms.length ∧ nms.length ≤ 13
  w : WbOk nms.dropLast L
def tieW (ns : List Str) (w : Bool) (t : Tie) : D := if w = true then tieD ns t else .tup [.str (nmAt ns t.1.2), .str (nmAt ns t.1.1), .int (t.2 : Nat)]
def HandOk (ns : List Str) (L : List Tie) (ds : List D) : Prop := ∃ M : List (Bool × Tie), (M.map Prod.snd).Perm L ∧ ds = M.map fun q => tieW ns q.1 q.2
def pairsL (m : Nat) : List (Nat × Nat) := (List.range m).flatMap fun k => (List.range k).map fun j => (j, k)
def OtherOk (C : Addr) (ns : List Str) (L : List Tie) (d : D) : Prop := ∃ ns' L', d = webD C ns' L' ∧ WbOk ns' L' ∧ (ns' ≠ ns ∨ sortT L' ≠ sortT L)
def S_l_cell : SpD := fun as Φ => ∃ (ns : List Int) (k : Nat), as = [.d (.ro (ns.map .int)), .d (.int k)] ∧ ns.length ≤ 63 ∧ ∀ v : Int, Φ (.d (.int v)) as
def S_l_box : SpD := fun as Φ => ∃ v : Int, as = [.d (.int v)] ∧ ∀ b x, BoxD 0 x → Φ (.own b x) as
def S_l_take : SpD := fun as Φ => ∃ b x n m, as = [.own b x, .d (.int m)] ∧ BoxD n x ∧ n < 1000000 ∧ 0 < m ∧ m < 2 ^ 200 ∧ ∀ r x', 0 ≤ r → r < m → BoxD (n + 1) x' → Φ (.d (.int r)) [.own b x', .d (.int m)]
def S_l_names : SpD := fun as Φ => ∃ b x n, ∃ m : Nat, as = [.own b x, .d (.int (m : Nat))] ∧ BoxD n x ∧ n + 20 < 1000000 ∧ 1 ≤ m ∧ m ≤ 13 ∧ ∀ b2 ns x', Nms m ns → BoxD (n + 20) x' → Φ (.own b2 (.lst (ns.map .str))) [.own b x', .d (.int (m : Nat))]
def S_l_length : SpD := fun as Φ => ∃ b x n, as = [.own b x] ∧ BoxD n x ∧ n + 2 < 1000000 ∧ ∀ (l : Nat) x', 1 ≤ l → l ≤ 1000000 → BoxD (n + 2) x' → Φ (.d (.int (l : Nat))) [.own b x']
def S_l_world : SpD := fun as Φ => ∃ b x n, as = [.own b x] ∧ BoxD n x ∧ n + 300 < 1000000 ∧ ∀ b2 nms L x', WorldOk nms L → BoxD (n + 300) x' → Φ (.own b2 (worldD nms L)) [.own b x']
def S_l_handed : SpD := fun as Φ => ∃ b x n nms L, as = [.own b x, .d (worldD nms L)] ∧ BoxD n x ∧ n + 100 < 1000000 ∧ WorldOk nms L ∧ ∀ b2 ds x', HandOk nms.dropLast L ds → BoxD (n + 100) x' → Φ (.own b2 (.lst ds)) [.own b x', .d (worldD nms L)]
def S_l_told : SpD := fun as Φ => ∃ nms L, as = [.d (worldD nms L)] ∧ WorldOk nms L ∧ Φ (.d (toldD nms.dropLast L)) as
def S_l_beside : SpD := fun as Φ => ∃ nms L, ∃ i : Nat, as = [.d (worldD nms L), .d (.int (i : Nat))] ∧ WorldOk nms L ∧ ∀ b, Φ (.own b (.lst (besD nms.dropLast L i))) as
/-! ties handed in, by numbers -/
abbrev Tri := Nat × Nat × Nat
def triD (ns : List Str) (q : Tri) : D := .tup [.str (nmAt ns q.1), .str (nmAt ns q.2.1), .int (q.2.2 : Nat)]
def triT (q : Tri) : Tie := (mm q.1 q.2.1, q.2.2)
structure TriOk (n : Nat) (T : List Tri) : Prop where
  ok : ∀ q ∈ T, q.1 < n ∧ q.2.1 < n ∧ q.1 ≠ q.2.1 ∧ 1 ≤ q.2.2 ∧ q.2.2 ≤ 1000000
  nd : (T.map fun q => (triT q).1).Nodup
/-! numbers written plainly -/
def figuresL : List Nat := (tl "0123456789")
def okNum (z : Str) : Bool := decide (1 ≤ z.length) && decide (z.length ≤ 30) && ((tl z).all fun ch => decide (ch ∈ figuresL)) && !(decide ((tl z).head? = some 48) && decide (1 < z.length))
def valOf (z : Str) : Int := ((NumText.digitsVal (tl z) : Nat) : Int)
def numS (z : Str) (lo hi : Int) : D := if okNum z = true ∧ lo ≤ valOf z ∧ valOf z ≤ hi then .int (valOf z) else .non
def numIn : D → Int → Int → D
  | .str z, lo, hi => numS z lo hi
  | _, _, _ => .non
def S_number_in : SpD := fun as Φ => ∃ x lo hi, as = [.d x, .d (.int lo), .d (.int hi)] ∧ anyD x ∧ Φ (.d (numIn x lo hi)) as
/-! webs as texts -/
def numT (n : Nat) : Str := Str.ofString (toString ((n : Nat) : Int))
def headS (ns : List Str) : Str := Str.join " " ("places" :: ns)
def lineS (ns : List Str) (q : Nat × Nat × Nat) : Str := Str.join " " [nmAt ns q.1, nmAt ns q.2.1, numT q.2.2]
def wtext (ns : List Str) (T : List (Nat × Nat × Nat)) : Str := Str.join "\n" (headS ns :: T.map (lineS ns))
def triW (t : Tie) : Nat × Nat × Nat := (t.1.1, t.1.2, t.2)
def S_web_text (cn : Cn) : SpD := fun as Φ => ∃ ns L, as = [.d (webD (cn.ad CWeb) ns L)] ∧ WbOk ns L ∧ Φ (.d (.str (wtext ns ((sortT L).map triW)))) as
def mostR : Int := 999999999999999999999999999999
def tieZ : List Str → Option D
  | [a, b, l] => if nmOk a = true ∧ nmOk b = true then (match numIn (.str l) 0 mostR with
    | .int n => some (.tup [.str a, .str b, .int n])
    | _ => none) else none
  | _ => none
def S_tie_in : SpD := fun as Φ => ∃ ws : List Str, as = [.d (.lst (ws.map .str))] ∧ (∀ w ∈ ws, w.length ≤ 16000000) ∧ ws.length ≤ 16000000 ∧ Φ (.d ((tieZ ws).getD .non)) as
def linesZ (z : Str) : List (List Str) := (Txt.split z "\n").map fun l => Txt.split l " "
/-- a text is read: what is refused, and what not -/
def S_read_web (cn : Cn) : SpX := fun as Φ Y => ∃ x, as = [.d x] ∧ anyD x ∧ (∀ z, x = .str z → z.length < 100000 ∧ ∀ c ∈ tl z, c < 1114112) ∧ ((∀ z, x ≠ .str z) → Y XNoText x) ∧ ∀ z h L, x = .str z → linesZ z = h :: L →
  (¬ (h.head? = some "places" ∧ h.tail ≠ [] ∧ ∀ p ∈ h.tail, nmOk p = true) → Y XBadLine (.int 0)) ∧
  ((h.head? = some "places" ∧ h.tail ≠ [] ∧ ∀ p ∈ h.tail, nmOk p = true) →
    (∀ j ws, L[j]? = some ws → tieZ ws = none → (∀ i us, i < j → L[i]? = some us → tieZ us ≠ none) → Y XBadLine (.int (j + 1 : Nat))) ∧
    ∀ ds, L.map tieZ = ds.map some → match placesR (.lst (h.tail.map .str)) with
      | .inl (n, y) => Y n y
      | .inr ns => match tiesR ns (.lst ds) with
        | .inl (n, y) => Y n y
        | .inr M => ∀ b, Φ (.own b (webD (cn.ad CWeb) ns M)) as)
/-! texts, spoilt -/
def lnsZ (z : Str) : List Str := Txt.split z "\n"
/-- no row of signs without a line feed is longer -/
def MB (m : Nat) (l : List Nat) : Prop := ∀ a x b, l = a ++ x ++ b → 10 ∉ x → x.length ≤ m
structure TxB (m l n : Nat) (z : Str) : Prop where
  m : MB m (tl z)
  l : z.length ≤ l
  n : (tl z).count 10 + 1 ≤ n
  low : ∀ c ∈ tl z, c < 128
def bnds : Nat → List (Nat × Nat)
  | 0 => [(91, 3000)]
  | t + 1 => (bnds t).flatMap fun q => [(q.1 + 10 + max 1001 q.1, q.2 + 10 + max 1001 q.1), (q.1, q.2 + 41 * (q.1 + 1))]
def TxI (t : Nat) (z : Str) : Prop := ∃ q ∈ bnds t, TxB q.1 q.2 (41 + 42 * t) z
def TxS (m l n : Nat) (z : Str) : Prop := TxB (m + 10 + max 1001 m) (l + 10 + max 1001 m) (n + 42) z ∨ TxB m (l + 41 * (m + 1)) (n + 42) z
/-! what is due -/
def badN (nm : Nat) : Str := if nm = XNoText then "text" else if nm = XBadLine then "line" else if nm = XNoPlaces then "places" else if nm = XTwice then "twice" else if nm = XNoTies then "ties" else if nm = XNoPlace then "place" else if nm = XLoop then "loop" else "length"
def refR (nm : Nat) (x : D) : D := if nm = XTied then (match x with
  | .tup [a, b] => .lst [.str "tied", a, b]
  | _ => .non) else .lst [.str (badN nm), x]
def webDue (ns : List Str) (ds : List D) : D := match placesR (.lst (ns.map .str)) with
  | .inl (n, y) => refR n y
  | .inr ns' => match tiesR ns' (.lst ds) with
    | .inl (n, y) => refR n y
    | .inr M => .lst [.str "told", toldD ns' M]
def firstBad : List (List Str) → Option Nat
  | [] => none
  | ws :: L => match tieZ ws with
    | none => some 0
    | some _ => (firstBad L).map (· + 1)
def headOk (h : List Str) : Prop := h.head? = some "places" ∧ h.tail ≠ [] ∧ ∀ p ∈ h.tail, nmOk p = true
instance (h : List Str) : Decidable (headOk h) := by unfold headOk; infer_instance
def dueZ (z : Str) : D := match linesZ z with
  | h :: L => if headOk h then (match firstBad L with
    | some j => .lst [.str "line", .int (j + 1 : Nat)]
    | none => webDue h.tail (L.filterMap tieZ)) else .lst [.str "line", .int 0]
  | [] => .non
def dueD : D → D
  | .str z => dueZ z
  | x => .lst [.str "text", x]
/-- a thing that may be handed in -/
def inpD (x : D) : Prop := anyD x ∧ ∀ z, x = .str z → z.length < 100000 ∧ ∀ c ∈ tl z, c < 1114112
/-- a tie as it is read -/
def TieD (d : D) : Prop := ∃ a b, ∃ n : Nat, d = .tup [.str a, .str b, .int (n : Nat)] ∧ nmOk a = true ∧ nmOk b = true
def S_l_tried (cn : Cn) : SpD := fun as Φ => ∃ x, as = [.d x] ∧ inpD x ∧ (∀ b, Φ (.own b (dueD x)) as) ∧ Φ (.d (dueD x)) as
def S_l_is_name : SpD := fun as Φ => ∃ z, as = [.d (.str z)] ∧ z.length ≤ 16000000 ∧ (∀ c ∈ tl z, c < 1114112) ∧ Φ (.d (.bl (nmOk z))) as
def S_l_number : SpD := fun as Φ => ∃ z, as = [.d (.str z)] ∧ z.length ≤ 16000000 ∧ (∀ c ∈ tl z, c < 1114112) ∧ Φ (.d (if okNum z = true then .int (valOf z) else .non)) as
def S_l_tie : SpD := fun as Φ => ∃ z, as = [.d (.str z)] ∧ z.length < 100000 ∧ (∀ c ∈ tl z, c < 1114112) ∧ Φ (.d ((tieZ (Txt.split z " ")).getD .non)) as
def S_l_tie_due : SpD := fun as Φ => ∃ ns ds, ∃ j : Nat, ∃ L d, as = [.d (.lst (ns.map .str)), .d (.lst ds), .d (.int (j : Nat))] ∧ NmOk ns ∧ (∀ e ∈ ds, TieD e) ∧ ds.length ≤ 40 ∧ ds[j]? = some d ∧ scanT ns [] (ds.take j) = .inr L ∧ match tieR ns L d with
  | .inl (n, y) => ∀ b, Φ (.own b (refR n y)) as
  | .inr _ => Φ (.d .non) as
def S_l_web_due : SpD := fun as Φ => ∃ ns ds, as = [.d (.lst (ns.map .str)), .d (.lst ds)] ∧ (∀ x ∈ ns, nmOk x = true) ∧ 1 ≤ ns.length ∧ ns.length < 100000 ∧ (∀ e ∈ ds, TieD e) ∧ ds.length < 100000 ∧ ∀ b, Φ (.own b (webDue ns ds)) as
def S_l_due : SpD := fun as Φ => ∃ x, as = [.d x] ∧ inpD x ∧ ∀ b, Φ (.own b (dueD x)) as
def S_l_text : SpD := fun as Φ => ∃ b x n nms L, as = [.own b x, .d (worldD nms L)] ∧ BoxD n x ∧ n + 100 < 1000000 ∧ WorldOk nms L ∧ ∀ z x', TxI 0 z → BoxD (n + 100) x' → Φ (.d (.str z)) [.own b x', .d (worldD nms L)]
def S_l_sign : SpD := fun as Φ => ∃ b x n, as = [.own b x] ∧ BoxD n x ∧ n + 1 < 1000000 ∧ ∀ s x', s.length = 1 → (∀ c ∈ tl s, c < 128) → BoxD (n + 1) x' → Φ (.d (.str s)) [.own b x']
def S_l_lines_spoilt : SpD := fun as Φ => ∃ b x k z sp m l n, as = [.own b x, .d (.str z), .d (.str sp)] ∧ BoxD k x ∧ k + 4 < 1000000 ∧ TxB m l n z ∧ m ≤ 5000 ∧ l ≤ 100000 ∧ n ≤ 200 ∧ nmOk sp = true ∧ ∀ z' x', TxS m l n z' → BoxD (k + 4) x' → Φ (.d (.str z')) [.own b x', .d (.str z), .d (.str sp)]
def S_l_words_spoilt : SpD := fun as Φ => ∃ b x k z sp m l n, as = [.own b x, .d (.str z), .d (.str sp)] ∧ BoxD k x ∧ k + 4 < 1000000 ∧ TxB m l n z ∧ m ≤ 5000 ∧ l ≤ 100000 ∧ n ≤ 200 ∧ nmOk sp = true ∧ ∀ z' x', TxS m l n z' → BoxD (k + 4) x' → Φ (.d (.str z')) [.own b x', .d (.str z), .d (.str sp)]
def S_l_spoilt : SpD := fun as Φ => ∃ b x k z sp m l n, as = [.own b x, .d (.str z), .d (.str sp)] ∧ BoxD k x ∧ k + 5 < 1000000 ∧ TxB m l n z ∧ m ≤ 5000 ∧ l ≤ 100000 ∧ n ≤ 200 ∧ nmOk sp = true ∧ ∀ z' x', TxS m l n z' → BoxD (k + 5) x' → Φ (.d (.str z')) [.own b x', .d (.str z), .d (.str sp)]
def S_law : SpD := fun as Φ => ∃ ns : List Int, as = [.d (.ro (ns.map .int))] ∧ ns.length ≤ 63 ∧ Φ (.d (.bl true)) as

abbrev N_is_whole : List Str := ["thing", "low", "high"]
abbrev N_is_name : List Str := ["thing", "sign"]
abbrev N_number_in : List Str := ["thing", "low", "high", "sign", "number"]
abbrev N_spots_of : List Str := ["places", "spots", "place"]
abbrev N_spot_of : List Str := ["spots", "place"]
abbrev N_pair_of : List Str := ["here", "there"]
abbrev N_lengths_of : List Str := ["spots", "ties", "lengths", "tie", "pair"]
abbrev N_Web___init__ : List Str := ["self", "places", "ties"]
abbrev N_Web_ties : List Str := ["self", "one", "other"]
abbrev N_Web_told : List Str := ["self"]
abbrev N_tie_in : List Str := ["words", "length"]
abbrev N_read_web : List Str := ["text", "lines", "line", "places", "place", "ties", "at", "words", "tie"]
abbrev N_l_cell : List Str := ["_law_script", "_law_k"]
abbrev N_l_box : List Str := ["_law_cell_here"]
abbrev N_l_take : List Str := ["_law_box_here", "_law_many", "_law_digit", "_law_one", "_law_other"]
abbrev N_l_names : List Str := ["_law_box_here", "_law_many", "_law_letters", "_law_way", "_law_first", "_law_some", "_law_k", "_law_base", "_law_size", "_law_at"]
abbrev N_l_length : List Str := ["_law_box_here", "_law_way"]
abbrev N_l_world : List Str := ["_law_box_here", "_law_way", "_law_many", "_law_rare", "_law_pairs", "_law_k", "_law_j", "_law_turn", "_law_ties", "_law_pair"]
abbrev N_l_handed : List Str := ["_law_box_here", "_law_world_here", "_law_left", "_law_found", "_law_pair", "_law_turn"]
abbrev N_l_tried : List Str := ["_law_thing", "_law_found", "e"]
abbrev N_l_is_name : List Str := ["_law_word", "_law_sign_here"]
abbrev N_l_number : List Str := ["_law_word", "_law_sign_here", "_law_number_here"]
abbrev N_l_tie : List Str := ["_law_line", "_law_words", "_law_number_here"]
abbrev N_l_tie_due : List Str := ["_law_names_here", "_law_ties", "_law_at", "_law_one", "_law_other", "_law_length_here", "_law_place", "_law_tie_here"]
abbrev N_l_web_due : List Str := ["_law_names_here", "_law_ties", "_law_at", "_law_name", "_law_due_here", "_law_rows", "_law_one", "_law_other", "_law_length_here", "_law_pair", "_law_told_here"]
abbrev N_l_due : List Str := ["_law_thing", "_law_lines", "_law_words", "_law_names_here", "_law_name", "_law_ties", "_law_line"]
abbrev N_l_text : List Str := ["_law_box_here", "_law_world_here", "_law_lines", "_law_one", "_law_other", "_law_length_here"]
abbrev N_l_sign : List Str := ["_law_box_here", "_law_signs"]
abbrev N_l_lines_spoilt : List Str := ["_law_box_here", "_law_text_here", "_law_spare", "_law_way", "_law_lines", "_law_at", "_law_other", "_law_wide", "_law_more"]
abbrev N_l_words_spoilt : List Str := ["_law_box_here", "_law_text_here", "_law_spare", "_law_way", "_law_lines", "_law_at", "_law_words", "_law_place", "_law_some", "_law_word", "_law_found"]
abbrev N_l_spoilt : List Str := ["_law_box_here", "_law_text_here", "_law_spare", "_law_way", "_law_at", "_law_put", "_law_sign_here"]
abbrev N_law : List Str := ["_law_script", "_law_k", "_law_box_here", "_law_turns", "_law_odd", "_law_world_here", "_law_text_here", "_law_turn", "_law_thing"]
def t_is_whole (K : PySem.W.Frag) (cn : Cn) : TS :=
  (tSeq (tIfS (tOr (tNot (tTruth K (tCB (rIsiB K) (tCons (tVar 0) (tCons (tC (.ty "int")) tNil))))) (tTruth K (tCB (rIsiB K) (tCons (tVar 0) (tCons (tC (.ty "bool")) tNil))))) (tRet (tC (.bl false))) tNext)
    (tRet (tChain rLeA rLeA (tVar 1) (tVar 0) (tVar 2))))
def t_is_name (K : PySem.W.Frag) (cn : Cn) : TS :=
  (tSeq (tIfS (tOr (tNot (tTruth K (tCB (rIsiB K) (tCons (tVar 0) (tCons (tC (.ty "str")) tNil))))) (tNot (tTest (tChain rLeA rLeA (tC (.int 1)) (tCB (rLenB K) (tCons (tVar 0) tNil)) (tC (.int 6)))))) (tRet (tC (.bl false))) tNext)
    (tRet (tCB (rAll K) (tCons (tLc (iAny K (tVar 0)) (gName 1) tYes (tOp (rInB K) (tVar 1) (tC (.str "abcdefghijklmnopqrstuvwxyz"))) [1]) tNil))))
def t_number_in (K : PySem.W.Frag) (cn : Cn) : TS :=
  (tSeq (tIfS (tOr (tNot (tTruth K (tCB (rIsiB K) (tCons (tVar 0) (tCons (tC (.ty "str")) tNil))))) (tNot (tTest (tChain rLeA rLeA (tC (.int 1)) (tCB (rLenB K) (tCons (tVar 0) tNil)) (tC (.int 30)))))) (tRet (tC .non)) tNext)
    (tSeq (tIfS (tOr (tNot (tTruth K (tCB (rAll K) (tCons (tLc (iAny K (tVar 0)) (gName 3) tYes (tOp (rInB K) (tVar 3) (tC (.str "0123456789"))) [3]) tNil)))) (tAnd (tTest (tOp (rEqA K) (tOp (rIxB K) (tVar 0) (tC (.int 0))) (tC (.str "0")))) (tTest (tOp (rNeA K) (tVar 0) (tC (.str "0")))))) (tRet (tC .non)) tNext)
    (tSeq (tAsg (tCB rIntA (tCons (tVar 0) tNil)) (gName 4))
    (tSeq (tIfS (tNot (tTest (tChain rLeA rLeA (tVar 1) (tVar 4) (tVar 2)))) (tRet (tC .non)) tNext)
    (tRet (tVar 4))))))
def t_spots_of (K : PySem.W.Frag) (cn : Cn) (W : WX) : TS :=
  (tSeq (tIfS (tOr (tNot (tTruth K (tCB (rIsiB K) (tCons (tVar 0) (tCons (tTup (tCons (tC (.ty "list")) (tCons (tC (.ty "tuple")) tNil))) tNil))))) (tNot (tTest (tChain rLeA rLeA (tC (.int 1)) (tCB (rLenB K) (tCons (tVar 0) tNil)) (tC (.int 12)))))) (fun _ σ H => tMkO (cn.ad XNoPlaces) (spInit K ["found"]) [] (tCons (tVar 0) tNil) σ H fun cls d H' => W cls d σ H') tNext)
    (tSeq (tAsg tDNewK (gName 1))
    (tSeq (tFor (iAny K (tVar 0)) (gName 2) (tSeq (tIfS (tNot (tTruth K (tCall (lift K S_is_name) [] E0 (tCons (tVar 2) tNil)))) (fun _ σ H => tMkO (cn.ad XNoName) (spInit K ["found"]) [] (tCons (tVar 2) tNil) σ H fun cls d H' => W cls d σ H') tNext)
    (tSeq (tIfS (tTest (tOp (rInB K) (tVar 2) (tVar 1))) (fun _ σ H => tMkO (cn.ad XTwice) (spInit K ["found"]) [] (tCons (tVar 2) tNil) σ H fun cls d H' => W cls d σ H') tNext)
    (tAsg (tCB (rLenB K) (tCons (tVar 1) tNil)) (gSub (tVar 1) (tVar 2) rSetB)))))
    (tRet (tVar 1)))))
def t_spot_of (K : PySem.W.Frag) (cn : Cn) (W : WX) : TS :=
  (tSeq (tIfS (tOr (tNot (tTruth K (tCall (lift K S_is_name) [] E0 (tCons (tVar 1) tNil)))) (tTest (tOp (rNotInB K) (tVar 1) (tVar 0)))) (fun _ σ H => tMkO (cn.ad XNoPlace) (spInit K ["found"]) [] (tCons (tVar 1) tNil) σ H fun cls d H' => W cls d σ H') tNext)
    (tRet (tOp (rIxB K) (tVar 0) (tVar 1))))
def t_pair_of (K : PySem.W.Frag) (cn : Cn) : TS :=
  (tRet (tTup (tCons (tCB rMin2 (tCons (tVar 0) (tCons (tVar 1) tNil))) (tCons (tCB rMax2 (tCons (tVar 0) (tCons (tVar 1) tNil))) tNil))))
def t_lengths_of (K : PySem.W.Frag) (cn : Cn) (W : WX) : TS :=
  (tSeq (tIfS (tOr (tNot (tTruth K (tCB (rIsiB K) (tCons (tVar 1) (tCons (tTup (tCons (tC (.ty "list")) (tCons (tC (.ty "tuple")) tNil))) tNil))))) (tTest (tOp rGtA (tCB (rLenB K) (tCons (tVar 1) tNil)) (tC (.int 40))))) (fun _ σ H => tMkO (cn.ad XNoTies) (spInit K ["found"]) [] (tCons (tVar 1) tNil) σ H fun cls d H' => W cls d σ H') tNext)
    (tSeq (tAsg tDNewT (gName 2))
    (tSeq (tFor (iAny K (tVar 1)) (gName 3) (tSeq (tIfS (tOr (tNot (tTruth K (tCB (rIsiB K) (tCons (tVar 3) (tCons (tC (.ty "tuple")) tNil))))) (tTest (tOp (rNeA K) (tCB (rLenB K) (tCons (tVar 3) tNil)) (tC (.int 3))))) (fun _ σ H => tMkO (cn.ad XNoTie) (spInit K ["found"]) [] (tCons (tVar 3) tNil) σ H fun cls d H' => W cls d σ H') tNext)
    (tSeq (tAsg (tCall (lift K S_pair_of) [] E0 (tCons (tCallS (liftX K cn S_spot_of) (L2.WE W) (tCons (tVar 0) (tCons (tOp (rIxB K) (tVar 3) (tC (.int 0))) tNil))) (tCons (tCallS (liftX K cn S_spot_of) (L2.WE W) (tCons (tVar 0) (tCons (tOp (rIxB K) (tVar 3) (tC (.int 1))) tNil))) tNil))) (gName 4))
    (tSeq (tIfS (tTest (tOp (rEqA K) (tOp (rIxB K) (tVar 4) (tC (.int 0))) (tOp (rIxB K) (tVar 4) (tC (.int 1))))) (fun _ σ H => tMkO (cn.ad XLoop) (spInit K ["found"]) [] (tCons (tVar 3) tNil) σ H fun cls d H' => W cls d σ H') tNext)
    (tSeq (tIfS (tNot (tTruth K (tCall (lift K S_is_whole) [] E0 (tCons (tOp (rIxB K) (tVar 3) (tC (.int 2))) (tCons (tC (.int 1)) (tCons (tC (.int 1000000)) tNil)))))) (fun _ σ H => tMkO (cn.ad XNoLength) (spInit K ["found"]) [] (tCons (tOp (rIxB K) (tVar 3) (tC (.int 2))) tNil) σ H fun cls d H' => W cls d σ H') tNext)
    (tSeq (tIfS (tTest (tOp (rInB K) (tVar 4) (tVar 2))) (fun _ σ H => tMkO (cn.ad XTied) (spInit K ["other", "one"]) [] (tCons (tOp (rIxB K) (tVar 3) (tC (.int 0))) (tCons (tOp (rIxB K) (tVar 3) (tC (.int 1))) tNil)) σ H fun cls d H' => W cls d σ H') tNext)
    (tAsg (tOp (rIxB K) (tVar 3) (tC (.int 2))) (gSub (tVar 2) (tVar 4) rSetB))))))))
    (tRet (tVar 2)))))
def t_Web___init__ (K : PySem.W.Frag) (cn : Cn) (W : WX) : TS :=
  (tSeq (sFld K (tVar 0) (tCallS (liftX K cn S_spots_of) (L2.WE W) (tCons (tVar 1) tNil)) "spots")
    (tSeq (sFld K (tVar 0) (tCB (rListB K) (tCons (tVar 1) tNil)) "names")
    (sFld K (tVar 0) (tCallS (liftX K cn S_lengths_of) (L2.WE W) (tCons (tFld K (tVar 0) "spots") (tCons (tVar 2) tNil))) "lengths")))
def t_Web_ties (K : PySem.W.Frag) (cn : Cn) : TS :=
  (tRet (tLc (iAny K (tCB (rSortB K) (tCons (tFld K (tVar 0) "lengths") tNil))) (gSeq K 2 (gCons (gName 1) (gCons (gName 2) gNil))) tYes (tTup (tCons (tOp (rIxB K) (tFld K (tVar 0) "names") (tVar 1)) (tCons (tOp (rIxB K) (tFld K (tVar 0) "names") (tVar 2)) (tCons (tOp (rIxB K) (tFld K (tVar 0) "lengths") (tTup (tCons (tVar 1) (tCons (tVar 2) tNil)))) tNil)))) [1, 2]))
def t_Web_told (K : PySem.W.Frag) (cn : Cn) : TS :=
  (tRet (tTup (tCons (tCB (rTupA K) (tCons (tFld K (tVar 0) "names") tNil)) (tCons (tCB (rTupA K) (tCons (tMethS "ties" (lift K (S_Web_ties cn)) (fun _ => E0) (tVar 0) (cn.ad CWeb) tNil) tNil)) tNil))))
def t_tie_in (K : PySem.W.Frag) (cn : Cn) : TS :=
  (tSeq (tIfS (tOr (tTest (tOp (rNeA K) (tCB (rLenB K) (tCons (tVar 0) tNil)) (tC (.int 3)))) (tOr (tNot (tTruth K (tCall (lift K S_is_name) [] E0 (tCons (tOp (rIxB K) (tVar 0) (tC (.int 0))) tNil)))) (tNot (tTruth K (tCall (lift K S_is_name) [] E0 (tCons (tOp (rIxB K) (tVar 0) (tC (.int 1))) tNil)))))) (tRet (tC .non)) tNext)
    (tSeq (tAsg (tCall (lift K S_number_in) [] E0 (tCons (tOp (rIxB K) (tVar 0) (tC (.int 2))) (tCons (tC (.int 0)) (tCons (tC (.int 999999999999999999999999999999)) tNil)))) (gName 1))
    (tSeq (tIfS (tTest (tOp rIsNA (tVar 1) (tC .non))) (tRet (tC .non)) tNext)
    (tRet (tTup (tCons (tOp (rIxB K) (tVar 0) (tC (.int 0))) (tCons (tOp (rIxB K) (tVar 0) (tC (.int 1))) (tCons (tVar 1) tNil))))))))
def t_read_web (K : PySem.W.Frag) (cn : Cn) (W : WX) : TS :=
  (tSeq (tIfS (tNot (tTruth K (tCB (rIsiB K) (tCons (tVar 0) (tCons (tC (.ty "str")) tNil))))) (fun _ σ H => tMkO (cn.ad XNoText) (spInit K ["found"]) [] (tCons (tVar 0) tNil) σ H fun cls d H' => W cls d σ H') tNext)
    (tSeq (tAsg (tLc (iAny K (tBM K "str" rSplitA (tVar 0) (tCons (tC (.str "\n")) tNil))) (gName 2) tYes (tBM K "str" rSplitA (tVar 2) (tCons (tC (.str " ")) tNil)) [2]) (gName 1))
    (tSeq (tAsg (tSl (rSlA K) (tOp (rIxB K) (tVar 1) (tC (.int 0))) (tPart (tC (.int 1))) tNoPart) (gName 3))
    (tSeq (tIfS (tOr (tTest (tOp (rNeA K) (tOp (rIxB K) (tOp (rIxB K) (tVar 1) (tC (.int 0))) (tC (.int 0))) (tC (.str "places")))) (tOr (tTest (tOp (rEqA K) (tVar 3) (tLst tNil))) (tNot (tTruth K (tCB (rAll K) (tCons (tLc (iAny K (tVar 3)) (gName 4) tYes (tCall (lift K S_is_name) [] E0 (tCons (tVar 4) tNil)) [4]) tNil)))))) (fun _ σ H => tMkO (cn.ad XBadLine) (spInit K ["at"]) [] (tCons (tC (.int 0)) tNil) σ H fun cls d H' => W cls d σ H') tNext)
    (tSeq (tAsg (tLst tNil) (gName 5))
    (tSeq (tFor (iEnum K (tCons (tSl (rSlA K) (tVar 1) (tPart (tC (.int 1))) tNoPart) tNil)) (gSeq K 2 (gCons (gName 6) (gCons (gName 7) gNil))) (tSeq (tAsg (tCall (lift K S_tie_in) [] E0 (tCons (tVar 7) tNil)) (gName 8))
    (tSeq (tIfS (tTest (tOp rIsNA (tVar 8) (tC .non))) (fun _ σ H => tMkO (cn.ad XBadLine) (spInit K ["at"]) [] (tCons (tOp rAddA (tVar 6) (tC (.int 1))) tNil) σ H fun cls d H' => W cls d σ H') tNext)
    (tDrop (tBM K "list" rAppend (tVar 5) (tCons (tVar 8) tNil))))))
    (tRet (tMakeS (cn.ad CWeb) (liftX K cn (S_Web___init__ cn)) (L2.WE W) (tCons (tVar 3) (tCons (tVar 5) tNil))))))))))
def t_l_cell (K : PySem.W.Frag) (cn : Cn) : TS :=
  (tSeq (tIfS (tTest (tOp rLtA (tVar 1) (tCB (rLenB K) (tCons (tVar 0) tNil)))) (tRet (tOp (rIxB K) (tVar 0) (tVar 1))) tNext)
    (tRet (tOp rAddA (tOp rMulB (tC (.int 15485863)) (tVar 1)) (tC (.int 71)))))
def t_l_box (K : PySem.W.Frag) (cn : Cn) : TS :=
  (tRet (tLst (tCons (tCB rMax2 (tCons (tC (.int 0)) (tCons (tOp rSubA (tVar 0) (tOp rPowA (tC (.int 10)) (tC (.int 18)))) tNil))) (tCons (tOp rModA (tVar 0) (tC (.int 2147483629))) (tCons (tC (.int 0)) tNil)))))
def t_l_take (K : PySem.W.Frag) (cn : Cn) : TS :=
  (tSeq (tIfS (tTest (tOp rGtA (tOp (rIxB K) (tVar 0) (tC (.int 0))) (tC (.int 0)))) (tSeq (tAsg (tOp rModA (tOp (rIxB K) (tVar 0) (tC (.int 0))) (tVar 1)) (gName 2))
    (tSeq (tAsg (tOp rDivA (tOp (rIxB K) (tVar 0) (tC (.int 0))) (tVar 1)) (gSub (tVar 0) (tC (.int 0)) rSetB))
    (tRet (tVar 2)))) tNext)
    (tSeq (tAsg (tOp rAddA (tOp (rIxB K) (tVar 0) (tC (.int 2))) (tC (.int 1))) (gSub (tVar 0) (tC (.int 2)) rSetB))
    (tSeq (tAsg (tOp rModA (tOp rPowA (tOp rAddA (tOp rAddA (tOp rMulB (tOp (rIxB K) (tVar 0) (tC (.int 1))) (tOp rAddA (tOp rMulB (tC (.int 2)) (tOp (rIxB K) (tVar 0) (tC (.int 2)))) (tC (.int 1)))) (tOp rMulB (tC (.int 7919)) (tOp (rIxB K) (tVar 0) (tC (.int 2))))) (tC (.int 11))) (tC (.int 5))) (tC (.int 2147483647))) (gName 3))
    (tSeq (tAsg (tOp rModA (tOp rPowA (tOp rAddA (tOp rMulB (tVar 3) (tOp rAddA (tOp (rIxB K) (tVar 0) (tC (.int 2))) (tC (.int 3)))) (tC (.int 104729))) (tC (.int 3))) (tC (.int 2147483587))) (gName 4))
    (tRet (tOp rModA (tOp rAddA (tOp rDivA (tVar 3) (tC (.int 8))) (tOp rDivA (tVar 4) (tC (.int 4)))) (tVar 1)))))))
def t_l_names (K : PySem.W.Frag) (cn : Cn) : TS :=
  (tSeq (tAsg (tC (.str "abcdefghijklmnopqrstuvwxyz")) (gName 2))
    (tSeq (tAsg (tCall (lift K S_l_take) [] E0 (tCons (tVar 0) (tCons (tC (.int 4)) tNil))) (gName 3))
    (tSeq (tAsg (tCall (lift K S_l_take) [] E0 (tCons (tVar 0) (tCons (tC (.int 26)) tNil))) (gName 4))
    (tSeq (tIfS (tTest (tOp (rEqA K) (tVar 3) (tC (.int 0)))) (tSeq (tAsg (tBM K "str" rSplitA (tC (.str "places far tie web a aa ab b ba put cut row rows order text x")) (tCons (tC (.str " ")) tNil)) (gName 5))
    (tRet (tLc (iRng1 (tCons (tVar 1) tNil)) (gName 6) tYes (tOp (rIxB K) (tVar 5) (tOp rModA (tOp rAddA (tVar 4) (tOp rMulB (tC (.int 5)) (tVar 6))) (tC (.int 16)))) [6]))) tNext)
    (tSeq (tAsg (tBM K "str" (rJoinA K) (tC (.str "")) (tCons (tLc (iRng1 (tCons (tC (.int 5)) tNil)) (gName 6) tYes (tOp (rIxB K) (tVar 2) (tCall (lift K S_l_take) [] E0 (tCons (tVar 0) (tCons (tC (.int 26)) tNil)))) [6]) tNil)) (gName 7))
    (tSeq (tIfS (tTest (tOp (rEqA K) (tVar 3) (tC (.int 1)))) (tRet (tLc (iRng1 (tCons (tVar 1) tNil)) (gName 6) tYes (tOp rAddA (tSl (rSlA K) (tVar 7) tNoPart (tPart (tOp rModA (tVar 6) (tC (.int 6))))) (tOp (rIxB K) (tVar 2) (tOp rModA (tOp rAddA (tVar 4) (tOp rMulB (tC (.int 7)) (tVar 6))) (tC (.int 26))))) [6])) tNext)
    (tSeq (tAsg (tCall (lift K S_l_take) [] E0 (tCons (tVar 0) (tCons (tC (.int 6)) tNil))) (gName 8))
    (tSeq (tAsg (tCall (lift K S_l_take) [] E0 (tCons (tVar 0) (tCons (tOp rAddA (tVar 8) (tC (.int 1))) tNil))) (gName 9))
    (tRet (tLc (iRng1 (tCons (tVar 1) tNil)) (gName 6) tYes (tOp rAddA (tOp rAddA (tSl (rSlA K) (tVar 7) tNoPart (tPart (tVar 9))) (tOp (rIxB K) (tVar 2) (tOp rModA (tOp rAddA (tVar 4) (tOp rMulB (tC (.int 7)) (tVar 6))) (tC (.int 26))))) (tSl (rSlA K) (tVar 7) (tPart (tVar 9)) (tPart (tVar 8)))) [6]))))))))))
def t_l_length (K : PySem.W.Frag) (cn : Cn) : TS :=
  (tSeq (tAsg (tCall (lift K S_l_take) [] E0 (tCons (tVar 0) (tCons (tC (.int 5)) tNil))) (gName 1))
    (tSeq (tIfS (tTest (tOp rLtA (tVar 1) (tC (.int 2)))) (tRet (tOp (rIxB K) (tLst (tCons (tC (.int 1)) (tCons (tOp rPowA (tC (.int 10)) (tC (.int 6))) tNil))) (tVar 1))) tNext)
    (tRet (tOp rAddA (tC (.int 1)) (tCall (lift K S_l_take) [] E0 (tCons (tVar 0) (tCons (tOp (rIxB K) (tLst (tCons (tC (.int 9)) (tCons (tC (.int 1000)) (tCons (tOp rPowA (tC (.int 10)) (tC (.int 6))) tNil)))) (tOp rSubA (tVar 1) (tC (.int 2)))) tNil)))))))
def t_l_world (K : PySem.W.Frag) (cn : Cn) : TS :=
  (tSeq (tAsg (tCall (lift K S_l_take) [] E0 (tCons (tVar 0) (tCons (tC (.int 3)) tNil))) (gName 1))
    (tSeq (tAsg (tC (.int 12)) (gName 2))
    (tSeq (tIfS (tTest (tOp rLtA (tVar 1) (tC (.int 2)))) (tAsg (tOp rAddA (tC (.int 1)) (tCall (lift K S_l_take) [] E0 (tCons (tVar 0) (tCons (tOp (rIxB K) (tLst (tCons (tC (.int 5)) (tCons (tC (.int 12)) tNil))) (tVar 1)) tNil)))) (gName 2)) tNext)
    (tSeq (tAsg (tOp (rIxB K) (tLst (tCons (tC (.int 1)) (tCons (tC (.int 2)) (tCons (tC (.int 3)) (tCons (tC (.int 6)) (tCons (tC (.int 40)) tNil)))))) (tCall (lift K S_l_take) [] E0 (tCons (tVar 0) (tCons (tC (.int 5)) tNil)))) (gName 3))
    (tSeq (tAsg (tLst tNil) (gName 4))
    (tSeq (tFor (iRng1 (tCons (tVar 2) tNil)) (gName 5) (tDrop (tBM K "list" rExtend (tVar 4) (tCons (tLc (iRng1 (tCons (tVar 5) tNil)) (gName 6) tYes (tTup (tCons (tVar 6) (tCons (tVar 5) tNil))) [6]) tNil))))
    (tSeq (tAsg (tCall (lift K S_l_take) [] E0 (tCons (tVar 0) (tCons (tCB rMax2 (tCons (tC (.int 1)) (tCons (tCB (rLenB K) (tCons (tVar 4) tNil)) tNil))) tNil))) (gName 7))
    (tSeq (tAsg tDNewT (gName 8))
    (tSeq (tFor (iAny K (tOp rAddA (tSl (rSlA K) (tVar 4) (tPart (tVar 7)) tNoPart) (tSl (rSlA K) (tVar 4) tNoPart (tPart (tVar 7))))) (gName 9) (tIfS (tAnd (tTest (tOp rLtA (tCB (rLenB K) (tCons (tVar 8) tNil)) (tC (.int 40)))) (tTest (tOp (rEqA K) (tCall (lift K S_l_take) [] E0 (tCons (tVar 0) (tCons (tVar 3) tNil))) (tC (.int 0))))) (tAsg (tCall (lift K S_l_length) [] E0 (tCons (tVar 0) tNil)) (gSub (tVar 8) (tVar 9) rSetB)) tNext))
    (tRet (tDisp [((tC (.str "names")), (tCall (lift K S_l_names) [] E0 (tCons (tVar 0) (tCons (tOp rAddA (tVar 2) (tC (.int 1))) tNil)))), ((tC (.str "ties")), (tVar 8))])))))))))))
def t_l_handed (K : PySem.W.Frag) (cn : Cn) : TS :=
  (tSeq (tAsg (tCB (rSortB K) (tCons (tOp (rIxB K) (tVar 1) (tC (.str "ties"))) tNil)) (gName 2))
    (tSeq (tAsg (tLst tNil) (gName 3))
    (tSeq (tWhile (tTest (tOp (rNeA K) (tVar 2) (tLst tNil))) (tSeq (tAsg (tBM K "list" rPopAt (tVar 2) (tCons (tCall (lift K S_l_take) [] E0 (tCons (tVar 0) (tCons (tCB (rLenB K) (tCons (tVar 2) tNil)) tNil))) tNil)) (gName 4))
    (tSeq (tAsg (tCall (lift K S_l_take) [] E0 (tCons (tVar 0) (tCons (tC (.int 2)) tNil))) (gName 5))
    (tDrop (tBM K "list" rAppend (tVar 3) (tCons (tTup (tCons (tOp (rIxB K) (tOp (rIxB K) (tVar 1) (tC (.str "names"))) (tOp (rIxB K) (tVar 4) (tVar 5))) (tCons (tOp (rIxB K) (tOp (rIxB K) (tVar 1) (tC (.str "names"))) (tOp (rIxB K) (tVar 4) (tOp rSubA (tC (.int 1)) (tVar 5)))) (tCons (tOp (rIxB K) (tOp (rIxB K) (tVar 1) (tC (.str "ties"))) (tVar 4)) tNil)))) tNil))))))
    (tRet (tVar 3)))))
def t_l_tried (K : PySem.W.Frag) (cn : Cn) : TS :=
  (tSeq (tAsg (tLst tNil) (gName 1))
    (tSeq (tTry K (.ref cn.bs) 2 (fun W => (tRet (tLst (tCons (tC (.str "told")) (tCons (tMethS "told" (lift K (S_Web_told cn)) (fun _ => E0) (tCallS (liftX K cn (S_read_web cn)) (L2.WE W) (tCons (tVar 0) tNil)) (cn.ad CWeb) tNil) tNil))))) (fun a cls d => (tSeq (tIfS (tTruth K (tCB (rIsG K a cls d) (tCons (tVar 2) (tCons (tC (.ref (cn.ad XNoText))) tNil)))) (tDrop (tBM K "list" rAppend (tVar 1) (tCons (tLst (tCons (tC (.str "text")) (tCons (tXfX K a cls d "found" (tVar 2)) tNil))) tNil))) tNext)
    (tSeq (tIfS (tTruth K (tCB (rIsG K a cls d) (tCons (tVar 2) (tCons (tC (.ref (cn.ad XBadLine))) tNil)))) (tDrop (tBM K "list" rAppend (tVar 1) (tCons (tLst (tCons (tC (.str "line")) (tCons (tXfX K a cls d "at" (tVar 2)) tNil))) tNil))) tNext)
    (tSeq (tIfS (tTruth K (tCB (rIsG K a cls d) (tCons (tVar 2) (tCons (tC (.ref (cn.ad XNoPlaces))) tNil)))) (tDrop (tBM K "list" rAppend (tVar 1) (tCons (tLst (tCons (tC (.str "places")) (tCons (tXfX K a cls d "found" (tVar 2)) tNil))) tNil))) tNext)
    (tSeq (tIfS (tTruth K (tCB (rIsG K a cls d) (tCons (tVar 2) (tCons (tC (.ref (cn.ad XTwice))) tNil)))) (tDrop (tBM K "list" rAppend (tVar 1) (tCons (tLst (tCons (tC (.str "twice")) (tCons (tXfX K a cls d "found" (tVar 2)) tNil))) tNil))) tNext)
    (tSeq (tIfS (tTruth K (tCB (rIsG K a cls d) (tCons (tVar 2) (tCons (tC (.ref (cn.ad XNoTies))) tNil)))) (tDrop (tBM K "list" rAppend (tVar 1) (tCons (tLst (tCons (tC (.str "ties")) (tCons (tXfX K a cls d "found" (tVar 2)) tNil))) tNil))) tNext)
    (tSeq (tIfS (tTruth K (tCB (rIsG K a cls d) (tCons (tVar 2) (tCons (tC (.ref (cn.ad XNoPlace))) tNil)))) (tDrop (tBM K "list" rAppend (tVar 1) (tCons (tLst (tCons (tC (.str "place")) (tCons (tXfX K a cls d "found" (tVar 2)) tNil))) tNil))) tNext)
    (tSeq (tIfS (tTruth K (tCB (rIsG K a cls d) (tCons (tVar 2) (tCons (tC (.ref (cn.ad XLoop))) tNil)))) (tDrop (tBM K "list" rAppend (tVar 1) (tCons (tLst (tCons (tC (.str "loop")) (tCons (tXfX K a cls d "found" (tVar 2)) tNil))) tNil))) tNext)
    (tSeq (tIfS (tTruth K (tCB (rIsG K a cls d) (tCons (tVar 2) (tCons (tC (.ref (cn.ad XNoLength))) tNil)))) (tDrop (tBM K "list" rAppend (tVar 1) (tCons (tLst (tCons (tC (.str "length")) (tCons (tXfX K a cls d "found" (tVar 2)) tNil))) tNil))) tNext)
    (tIfS (tTruth K (tCB (rIsG K a cls d) (tCons (tVar 2) (tCons (tC (.ref (cn.ad XTied))) tNil)))) (tDrop (tBM K "list" rAppend (tVar 1) (tCons (tLst (tCons (tC (.str "tied")) (tCons (tXfX K a cls d "one" (tVar 2)) (tCons (tXfX K a cls d "other" (tVar 2)) tNil)))) tNil))) tNext)))))))))))
    (tRet (tIf (tTest (tOp (rEqA K) (tCB (rLenB K) (tCons (tVar 1) tNil)) (tC (.int 1)))) (tOp (rIxB K) (tVar 1) (tC (.int 0))) (tLst (tCons (tC (.str "other")) tNil))))))
def t_l_is_name (K : PySem.W.Frag) (cn : Cn) : TS :=
  (tSeq (tIfS (tNot (tTest (tChain rLeA rLeA (tC (.int 1)) (tCB (rLenB K) (tCons (tVar 0) tNil)) (tC (.int 6))))) (tRet (tC (.bl false))) tNext)
    (tRet (tOp (rEqA K) (tLc (iAny K (tVar 0)) (gName 1) (tTest (tOp (rNotInB K) (tVar 1) (tC (.str "abcdefghijklmnopqrstuvwxyz")))) (tVar 1) [1]) (tLst tNil))))
def t_l_number (K : PySem.W.Frag) (cn : Cn) : TS :=
  (tSeq (tIfS (tOr (tNot (tTest (tChain rLeA rLeA (tC (.int 1)) (tCB (rLenB K) (tCons (tVar 0) tNil)) (tC (.int 30))))) (tTest (tOp (rNeA K) (tLc (iAny K (tVar 0)) (gName 1) (tTest (tOp (rNotInB K) (tVar 1) (tC (.str "0123456789")))) (tVar 1) [1]) (tLst tNil)))) (tRet (tC .non)) tNext)
    (tSeq (tIfS (tAnd (tTest (tOp (rEqA K) (tOp (rIxB K) (tVar 0) (tC (.int 0))) (tC (.str "0")))) (tTest (tOp (rNeA K) (tVar 0) (tC (.str "0"))))) (tRet (tC .non)) tNext)
    (tSeq (tAsg (tC (.int 0)) (gName 2))
    (tSeq (tFor (iAny K (tVar 0)) (gName 1) (tAsg (tOp rAddA (tOp rMulB (tC (.int 10)) (tVar 2)) (tBM K "str" rSIndex (tC (.str "0123456789")) (tCons (tVar 1) tNil))) (gName 2)))
    (tRet (tVar 2))))))
def t_l_tie (K : PySem.W.Frag) (cn : Cn) : TS :=
  (tSeq (tAsg (tBM K "str" rSplitA (tVar 0) (tCons (tC (.str " ")) tNil)) (gName 1))
    (tSeq (tIfS (tOr (tTest (tOp (rNeA K) (tCB (rLenB K) (tCons (tVar 1) tNil)) (tC (.int 3)))) (tOr (tNot (tTruth K (tCall (lift K S_l_is_name) [] E0 (tCons (tOp (rIxB K) (tVar 1) (tC (.int 0))) tNil)))) (tNot (tTruth K (tCall (lift K S_l_is_name) [] E0 (tCons (tOp (rIxB K) (tVar 1) (tC (.int 1))) tNil)))))) (tRet (tC .non)) tNext)
    (tSeq (tAsg (tCall (lift K S_l_number) [] E0 (tCons (tOp (rIxB K) (tVar 1) (tC (.int 2))) tNil)) (gName 2))
    (tRet (tIf (tTest (tOp rIsNA (tVar 2) (tC .non))) (tC .non) (tTup (tCons (tOp (rIxB K) (tVar 1) (tC (.int 0))) (tCons (tOp (rIxB K) (tVar 1) (tC (.int 1))) (tCons (tVar 2) tNil)))))))))
def t_l_tie_due (K : PySem.W.Frag) (cn : Cn) : TS :=
  (tSeq (tAsg (tOp (rIxB K) (tVar 1) (tVar 2)) (gSeq K 3 (gCons (gName 3) (gCons (gName 4) (gCons (gName 5) gNil)))))
    (tSeq (tFor (iAny K (tTup (tCons (tVar 3) (tCons (tVar 4) tNil)))) (gName 6) (tIfS (tTest (tOp (rInG K true) (tVar 6) (tVar 0))) (tRet (tLst (tCons (tC (.str "place")) (tCons (tVar 6) tNil)))) tNext))
    (tSeq (tIfS (tTest (tOp (rEqA K) (tVar 3) (tVar 4))) (tRet (tLst (tCons (tC (.str "loop")) (tCons (tOp (rIxB K) (tVar 1) (tVar 2)) tNil)))) tNext)
    (tSeq (tIfS (tNot (tTest (tChain rLtA rLeA (tC (.int 0)) (tVar 5) (tOp rPowA (tC (.int 10)) (tC (.int 6)))))) (tRet (tLst (tCons (tC (.str "length")) (tCons (tVar 5) tNil)))) tNext)
    (tSeq (tFor (iAny K (tSl (rSlA K) (tVar 1) tNoPart (tPart (tVar 2)))) (gName 7) (tIfS (tTest (tOp (rInG K false) (tSl (L2.rSlT K) (tVar 7) tNoPart (tPart (tC (.int 2)))) (tTup (tCons (tTup (tCons (tVar 3) (tCons (tVar 4) tNil))) (tCons (tTup (tCons (tVar 4) (tCons (tVar 3) tNil))) tNil))))) (tRet (tLst (tCons (tC (.str "tied")) (tCons (tVar 3) (tCons (tVar 4) tNil))))) tNext))
    (tRet (tC .non)))))))
def t_l_web_due (K : PySem.W.Frag) (cn : Cn) : TS :=
  (tSeq (tIfS (tTest (tOp rGtA (tCB (rLenB K) (tCons (tVar 0) tNil)) (tC (.int 12)))) (tRet (tLst (tCons (tC (.str "places")) (tCons (tVar 0) tNil)))) tNext)
    (tSeq (tFor (iEnum K (tCons (tVar 0) tNil)) (gSeq K 2 (gCons (gName 2) (gCons (gName 3) gNil))) (tIfS (tTest (tOp (rInG K false) (tVar 3) (tSl (rSlA K) (tVar 0) tNoPart (tPart (tVar 2))))) (tRet (tLst (tCons (tC (.str "twice")) (tCons (tVar 3) tNil)))) tNext))
    (tSeq (tIfS (tTest (tOp rGtA (tCB (rLenB K) (tCons (tVar 1) tNil)) (tC (.int 40)))) (tRet (tLst (tCons (tC (.str "ties")) (tCons (tVar 1) tNil)))) tNext)
    (tSeq (tFor (iRng1 (tCons (tCB (rLenB K) (tCons (tVar 1) tNil)) tNil)) (gName 2) (tSeq (tAsg (tCall (lift K S_l_tie_due) [] E0 (tCons (tVar 0) (tCons (tVar 1) (tCons (tVar 2) tNil)))) (gName 4))
    (tIfS (tTest (tOp rNotNA (tVar 4) (tC .non))) (tRet (tVar 4)) tNext)))
    (tSeq (tAsg (tLst tNil) (gName 5))
    (tSeq (tFor (iAny K (tVar 1)) (gSeq K 3 (gCons (gName 6) (gCons (gName 7) (gCons (gName 8) gNil)))) (tSeq (tAsg (tCB (rSortG K) (tCons (tLst (tCons (tBM K "list" (rIndexG K) (tVar 0) (tCons (tVar 6) tNil)) (tCons (tBM K "list" (rIndexG K) (tVar 0) (tCons (tVar 7) tNil)) tNil))) tNil)) (gName 9))
    (tDrop (tBM K "list" rAppend (tVar 5) (tCons (tTup (tCons (tOp (rIxB K) (tVar 9) (tC (.int 0))) (tCons (tOp (rIxB K) (tVar 9) (tC (.int 1))) (tCons (tVar 8) tNil)))) tNil)))))
    (tSeq (tAsg (tLc (iAny K (tCB (rSortG K) (tCons (tVar 5) tNil))) (gSeq K 3 (gCons (gName 6) (gCons (gName 7) (gCons (gName 8) gNil)))) tYes (tTup (tCons (tOp (rIxB K) (tVar 0) (tVar 6)) (tCons (tOp (rIxB K) (tVar 0) (tVar 7)) (tCons (tVar 8) tNil)))) [6, 7, 8]) (gName 10))
    (tRet (tLst (tCons (tC (.str "told")) (tCons (tTup (tCons (tCB (rTupA K) (tCons (tVar 0) tNil)) (tCons (tCB (rTupA K) (tCons (tVar 10) tNil)) tNil))) tNil)))))))))))
def t_l_due (K : PySem.W.Frag) (cn : Cn) : TS :=
  (tSeq (tIfS (tNot (tTruth K (tCB (rIsiB K) (tCons (tVar 0) (tCons (tC (.ty "str")) tNil))))) (tRet (tLst (tCons (tC (.str "text")) (tCons (tVar 0) tNil)))) tNext)
    (tSeq (tAsg (tBM K "str" rSplitA (tVar 0) (tCons (tC (.str "\n")) tNil)) (gName 1))
    (tSeq (tAsg (tBM K "str" rSplitA (tOp (rIxB K) (tVar 1) (tC (.int 0))) (tCons (tC (.str " ")) tNil)) (gName 2))
    (tSeq (tAsg (tSl (rSlA K) (tVar 2) (tPart (tC (.int 1))) tNoPart) (gName 3))
    (tSeq (tIfS (tOr (tTest (tOp (rNeA K) (tOp (rIxB K) (tVar 2) (tC (.int 0))) (tC (.str "places")))) (tOr (tTest (tOp (rEqA K) (tVar 3) (tLst tNil))) (tTest (tOp (rNeA K) (tLc (iAny K (tVar 3)) (gName 4) (tNot (tTruth K (tCall (lift K S_l_is_name) [] E0 (tCons (tVar 4) tNil)))) (tVar 4) [4]) (tLst tNil))))) (tRet (tLst (tCons (tC (.str "line")) (tCons (tC (.int 0)) tNil)))) tNext)
    (tSeq (tAsg (tLc (iAny K (tSl (rSlA K) (tVar 1) (tPart (tC (.int 1))) tNoPart)) (gName 6) tYes (tCall (lift K S_l_tie) [] E0 (tCons (tVar 6) tNil)) [6]) (gName 5))
    (tSeq (tIfS (tTest (tOp (rInG K false) (tC .non) (tVar 5))) (tRet (tLst (tCons (tC (.str "line")) (tCons (tOp rAddA (tC (.int 1)) (tBM K "list" (rIndexG K) (tVar 5) (tCons (tC .non) tNil))) tNil)))) tNext)
    (tRet (tCall (lift K S_l_web_due) [] E0 (tCons (tVar 3) (tCons (tVar 5) tNil)))))))))))
def t_l_text (K : PySem.W.Frag) (cn : Cn) : TS :=
  (tSeq (tAsg (tLst (tCons (tBM K "str" (rJoinA K) (tC (.str " ")) (tCons (tOp rAddA (tLst (tCons (tC (.str "places")) tNil)) (tSl (rSlA K) (tOp (rIxB K) (tVar 1) (tC (.str "names"))) tNoPart (tPart (tUn uNegA (tC (.int 1)))))) tNil)) tNil)) (gName 2))
    (tRet (tBM K "str" (rJoinA K) (tC (.str "\n")) (tCons (tOp rAddA (tVar 2) (tLc (iAny K (tCall (lift K S_l_handed) [] E0 (tCons (tVar 0) (tCons (tVar 1) tNil)))) (gSeq K 3 (gCons (gName 3) (gCons (gName 4) (gCons (gName 5) gNil)))) tYes (tBM K "str" (rJoinA K) (tC (.str " ")) (tCons (tLst (tCons (tVar 3) (tCons (tVar 4) (tCons (tCB rStrI (tCons (tVar 5) tNil)) tNil)))) tNil)) [3, 4, 5])) tNil))))
def t_l_sign (K : PySem.W.Frag) (cn : Cn) : TS :=
  (tSeq (tAsg (tC (.str " !\"#$&'()*+,-./0123456789:;<=>?@ABCDEFGHIJKLMNOPQRSTUVWXYZ[\\]^_`abcdefghijklmnopqrstuvwxyz{|}~\n")) (gName 1))
    (tRet (tOp (rIxB K) (tVar 1) (tCall (lift K S_l_take) [] E0 (tCons (tVar 0) (tCons (tC (.int 95)) tNil))))))
def t_l_lines_spoilt (K : PySem.W.Frag) (cn : Cn) : TS :=
  (tSeq (tAsg (tCall (lift K S_l_take) [] E0 (tCons (tVar 0) (tCons (tC (.int 7)) tNil))) (gName 3))
    (tSeq (tAsg (tBM K "str" rSplitA (tVar 1) (tCons (tC (.str "\n")) tNil)) (gName 4))
    (tSeq (tAsg (tCall (lift K S_l_take) [] E0 (tCons (tVar 0) (tCons (tCB (rLenB K) (tCons (tVar 4) tNil)) tNil))) (gName 5))
    (tSeq (tAsg (tCall (lift K S_l_take) [] E0 (tCons (tVar 0) (tCons (tCB (rLenB K) (tCons (tVar 4) tNil)) tNil))) (gName 6))
    (tSeq (tIfS (tTest (tOp (rEqA K) (tVar 3) (tC (.int 0)))) (tRet (tBM K "str" (rJoinA K) (tC (.str "\n")) (tCons (tOp rAddA (tSl (rSlA K) (tVar 4) tNoPart (tPart (tVar 5))) (tSl (rSlA K) (tVar 4) (tPart (tOp rAddA (tVar 5) (tC (.int 1)))) tNoPart)) tNil))) tNext)
    (tSeq (tIfS (tTest (tOp (rEqA K) (tVar 3) (tC (.int 1)))) (tRet (tBM K "str" (rJoinA K) (tC (.str "\n")) (tCons (tOp rAddA (tOp rAddA (tSl (rSlA K) (tVar 4) tNoPart (tPart (tVar 5))) (tLst (tCons (tOp (rIxB K) (tVar 4) (tVar 6)) tNil))) (tSl (rSlA K) (tVar 4) (tPart (tVar 5)) tNoPart)) tNil))) tNext)
    (tSeq (tIfS (tTest (tOp (rEqA K) (tVar 3) (tC (.int 2)))) (tSeq (tAsg (tTup (tCons (tOp (rIxB K) (tVar 4) (tVar 6)) (tCons (tOp (rIxB K) (tVar 4) (tVar 5)) tNil))) (gSeq K 2 (gCons (gSub (tVar 4) (tVar 5) rSetB) (gCons (gSub (tVar 4) (tVar 6) rSetB) gNil))))
    (tRet (tBM K "str" (rJoinA K) (tC (.str "\n")) (tCons (tVar 4) tNil)))) tNext)
    (tSeq (tIfS (tTest (tOp (rEqA K) (tVar 3) (tC (.int 3)))) (tRet (tOp (rIxB K) (tLst (tCons (tOp rAddA (tVar 1) (tC (.str "\n"))) (tCons (tOp rAddA (tC (.str "\n")) (tVar 1)) (tCons (tOp rAddA (tVar 1) (tC (.str " "))) (tCons (tOp rAddA (tC (.str " ")) (tVar 1)) (tCons (tC (.str "")) tNil)))))) (tCall (lift K S_l_take) [] E0 (tCons (tVar 0) (tCons (tC (.int 5)) tNil))))) tNext)
    (tSeq (tIfS (tTest (tOp (rEqA K) (tVar 3) (tC (.int 4)))) (tSeq (tAsg (tOp rAddA (tOp rMulB (tC (.str "q ")) (tOp (rIxB K) (tLst (tCons (tC (.int 0)) (tCons (tC (.int 500)) tNil))) (tCB rIntA (tCons (tOp rLtA (tCB (rLenB K) (tCons (tVar 1) tNil)) (tC (.int 900))) tNil)))) (tC (.str "q"))) (gName 7))
    (tSeq (tAsg (tOp (rIxB K) (tLst (tCons (tOp (rIxB K) (tBM K "str" rSplitA (tOp (rIxB K) (tVar 4) (tC (.int 0))) (tCons (tC (.str " ")) tNil)) (tUn uNegA (tC (.int 1)))) (tCons (tVar 2) (tCons (tC (.str "q w e r t y u i o p a s")) (tCons (tVar 7) tNil))))) (tCall (lift K S_l_take) [] E0 (tCons (tVar 0) (tCons (tC (.int 4)) tNil)))) (gName 8))
    (tRet (tOp rAddA (tOp rAddA (tOp rAddA (tOp (rIxB K) (tVar 4) (tC (.int 0))) (tC (.str " "))) (tVar 8)) (tSl (rSlA K) (tVar 1) (tPart (tCB (rLenB K) (tCons (tOp (rIxB K) (tVar 4) (tC (.int 0))) tNil))) tNoPart))))) tNext)
    (tSeq (tIfS (tTest (tOp (rEqA K) (tVar 3) (tC (.int 5)))) (tRet (tBM K "str" (rJoinA K) (tC (.str "\n")) (tCons (tOp rAddA (tVar 4) (tOp L2.rRep (tSl (rSlA K) (tVar 4) (tPart (tC (.int 1))) (tPart (tC (.int 2)))) (tOp (rIxB K) (tLst (tCons (tC (.int 41)) (tCons (tC (.int 1)) tNil))) (tCB rIntA (tCons (tOp rGtA (tCB (rLenB K) (tCons (tVar 4) tNil)) (tC (.int 44))) tNil))))) tNil))) tNext)
    (tRet (tBM K "str" (rJoinA K) (tC (.str "\n")) (tCons (tOp rAddA (tOp rAddA (tSl (rSlA K) (tVar 4) tNoPart (tPart (tC (.int 1)))) (tCB (rSortG K) (tCons (tSl (rSlA K) (tVar 4) (tPart (tC (.int 1))) tNoPart) tNil))) (tLst (tCons (tBM K "str" (rJoinA K) (tC (.str " ")) (tCons (tLst (tCons (tVar 2) (tCons (tOp (rIxB K) (tBM K "str" rSplitA (tOp (rIxB K) (tVar 4) (tC (.int 0))) (tCons (tC (.str " ")) tNil)) (tUn uNegA (tC (.int 1)))) (tCons (tC (.str "5")) tNil)))) tNil)) tNil))) tNil)))))))))))))
def t_l_words_spoilt (K : PySem.W.Frag) (cn : Cn) : TS :=
  (tSeq (tAsg (tCall (lift K S_l_take) [] E0 (tCons (tVar 0) (tCons (tC (.int 4)) tNil))) (gName 3))
    (tSeq (tAsg (tBM K "str" rSplitA (tVar 1) (tCons (tC (.str "\n")) tNil)) (gName 4))
    (tSeq (tAsg (tCall (lift K S_l_take) [] E0 (tCons (tVar 0) (tCons (tCB (rLenB K) (tCons (tVar 4) tNil)) tNil))) (gName 5))
    (tSeq (tAsg (tBM K "str" rSplitA (tOp (rIxB K) (tVar 4) (tVar 5)) (tCons (tC (.str " ")) tNil)) (gName 6))
    (tSeq (tAsg (tCall (lift K S_l_take) [] E0 (tCons (tVar 0) (tCons (tCB (rLenB K) (tCons (tVar 6) tNil)) tNil))) (gName 7))
    (tSeq (tAsg (tLst (tCons (tC (.str "0")) (tCons (tC (.str "07")) (tCons (tC (.str "-1")) (tCons (tOp rMulB (tC (.str "1")) (tC (.int 30))) (tCons (tOp rMulB (tC (.str "1")) (tC (.int 31))) (tCons (tC (.str "1000001")) (tCons (tC (.str "1.0")) (tCons (tC (.str "")) (tCons (tC (.str "places")) (tCons (tC (.str "abcdefg")) (tCons (tC (.str "A")) (tCons (tVar 2) (tCons (tOp (rIxB K) (tVar 6) (tC (.int 0))) (tCons (tC (.str "+5")) tNil))))))))))))))) (gName 8))
    (tSeq (tAsg (tOp (rIxB K) (tVar 8) (tCall (lift K S_l_take) [] E0 (tCons (tVar 0) (tCons (tC (.int 14)) tNil)))) (gName 9))
    (tSeq (tAsg (tLst (tCons (tOp rAddA (tOp rAddA (tSl (rSlA K) (tVar 6) tNoPart (tPart (tVar 7))) (tLst (tCons (tVar 9) tNil))) (tSl (rSlA K) (tVar 6) (tPart (tOp rAddA (tVar 7) (tC (.int 1)))) tNoPart)) (tCons (tOp rAddA (tOp rAddA (tSl (rSlA K) (tVar 6) tNoPart (tPart (tVar 7))) (tLst (tCons (tVar 9) tNil))) (tSl (rSlA K) (tVar 6) (tPart (tVar 7)) tNoPart)) tNil))) (gName 10))
    (tSeq (tAsg (tOp rAddA (tVar 10) (tLst (tCons (tOp rAddA (tSl (rSlA K) (tVar 6) tNoPart (tPart (tVar 7))) (tSl (rSlA K) (tVar 6) (tPart (tOp rAddA (tVar 7) (tC (.int 1)))) tNoPart)) (tCons (tOp rAddA (tOp rAddA (tSl (rSlA K) (tVar 6) tNoPart (tPart (tVar 7))) (tLst (tCons (tOp (rIxB K) (tVar 6) (tUn uNegA (tC (.int 1)))) tNil))) (tSl (rSlA K) (tVar 6) (tPart (tOp rAddA (tVar 7) (tC (.int 1)))) tNoPart)) tNil)))) (gName 10))
    (tRet (tBM K "str" (rJoinA K) (tC (.str "\n")) (tCons (tOp rAddA (tOp rAddA (tSl (rSlA K) (tVar 4) tNoPart (tPart (tVar 5))) (tLst (tCons (tBM K "str" (rJoinA K) (tC (.str " ")) (tCons (tOp (rIxB K) (tVar 10) (tVar 3)) tNil)) tNil))) (tSl (rSlA K) (tVar 4) (tPart (tOp rAddA (tVar 5) (tC (.int 1)))) tNoPart)) tNil))))))))))))
def t_l_spoilt (K : PySem.W.Frag) (cn : Cn) : TS :=
  (tSeq (tAsg (tCall (lift K S_l_take) [] E0 (tCons (tVar 0) (tCons (tC (.int 6)) tNil))) (gName 3))
    (tSeq (tIfS (tTest (tOp rLtA (tVar 3) (tC (.int 2)))) (tRet (tCall (lift K S_l_lines_spoilt) [] E0 (tCons (tVar 0) (tCons (tVar 1) (tCons (tVar 2) tNil))))) tNext)
    (tSeq (tIfS (tTest (tOp rLtA (tVar 3) (tC (.int 4)))) (tRet (tCall (lift K S_l_words_spoilt) [] E0 (tCons (tVar 0) (tCons (tVar 1) (tCons (tVar 2) tNil))))) tNext)
    (tSeq (tAsg (tCall (lift K S_l_take) [] E0 (tCons (tVar 0) (tCons (tOp rAddA (tCB (rLenB K) (tCons (tVar 1) tNil)) (tC (.int 1))) tNil))) (gName 4))
    (tSeq (tAsg (tCall (lift K S_l_take) [] E0 (tCons (tVar 0) (tCons (tC (.int 3)) tNil))) (gName 5))
    (tSeq (tAsg (tCall (lift K S_l_sign) [] E0 (tCons (tVar 0) tNil)) (gName 6))
    (tRet (tOp rAddA (tOp rAddA (tSl (rSlA K) (tVar 1) tNoPart (tPart (tVar 4))) (tOp (rIxB K) (tLst (tCons (tVar 6) (tCons (tVar 6) (tCons (tC (.str "")) tNil)))) (tVar 5))) (tSl (rSlA K) (tVar 1) (tPart (tOp rAddA (tVar 4) (tOp (rIxB K) (tLst (tCons (tC (.int 0)) (tCons (tC (.int 1)) (tCons (tC (.int 1)) tNil)))) (tVar 5)))) tNoPart)))))))))
def t_law (K : PySem.W.Frag) (cn : Cn) : TS :=
  (tSeq (tFor (iRng1 (tCons (tCB rMax2 (tCons (tC (.int 2)) (tCons (tCB rMin2 (tCons (tCB (rLenB K) (tCons (tVar 0) tNil)) (tCons (tC (.int 16)) tNil))) tNil))) tNil)) (gName 1) (tSeq (tAsg (tCall (lift K S_l_box) [] E0 (tCons (tCall (lift K S_l_cell) [] E0 (tCons (tVar 0) (tCons (tVar 1) tNil))) tNil)) (gName 2))
    (tSeq (tAsg (tCall (lift K S_l_take) [] E0 (tCons (tVar 2) (tCons (tC (.int 4)) tNil))) (gName 3))
    (tSeq (tAsg (tOp (rIxB K) (tLst (tCons (tC .non) (tCons (tC (.int 5)) (tCons (tC (.bl true)) (tCons (tLst (tCons (tC (.str "places a")) tNil)) (tCons (tTup (tCons (tC (.str "places a")) tNil)) (tCons tDNewK (tCons (tOp rPowA (tC (.int 10)) (tC (.int 29))) (tCons (tLst tNil) tNil))))))))) (tCall (lift K S_l_take) [] E0 (tCons (tVar 2) (tCons (tC (.int 8)) tNil)))) (gName 4))
    (tSeq (tAsg (tCall (lift K S_l_world) [] E0 (tCons (tVar 2) tNil)) (gName 5))
    (tSeq (tAsg (tCall (lift K S_l_text) [] E0 (tCons (tVar 2) (tCons (tVar 5) tNil))) (gName 6))
    (tSeq (tIfS (tTest (tOp (rNeA K) (tCB (rReprA K) (tCons (tCall (lift K (S_l_tried cn)) [] E0 (tCons (tVar 6) tNil)) tNil)) (tCB (rReprA K) (tCons (tCall (lift K S_l_due) [] E0 (tCons (tVar 6) tNil)) tNil)))) (tRet (tC (.bl false))) tNext)
    (tSeq (tFor (iRng1 (tCons (tVar 3) tNil)) (gName 7) (tAsg (tCall (lift K S_l_spoilt) [] E0 (tCons (tVar 2) (tCons (tVar 6) (tCons (tOp (rIxB K) (tOp (rIxB K) (tVar 5) (tC (.str "names"))) (tUn uNegA (tC (.int 1)))) tNil)))) (gName 6)))
    (tFor (iAny K (tLst (tCons (tVar 6) (tCons (tVar 4) (tCons (tVar 6) tNil))))) (gName 8) (tIfS (tTest (tOp (rNeA K) (tCB (rReprA K) (tCons (tCall (lift K (S_l_tried cn)) [] E0 (tCons (tVar 8) tNil)) tNil)) (tCB (rReprA K) (tCons (tCall (lift K S_l_due) [] E0 (tCons (tVar 8) tNil)) tNil)))) (tRet (tC (.bl false))) tNext))))))))))
    (tRet (tC (.bl true))))
structure XF (K : PySem.W.Frag) (cn : Cn) : Prop where
  all_NoPlaces : ExcAll K (cn.ad XNoPlaces) (cn.fl XNoPlaces)
  fl_NoPlaces : cn.fl XNoPlaces = (["found"] : List Str)
  ex_NoPlaces : PySem.W.exmOne K (.ref (cn.ad XNoPlaces)) (.ref cn.bs) = some true
  kit_NoPlaces_NoPlaces : PySem.W.kitOne K (.ref (cn.ad XNoPlaces)) (.ref (cn.ad XNoPlaces)) = some true
  kit_NoPlaces_Twice : PySem.W.kitOne K (.ref (cn.ad XNoPlaces)) (.ref (cn.ad XTwice)) = some false
  kit_NoPlaces_NoTies : PySem.W.kitOne K (.ref (cn.ad XNoPlaces)) (.ref (cn.ad XNoTies)) = some false
  kit_NoPlaces_NoPlace : PySem.W.kitOne K (.ref (cn.ad XNoPlaces)) (.ref (cn.ad XNoPlace)) = some false
  kit_NoPlaces_Loop : PySem.W.kitOne K (.ref (cn.ad XNoPlaces)) (.ref (cn.ad XLoop)) = some false
  kit_NoPlaces_NoLength : PySem.W.kitOne K (.ref (cn.ad XNoPlaces)) (.ref (cn.ad XNoLength)) = some false
  kit_NoPlaces_NoText : PySem.W.kitOne K (.ref (cn.ad XNoPlaces)) (.ref (cn.ad XNoText)) = some false
  kit_NoPlaces_Tied : PySem.W.kitOne K (.ref (cn.ad XNoPlaces)) (.ref (cn.ad XTied)) = some false
  kit_NoPlaces_BadLine : PySem.W.kitOne K (.ref (cn.ad XNoPlaces)) (.ref (cn.ad XBadLine)) = some false
  all_NoName : ExcAll K (cn.ad XNoName) (cn.fl XNoName)
  fl_NoName : cn.fl XNoName = (["found"] : List Str)
  ex_NoName : PySem.W.exmOne K (.ref (cn.ad XNoName)) (.ref cn.bs) = some true
  kit_NoName_NoPlaces : PySem.W.kitOne K (.ref (cn.ad XNoName)) (.ref (cn.ad XNoPlaces)) = some false
  kit_NoName_Twice : PySem.W.kitOne K (.ref (cn.ad XNoName)) (.ref (cn.ad XTwice)) = some false
  kit_NoName_NoTies : PySem.W.kitOne K (.ref (cn.ad XNoName)) (.ref (cn.ad XNoTies)) = some false
  kit_NoName_NoPlace : PySem.W.kitOne K (.ref (cn.ad XNoName)) (.ref (cn.ad XNoPlace)) = some false
  kit_NoName_Loop : PySem.W.kitOne K (.ref (cn.ad XNoName)) (.ref (cn.ad XLoop)) = some false
  kit_NoName_NoLength : PySem.W.kitOne K (.ref (cn.ad XNoName)) (.ref (cn.ad XNoLength)) = some false
  kit_NoName_NoText : PySem.W.kitOne K (.ref (cn.ad XNoName)) (.ref (cn.ad XNoText)) = some false
  kit_NoName_Tied : PySem.W.kitOne K (.ref (cn.ad XNoName)) (.ref (cn.ad XTied)) = some false
  kit_NoName_BadLine : PySem.W.kitOne K (.ref (cn.ad XNoName)) (.ref (cn.ad XBadLine)) = some false
  all_Twice : ExcAll K (cn.ad XTwice) (cn.fl XTwice)
  fl_Twice : cn.fl XTwice = (["found"] : List Str)
  ex_Twice : PySem.W.exmOne K (.ref (cn.ad XTwice)) (.ref cn.bs) = some true
  kit_Twice_NoPlaces : PySem.W.kitOne K (.ref (cn.ad XTwice)) (.ref (cn.ad XNoPlaces)) = some false
  kit_Twice_Twice : PySem.W.kitOne K (.ref (cn.ad XTwice)) (.ref (cn.ad XTwice)) = some true
  kit_Twice_NoTies : PySem.W.kitOne K (.ref (cn.ad XTwice)) (.ref (cn.ad XNoTies)) = some false
  kit_Twice_NoPlace : PySem.W.kitOne K (.ref (cn.ad XTwice)) (.ref (cn.ad XNoPlace)) = some false
  kit_Twice_Loop : PySem.W.kitOne K (.ref (cn.ad XTwice)) (.ref (cn.ad XLoop)) = some false
  kit_Twice_NoLength : PySem.W.kitOne K (.ref (cn.ad XTwice)) (.ref (cn.ad XNoLength)) = some false
  kit_Twice_NoText : PySem.W.kitOne K (.ref (cn.ad XTwice)) (.ref (cn.ad XNoText)) = some false
  kit_Twice_Tied : PySem.W.kitOne K (.ref (cn.ad XTwice)) (.ref (cn.ad XTied)) = some false
  kit_Twice_BadLine : PySem.W.kitOne K (.ref (cn.ad XTwice)) (.ref (cn.ad XBadLine)) = some false
  all_NoTies : ExcAll K (cn.ad XNoTies) (cn.fl XNoTies)
  fl_NoTies : cn.fl XNoTies = (["found"] : List Str)
  ex_NoTies : PySem.W.exmOne K (.ref (cn.ad XNoTies)) (.ref cn.bs) = some true
  kit_NoTies_NoPlaces : PySem.W.kitOne K (.ref (cn.ad XNoTies)) (.ref (cn.ad XNoPlaces)) = some false
  kit_NoTies_Twice : PySem.W.kitOne K (.ref (cn.ad XNoTies)) (.ref (cn.ad XTwice)) = some false
  kit_NoTies_NoTies : PySem.W.kitOne K (.ref (cn.ad XNoTies)) (.ref (cn.ad XNoTies)) = some true
  kit_NoTies_NoPlace : PySem.W.kitOne K (.ref (cn.ad XNoTies)) (.ref (cn.ad XNoPlace)) = some false
  kit_NoTies_Loop : PySem.W.kitOne K (.ref (cn.ad XNoTies)) (.ref (cn.ad XLoop)) = some false
  kit_NoTies_NoLength : PySem.W.kitOne K (.ref (cn.ad XNoTies)) (.ref (cn.ad XNoLength)) = some false
  kit_NoTies_NoText : PySem.W.kitOne K (.ref (cn.ad XNoTies)) (.ref (cn.ad XNoText)) = some false
  kit_NoTies_Tied : PySem.W.kitOne K (.ref (cn.ad XNoTies)) (.ref (cn.ad XTied)) = some false
  kit_NoTies_BadLine : PySem.W.kitOne K (.ref (cn.ad XNoTies)) (.ref (cn.ad XBadLine)) = some false
  all_NoTie : ExcAll K (cn.ad XNoTie) (cn.fl XNoTie)
  fl_NoTie : cn.fl XNoTie = (["found"] : List Str)
  ex_NoTie : PySem.W.exmOne K (.ref (cn.ad XNoTie)) (.ref cn.bs) = some true
  kit_NoTie_NoPlaces : PySem.W.kitOne K (.ref (cn.ad XNoTie)) (.ref (cn.ad XNoPlaces)) = some false
  kit_NoTie_Twice : PySem.W.kitOne K (.ref (cn.ad XNoTie)) (.ref (cn.ad XTwice)) = some false
  kit_NoTie_NoTies : PySem.W.kitOne K (.ref (cn.ad XNoTie)) (.ref (cn.ad XNoTies)) = some false
  kit_NoTie_NoPlace : PySem.W.kitOne K (.ref (cn.ad XNoTie)) (.ref (cn.ad XNoPlace)) = some false
  kit_NoTie_Loop : PySem.W.kitOne K (.ref (cn.ad XNoTie)) (.ref (cn.ad XLoop)) = some false
  kit_NoTie_NoLength : PySem.W.kitOne K (.ref (cn.ad XNoTie)) (.ref (cn.ad XNoLength)) = some false
  kit_NoTie_NoText : PySem.W.kitOne K (.ref (cn.ad XNoTie)) (.ref (cn.ad XNoText)) = some false
  kit_NoTie_Tied : PySem.W.kitOne K (.ref (cn.ad XNoTie)) (.ref (cn.ad XTied)) = some false
  kit_NoTie_BadLine : PySem.W.kitOne K (.ref (cn.ad XNoTie)) (.ref (cn.ad XBadLine)) = some false
  all_NoPlace : ExcAll K (cn.ad XNoPlace) (cn.fl XNoPlace)
  fl_NoPlace : cn.fl XNoPlace = (["found"] : List Str)
  ex_NoPlace : PySem.W.exmOne K (.ref (cn.ad XNoPlace)) (.ref cn.bs) = some true
  kit_NoPlace_NoPlaces : PySem.W.kitOne K (.ref (cn.ad XNoPlace)) (.ref (cn.ad XNoPlaces)) = some false
  kit_NoPlace_Twice : PySem.W.kitOne K (.ref (cn.ad XNoPlace)) (.ref (cn.ad XTwice)) = some false
  kit_NoPlace_NoTies : PySem.W.kitOne K (.ref (cn.ad XNoPlace)) (.ref (cn.ad XNoTies)) = some false
  kit_NoPlace_NoPlace : PySem.W.kitOne K (.ref (cn.ad XNoPlace)) (.ref (cn.ad XNoPlace)) = some true
  kit_NoPlace_Loop : PySem.W.kitOne K (.ref (cn.ad XNoPlace)) (.ref (cn.ad XLoop)) = some false
  kit_NoPlace_NoLength : PySem.W.kitOne K (.ref (cn.ad XNoPlace)) (.ref (cn.ad XNoLength)) = some false
  kit_NoPlace_NoText : PySem.W.kitOne K (.ref (cn.ad XNoPlace)) (.ref (cn.ad XNoText)) = some false
  kit_NoPlace_Tied : PySem.W.kitOne K (.ref (cn.ad XNoPlace)) (.ref (cn.ad XTied)) = some false
  kit_NoPlace_BadLine : PySem.W.kitOne K (.ref (cn.ad XNoPlace)) (.ref (cn.ad XBadLine)) = some false
  all_Loop : ExcAll K (cn.ad XLoop) (cn.fl XLoop)
  fl_Loop : cn.fl XLoop = (["found"] : List Str)
  ex_Loop : PySem.W.exmOne K (.ref (cn.ad XLoop)) (.ref cn.bs) = some true
  kit_Loop_NoPlaces : PySem.W.kitOne K (.ref (cn.ad XLoop)) (.ref (cn.ad XNoPlaces)) = some false
  kit_Loop_Twice : PySem.W.kitOne K (.ref (cn.ad XLoop)) (.ref (cn.ad XTwice)) = some false
  kit_Loop_NoTies : PySem.W.kitOne K (.ref (cn.ad XLoop)) (.ref (cn.ad XNoTies)) = some false
  kit_Loop_NoPlace : PySem.W.kitOne K (.ref (cn.ad XLoop)) (.ref (cn.ad XNoPlace)) = some false
  kit_Loop_Loop : PySem.W.kitOne K (.ref (cn.ad XLoop)) (.ref (cn.ad XLoop)) = some true
  kit_Loop_NoLength : PySem.W.kitOne K (.ref (cn.ad XLoop)) (.ref (cn.ad XNoLength)) = some false
  kit_Loop_NoText : PySem.W.kitOne K (.ref (cn.ad XLoop)) (.ref (cn.ad XNoText)) = some false
  kit_Loop_Tied : PySem.W.kitOne K (.ref (cn.ad XLoop)) (.ref (cn.ad XTied)) = some false
  kit_Loop_BadLine : PySem.W.kitOne K (.ref (cn.ad XLoop)) (.ref (cn.ad XBadLine)) = some false
  all_NoLength : ExcAll K (cn.ad XNoLength) (cn.fl XNoLength)
  fl_NoLength : cn.fl XNoLength = (["found"] : List Str)
  ex_NoLength : PySem.W.exmOne K (.ref (cn.ad XNoLength)) (.ref cn.bs) = some true
  kit_NoLength_NoPlaces : PySem.W.kitOne K (.ref (cn.ad XNoLength)) (.ref (cn.ad XNoPlaces)) = some false
  kit_NoLength_Twice : PySem.W.kitOne K (.ref (cn.ad XNoLength)) (.ref (cn.ad XTwice)) = some false
  kit_NoLength_NoTies : PySem.W.kitOne K (.ref (cn.ad XNoLength)) (.ref (cn.ad XNoTies)) = some false
  kit_NoLength_NoPlace : PySem.W.kitOne K (.ref (cn.ad XNoLength)) (.ref (cn.ad XNoPlace)) = some false
  kit_NoLength_Loop : PySem.W.kitOne K (.ref (cn.ad XNoLength)) (.ref (cn.ad XLoop)) = some false
  kit_NoLength_NoLength : PySem.W.kitOne K (.ref (cn.ad XNoLength)) (.ref (cn.ad XNoLength)) = some true
  kit_NoLength_NoText : PySem.W.kitOne K (.ref (cn.ad XNoLength)) (.ref (cn.ad XNoText)) = some false
  kit_NoLength_Tied : PySem.W.kitOne K (.ref (cn.ad XNoLength)) (.ref (cn.ad XTied)) = some false
  kit_NoLength_BadLine : PySem.W.kitOne K (.ref (cn.ad XNoLength)) (.ref (cn.ad XBadLine)) = some false
  all_NoText : ExcAll K (cn.ad XNoText) (cn.fl XNoText)
  fl_NoText : cn.fl XNoText = (["found"] : List Str)
  ex_NoText : PySem.W.exmOne K (.ref (cn.ad XNoText)) (.ref cn.bs) = some true
  kit_NoText_NoPlaces : PySem.W.kitOne K (.ref (cn.ad XNoText)) (.ref (cn.ad XNoPlaces)) = some false
  kit_NoText_Twice : PySem.W.kitOne K (.ref (cn.ad XNoText)) (.ref (cn.ad XTwice)) = some false
  kit_NoText_NoTies : PySem.W.kitOne K (.ref (cn.ad XNoText)) (.ref (cn.ad XNoTies)) = some false
  kit_NoText_NoPlace : PySem.W.kitOne K (.ref (cn.ad XNoText)) (.ref (cn.ad XNoPlace)) = some false
  kit_NoText_Loop : PySem.W.kitOne K (.ref (cn.ad XNoText)) (.ref (cn.ad XLoop)) = some false
  kit_NoText_NoLength : PySem.W.kitOne K (.ref (cn.ad XNoText)) (.ref (cn.ad XNoLength)) = some false
  kit_NoText_NoText : PySem.W.kitOne K (.ref (cn.ad XNoText)) (.ref (cn.ad XNoText)) = some true
  kit_NoText_Tied : PySem.W.kitOne K (.ref (cn.ad XNoText)) (.ref (cn.ad XTied)) = some false
  kit_NoText_BadLine : PySem.W.kitOne K (.ref (cn.ad XNoText)) (.ref (cn.ad XBadLine)) = some false
  all_Tied : ExcAll K (cn.ad XTied) (cn.fl XTied)
  fl_Tied : cn.fl XTied = (["other", "one"] : List Str)
  ex_Tied : PySem.W.exmOne K (.ref (cn.ad XTied)) (.ref cn.bs) = some true
  kit_Tied_NoPlaces : PySem.W.kitOne K (.ref (cn.ad XTied)) (.ref (cn.ad XNoPlaces)) = some false
  kit_Tied_Twice : PySem.W.kitOne K (.ref (cn.ad XTied)) (.ref (cn.ad XTwice)) = some false
  kit_Tied_NoTies : PySem.W.kitOne K (.ref (cn.ad XTied)) (.ref (cn.ad XNoTies)) = some false
  kit_Tied_NoPlace : PySem.W.kitOne K (.ref (cn.ad XTied)) (.ref (cn.ad XNoPlace)) = some false
  kit_Tied_Loop : PySem.W.kitOne K (.ref (cn.ad XTied)) (.ref (cn.ad XLoop)) = some false
  kit_Tied_NoLength : PySem.W.kitOne K (.ref (cn.ad XTied)) (.ref (cn.ad XNoLength)) = some false
  kit_Tied_NoText : PySem.W.kitOne K (.ref (cn.ad XTied)) (.ref (cn.ad XNoText)) = some false
  kit_Tied_Tied : PySem.W.kitOne K (.ref (cn.ad XTied)) (.ref (cn.ad XTied)) = some true
  kit_Tied_BadLine : PySem.W.kitOne K (.ref (cn.ad XTied)) (.ref (cn.ad XBadLine)) = some false
  all_BadLine : ExcAll K (cn.ad XBadLine) (cn.fl XBadLine)
  fl_BadLine : cn.fl XBadLine = (["at"] : List Str)
  ex_BadLine : PySem.W.exmOne K (.ref (cn.ad XBadLine)) (.ref cn.bs) = some true
  kit_BadLine_NoPlaces : PySem.W.kitOne K (.ref (cn.ad XBadLine)) (.ref (cn.ad XNoPlaces)) = some false
  kit_BadLine_Twice : PySem.W.kitOne K (.ref (cn.ad XBadLine)) (.ref (cn.ad XTwice)) = some false
  kit_BadLine_NoTies : PySem.W.kitOne K (.ref (cn.ad XBadLine)) (.ref (cn.ad XNoTies)) = some false
  kit_BadLine_NoPlace : PySem.W.kitOne K (.ref (cn.ad XBadLine)) (.ref (cn.ad XNoPlace)) = some false
  kit_BadLine_Loop : PySem.W.kitOne K (.ref (cn.ad XBadLine)) (.ref (cn.ad XLoop)) = some false
  kit_BadLine_NoLength : PySem.W.kitOne K (.ref (cn.ad XBadLine)) (.ref (cn.ad XNoLength)) = some false
  kit_BadLine_NoText : PySem.W.kitOne K (.ref (cn.ad XBadLine)) (.ref (cn.ad XNoText)) = some false
  kit_BadLine_Tied : PySem.W.kitOne K (.ref (cn.ad XBadLine)) (.ref (cn.ad XTied)) = some false
  kit_BadLine_BadLine : PySem.W.kitOne K (.ref (cn.ad XBadLine)) (.ref (cn.ad XBadLine)) = some true
  cls_Web : Cls K (cn.ad CWeb)
  na_Web_spots : NoAttr K (cn.ad CWeb) "spots"
  na_Web_names : NoAttr K (cn.ad CWeb) "names"
  na_Web_lengths : NoAttr K (cn.ad CWeb) "lengths"

local macro_rules | `(tactic| walk_at "d1") => `(tactic| first
  | ((with_reducible refine' gW ?_); first
    | (with_reducible refine' w_seq ?_)
    | (with_reducible refine' w_asg ?_)
    | (with_reducible refine' w_if ?_)
    | (with_reducible refine' w_ret ?_)
    | (with_reducible refine' w_retN ?_)
    | (with_reducible refine' w_next ?_)
    | (with_reducible refine' w_drop ?_)
    | (with_reducible refine' w_parN ?_)
    | ((with_reducible refine' w_augN opd_addI _ ?h ?q); (case h => rfl)))
  | ((with_reducible refine' gWG ?_); first
    | ((with_reducible refine' wg_nameN ?h ?h2 ?q); (case h => rfl); (case h2 => ((dsimp only [backAs, DL.fill, clr, frz, List.set_cons_zero, List.set_cons_succ, Int.reduceToNat]) <;> rfl)))
    | (with_reducible refine' wg_setLN ?_)
    | (with_reducible refine' wg_s2t ?_)
    | (with_reducible refine' wg_s2l ?_)
    | (with_reducible refine' wg_s2o ?_)
    | (with_reducible refine' wg_s3t ?_)
    | (with_reducible refine' wg_s3l ?_)
    | (with_reducible refine' wg_s3o ?_)
    | ((with_reducible refine' wg_setM ?h1 ?h2 ?q); (case h1 => rfl); (case h2 => rfl))
    | (with_reducible refine' wg_setB ?_))
  | ((with_reducible refine' gOp ?_); first
    | (with_reducible refine' we_op opd_addA' ?_)
    | (with_reducible refine' we_op opd_subA ?_)
    | (with_reducible refine' we_rep ?_)
    | (with_reducible refine' we_op opd_mulB ?_)
    | (with_reducible refine' we_op opd_divA ?_)
    | (with_reducible refine' we_op opd_modA ?_)
    | (with_reducible refine' we_op opd_powA ?_)
    | (with_reducible refine' we_op opd_shlA ?_)
    | (with_reducible refine' we_op opd_shrA ?_)
    | (with_reducible refine' we_op opd_ltA ?_)
    | (with_reducible refine' we_op opd_leA ?_)
    | (with_reducible refine' we_op opd_gtA ?_)
    | (with_reducible refine' we_op opd_geA ?_)
    | (with_reducible refine' we_op opd_eq ?_)
    | (with_reducible refine' we_op opd_eqB ?_)
    | (with_reducible refine' we_op opd_neB ?_)
    | (with_reducible refine' we_op opd_ne ?_)
    | (with_reducible refine' we_op opd_isNA ?_)
    | (with_reducible refine' we_op opd_notNA ?_)
    | (with_reducible refine' we_op opd_isB ?_)
    | (with_reducible refine' we_op opd_notB ?_)
    | (with_reducible refine' we_op opd_ixC ?_)
    | (with_reducible refine' we_op opd_inX ?_)
    | (with_reducible refine' we_op opd_inG ?_)
    | (with_reducible refine' we_op opd_notInG ?_)
    | (with_reducible refine' we_op opd_notInX ?_)
    | (with_reducible refine' we_op opd_inCI ?_)
    | (with_reducible refine' we_op opd_inCN ?_))
  | ((with_reducible refine' gCB ?_); first
    | (with_reducible refine' we_cb cad_reprA ?_)
    | (with_reducible refine' we_cb cad_sortG ?_)
    | (with_reducible refine' we_cb cad_isiB ?_)
    | (with_reducible refine' we_cb cad_listB ?_)
    | (with_reducible refine' we_cb cad_listS ?_)
    | (with_reducible refine' we_cb cad_dict ?_)
    | (with_reducible refine' we_cb cad_dictT ?_)
    | (with_reducible refine' we_cb cad_maxL ?_)
    | (with_reducible refine' we_cb cad_abs ?_)
    | (with_reducible refine' we_cb cad_sum ?_)
    | (with_reducible refine' we_cb cad_minL ?_)
    | (with_reducible refine' we_cb cad_sortI ?_)
    | (with_reducible refine' we_cb cad_sortB ?_)
    | (with_reducible refine' we_cb cad_isiC ?_)
    | (with_reducible refine' we_cb cad_lenB ?_)
    | (with_reducible refine' we_cb cad_max2 ?_)
    | (with_reducible refine' we_cb cad_min2 ?_)
    | (with_reducible refine' we_cb cad_int ?_)
    | (with_reducible refine' we_cb cad_str ?_)
    | (with_reducible refine' we_cb cad_all ?_)
    | (with_reducible refine' we_cb cad_any ?_)
    | (with_reducible refine' we_cb cad_list ?_)
    | (with_reducible refine' we_cb cad_tuple ?_)
    | (with_reducible refine' we_cb cad_divmod ?_))
  | ((with_reducible refine' gWE ?_); first
    | ((with_reducible refine' we_var ?h ?q); (case h => rfl))
    | (with_reducible refine' we_ci ?_)
    | (with_reducible refine' we_cs ?_)
    | (with_reducible refine' we_cb' ?_)
    | (with_reducible refine' we_cn ?_)
    | (with_reducible refine' we_cp ?_)
    | (with_reducible refine' we_ct ?_)
    | (with_reducible refine' we_call ?_)
    | (with_reducible refine' we_append ?_)
    | ((with_reducible refine' we_mat ?h ?q); (case h => rfl))
    | (with_reducible refine' we_fs ?_)
    | (with_reducible refine' we_fmt ?_)
    | (with_reducible refine' we_popT ?_)
    | (with_reducible refine' we_listVals ?_)
    | (with_reducible refine' we_popAt ?_)
    | (with_reducible refine' we_insert ?_)
    | (with_reducible refine' we_pop0 ?_)
    | (with_reducible refine' we_clear0 ?_)
    | (with_reducible refine' we_bm0 med_upper ?_)
    | (with_reducible refine' we_bm med_index ?_)
    | (with_reducible refine' we_bm med_sindex ?_)
    | (with_reducible refine' we_bm med_indexG ?_)
    | (with_reducible refine' we_bm med_split ?_)
    | (with_reducible refine' we_negA ?_)
    | (with_reducible refine' we_lst ?_)
    | (with_reducible refine' we_tup ?_)
    | (with_reducible refine' we_dnew ?_)
    | (with_reducible refine' we_dnewT ?_)
    | (with_reducible refine' we_get1 ?_)
    | (with_reducible refine' we_get2 ?_)
    | (with_reducible refine' we_extend ?_)
    | (with_reducible refine' we_minD ?_)
    | (with_reducible refine' we_maxD ?_)
    | (with_reducible refine' we_sl ?_)
    | (with_reducible refine' we_slT ?_)
    | (with_reducible refine' we_revL ?_)
    | (with_reducible refine' we_bm med_find3 ?_)
    | (with_reducible refine' we_andV ?_)
    | (with_reducible refine' we_orV ?_)
    | (with_reducible refine' we_notV ?_)
    | (with_reducible refine' we_if ?_)
    | (with_reducible refine' we_chain opd_leA opd_leA ?_)
    | (with_reducible refine' we_chain opd_ltA opd_ltA ?_)
    | (with_reducible refine' we_chain opd_ltA opd_leA ?_)
    | (with_reducible refine' we_chain opd_leA opd_ltA ?_)
    | (with_reducible refine' we_bm med_find ?_)
    | (with_reducible refine' we_bm med_join ?_))
  | ((with_reducible refine' gWA ?_); first
    | (with_reducible refine' wa_nil ?_)
    | (with_reducible refine' wa_cons ?_))
  | ((with_reducible refine' gWT ?_); first
    | (with_reducible refine' wt_test ?_)
    | (with_reducible refine' wt_truth ?_)
    | (with_reducible refine' wt_and ?_)
    | (with_reducible refine' wt_or ?_)
    | (with_reducible refine' wt_not ?_)
    | (with_reducible refine' wt_yes ?_))
  | ((with_reducible refine' ex_ownl ?h ?q); (case h => rfl))
  | (with_reducible refine' wjs_cons ?_)
  | (with_reducible refine' wjs_nil ?_)
  | ((with_reducible refine' ex_setBL ?h1 ?h2 ?q); (case h1 => rfl); (case h2 => rfl))
  | ((with_reducible refine' ex_ext ?h1 ?h2 ?q); (case h1 => rfl); (case h2 => first | omega | (simp only [List.length_append, List.length_map, List.length_range, List.length_cons, List.length_nil] at *; omega)))
  | (with_reducible refine' wo_no ?_)
  | (with_reducible refine' wo_part ?_)
  | (with_reducible refine' ex_find3 ?_)
  | ((with_reducible refine' ex_vm2 ?h1 ?h2 ?h3 ?q); (case h1 => first | rfl | exact view_bor rfl); (case h2 => first | rfl | exact view_bor rfl); (case h3 => first | rfl | exact view_bor rfl))
  | ((with_reducible refine' ex_divmod ?h ?q); (case h => exact ⟨by omega, by omega⟩))
  | ((with_reducible refine' ex_rev ?h ?q); (case h => first | rfl | exact view_bor rfl))
  | (with_reducible refine' dIntC_b ?_)
  | (with_reducible refine' dInt0_i ?_)
  | (with_reducible refine' dAdd_i ?_)
  | (with_reducible refine' dAddI_i ?_)
  | ((with_reducible refine' dEq_sI ?h ?q); (case h => rfl))
  | ((with_reducible refine' dEq_sN ?h ?q); (case h => rfl))
  | ((with_reducible refine' dEqB_sI ?h ?q); (case h => rfl))
  | ((with_reducible refine' dEqB_sN ?h ?q); (case h => rfl))
  | (with_reducible refine' dIsB_I ?_)
  | (with_reducible refine' dIsB_N ?_)
  | (with_reducible refine' dIsN_I ?_)
  | (with_reducible refine' dIsN_N ?_)
  | ((with_reducible refine' dPow_ ?h1 ?h2 ?q); (case h1 => first | ((dsimp only [Int.reduceToNat, Int.reducePow]) <;> rfl) | rfl); (case h2 => first | exact ⟨by decide, by decide, by decide⟩ | exact ⟨by omega, by omega, by omega⟩))
  | ((with_reducible refine' dInt_i ?h ?q); (case h => first | omega | (dsimp only; omega) | exact cdiv_ok (by omega) (by omega) | assumption | exact ⟨by decide, by decide, by decide⟩ | exact ⟨by omega, by omega, by omega⟩))
  | ((with_reducible refine' dMul_i ?h ?q); (case h => first | (left; left; exact ⟨by omega, by omega⟩) | (left; right; exact ⟨by omega, by omega⟩)))
  | (with_reducible refine' ex_trb ?_)
  | (with_reducible refine' ex_bl ?_)
  | (with_reducible refine' ex_int ?_)
  | (with_reducible refine' ex_two ?_)
  | ((with_reducible refine' ex_op ?h1 ?h2 ?q); (case h1 => first | rfl | exact view_bor rfl); (case h2 => first | rfl | exact view_bor rfl))
  | ((with_reducible refine' ex_dat ?h1 ?q); (case h1 => rfl))
  | (with_reducible refine' ex_bor ?_)
  | ((with_reducible refine' ex_setN ?h1 ?h2 ?q); (case h1 => rfl); (case h2 => rfl))
  | ((with_reducible refine' ex_appN ?h1 ?h2 ?q); (case h1 => rfl); (case h2 => first | omega | (simp only [List.length_append, List.length_map, List.length_range, List.length_cons, List.length_nil] at *; omega)))
  | ((with_reducible refine' ex_sl ?h1 ?q); (case h1 => rfl))
  | (with_reducible refine' ex_par ?_)
  | ((with_reducible refine' all_eqN ?h2 ?q); (case h2 => ((dsimp only [backAs, DL.fill, clr, frz, List.set_cons_zero, List.set_cons_succ, Int.reduceToNat]) <;> rfl)))
  | ((with_reducible refine' ex_call ?h1 ?h2 ?h3 ?q); (case h1 => repeat first | exact toAs_nil | apply toAs_d | apply toAs_b rfl); (case h2 => first | exact List.nodup_nil | exact List.nodup_singleton _ | simp [owned]); (case h3 => first | exact fun _ => rfl | exact fun h => nomatch h))
  | ((with_reducible refine' ex_mu1 ?h ?q); (case h => rfl))
  | ((with_reducible refine' dIxC_l ?h ?q); (case h => rfl))
  | ((with_reducible refine' dIxC_u ?h ?q); (case h => rfl))
  | (with_reducible refine' dInC_sI ?_)
  | (with_reducible refine' dInC_sN ?_)
  | ((with_reducible refine' ex_lsd ?h1 ?h2 ?q); (case h1 => repeat first | exact datas_nil | apply datas_cons); (case h2 => first | exact Nat.le_of_ble_eq_true rfl | simp))
  | ((with_reducible refine' ex_vs1 ?h1 ?q); (case h1 => first | rfl | exact view_bor rfl))
  | ((with_reducible refine' ex_vs2 ?h1 ?h2 ?q); (case h1 => first | rfl | exact view_bor rfl); (case h2 => first | rfl | exact view_bor rfl))
  | ((with_reducible refine' ex_vs3 ?h1 ?h2 ?h3 ?q); (case h1 => first | rfl | exact view_bor rfl); (case h2 => first | rfl | exact view_bor rfl); (case h3 => first | rfl | exact view_bor rfl))
  | ((with_reducible refine' ex_isi ?h1 ?q); (case h1 => first | (exact isi_int (by first | rfl | assumption)) | (exact isi_bl (by first | rfl | assumption)) | (exact isi_str (by first | rfl | assumption))))
  | ((with_reducible refine' ex_isiB ?h1 ?q); (case h1 => first | exact isi_lst | exact isi_tup | exact isi_dct | exact isi_st | exact isi2_lst | exact isi2_tup | (exact isi_int (by first | rfl | assumption)) | (exact isi_bl (by first | rfl | assumption)) | (exact isi_str (by first | rfl | assumption))))
  | ((with_reducible refine' ex_lenB ?h1 ?h2 ?q); (case h1 => first | assumption | trivial | (show _ ≤ _; omega) | (show _ ≤ _; decide +kernel)); (case h2 => rfl))
  | ((with_reducible refine' ex_ty ?h1 ?h2 ?q); (case h1 => first | rfl | exact view_bor rfl); (case h2 => rfl))
  | ((with_reducible refine' ex_vm1 ?h1 ?h2 ?q); (case h1 => first | rfl | exact view_bor rfl); (case h2 => first | rfl | exact view_bor rfl))
  | (with_reducible refine' ex_find ?_)
  | (show ∀ _ : Addr, _; intro _)
  | ((with_reducible refine' ex_view ?h1 ?q); (case h1 => rfl))
  | ((refine' ex_appN ?h1 ?h2 ?q); (case h1 => rfl); (case h2 => first | omega | (simp only [List.length_append, List.length_map, List.length_range, List.length_cons, List.length_nil] at *; omega)))
  | (with_reducible refine' br_t ?_)
  | (with_reducible refine' br_f ?_)
  | (with_reducible refine' br_not (br_t ?_))
  | (with_reducible refine' br_not (br_f ?_)))
local macro_rules | `(tactic| walk_at "d0") => `(tactic| dsimp only [List.cons_append, List.nil_append])
local macro_rules | `(tactic| walk_at "d") => `(tactic| repeat walk_at "d1")
local macro_rules | `(tactic| walk_at "ds") => `(tactic| dsimp only [isIntD, isBlD, isStrD, DL.isNon, id, List.set_cons_zero, List.set_cons_succ])
local macro_rules | `(tactic| walk_at "k") => `(tactic| dsimp only [backAs, DL.fill, clr, frz, List.set_cons_zero, List.set_cons_succ])

local macro_rules | `(tactic| walk_at "x") => `(tactic| first | (with_reducible refine' br_f (w_next ?_)) | (with_reducible refine' br_t (w_next ?_)) | (with_reducible refine' w_next ?_) | skip)
local macro_rules | `(tactic| walk_at "i") => `(tactic| repeat ((fail_if_success (with_reducible refine' w_if ?_)); walk_at "d1"))
local macro_rules | `(tactic| walk_at "t") => `(tactic| repeat ((fail_if_success (with_reducible refine' wg_setB ?_)); walk_at "d1"))
local macro_rules | `(tactic| walk_at "l") => `(tactic| repeat ((fail_if_success (with_reducible refine' we_lst ?_)); walk_at "d1"))
local macro_rules | `(tactic| walk_at "p") => `(tactic| repeat ((fail_if_success (with_reducible refine' w_drop ?_)); walk_at "d1"))
local macro_rules | `(tactic| walk_at "q") => `(tactic| repeat ((fail_if_success (with_reducible refine' w_seq ?_)); walk_at "d1"))

theorem nm_is {x : Str} (h : nmOk x = true) : 1 ≤ x.length ∧ x.length ≤ 6 ∧ ((tl x).all fun ch => decide (ch ∈ lettersL)) = true := by
  unfold nmOk at h
  rw [Bool.and_eq_true, Bool.and_eq_true, decide_eq_true_eq, decide_eq_true_eq] at h
  exact ⟨h.1.1, h.1.2, h.2⟩
theorem ltr : (Str.ofString "abcdefghijklmnopqrstuvwxyz").cps.toList = lettersL := by decide +kernel
/-! names, as a list or a tuple -/
theorem strs_get {ns : List Str} {i : Nat} {d : D} (h : (ns.map D.str)[i]? = some d) : ∃ x, d = .str x ∧ ns[i]? = some x := by
  rw [List.getElem?_map] at h
  cases e : ns[i]? with
  | none => rw [e] at h; cases h
  | some x => rw [e] at h; cases h; exact ⟨x, rfl, rfl⟩
theorem nodup_take {α : Type} [DecidableEq α] {ns : List α} {i : Nat} {x : α} (hn : ns.Nodup) (h : ns[i]? = some x) : x ∉ ns.take i := by
  intro m
  obtain ⟨j, hj, e⟩ := List.mem_iff_getElem.mp m
  rw [List.length_take] at hj
  rw [List.getElem_take] at e
  obtain ⟨hi, e2⟩ := List.getElem?_eq_some_iff.mp h
  exact List.pairwise_iff_getElem.mp (List.nodup_iff_pairwise_ne.mp hn) j i (by omega) hi (by omega) (by rw [e, e2])
/-! dicts -/
theorem putD_new {kds : List (Key × D)} {k : Key} {v : D} (h : ∀ q ∈ kds, q.1 ≠ k) : putD kds k v = kds ++ [(k, v)] := by
  unfold putD
  rw [if_neg]
  intro z
  obtain ⟨q, hq, e⟩ := List.any_eq_true.mp z
  exact h q hq (of_decide_eq_true e)
theorem mergeD_new : ∀ {more acc : List (Key × D)}, (∀ q ∈ more, ∀ r ∈ acc, r.1 ≠ q.1) → (more.map Prod.fst).Nodup → mergeD acc more = acc ++ more
  | [], acc, _, _ => by show acc = acc ++ []; rw [List.append_nil]
  | m :: more, acc, h, n => by
    show mergeD (putD acc m.1 m.2) more = _
    have n' := List.nodup_cons.mp n
    rw [putD_new (h m List.mem_cons_self), mergeD_new (fun q hq r hr => ?_) n'.2, List.append_assoc]
    · rfl
    · rcases List.mem_append.mp hr with z | z
      · exact h q (List.mem_cons_of_mem _ hq) r z
      · rw [List.mem_singleton.mp z]
        exact fun e => n'.1 (by rw [show m.1 = q.1 from e]; exact List.mem_map_of_mem hq)

theorem signsD_get {z : Str} {i : Nat} {d : D} (h : (signsD z)[i]? = some d) : ∃ ch, d = .str ⟨#[ch]⟩ ∧ (tl z)[i]? = some ch := by
  unfold signsD at h
  rw [List.getElem?_map] at h
  cases e : z.cps.toList[i]? with
  | none => rw [e] at h; cases h
  | some ch => rw [e] at h; cases h; exact ⟨ch, rfl, rfl⟩
def sgn (s : Str) : Nat := s.cps.getD 0 0
def inK (L : List Nat) : D → Option D
  | .str s => some (.bl (decide (sgn s ∈ L)))
  | _ => none
def ifK (L : List Nat) : D → Option D
  | .str s => if sgn s ∈ L then some (.str s) else none
  | _ => none
theorem all_in (z : Str) (L : List Nat) : blsD ((signsD z).filterMap (inK L)) = some ((tl z).map fun ch => decide (ch ∈ L)) := by
  have e : (signsD z).filterMap (inK L) = ((tl z).map fun ch => decide (ch ∈ L)).map D.bl := by
    unfold signsD
    rw [List.filterMap_map, List.map_map]
    show List.filterMap (fun ch => some (D.bl (decide (ch ∈ L)))) (tl z) = _
    generalize tl z = l
    induction l with
    | nil => rfl
    | cons a r ih => simp
  rw [e, blsD_map]
theorem all_map_id (l : List Nat) (L : List Nat) : (l.map fun ch => decide (ch ∈ L)).all id = l.all fun ch => decide (ch ∈ L) := by
  induction l with
  | nil => rfl
  | cons a r ih => simp
def lw (L : List Nat) : List D := L.map fun ch => .str ⟨#[ch]⟩
theorem lw_strs : ∀ L : List Nat, strsD (lw L) = some (L.map fun ch => (⟨#[ch]⟩ : Str))
  | [] => rfl
  | c :: L => by
    show (strsD (lw L)).map _ = _
    rw [lw_strs L]
    rfl
theorem sum_ones (L : List Nat) : ((L.map fun ch => (⟨#[ch]⟩ : Str)).map (·.length)).sum = L.length := by
  induction L with
  | nil => rfl
  | cons c L ih =>
    simp only [List.map_cons, List.sum_cons, ih, List.length_cons]
    show 1 + L.length = _
    omega
theorem len_app (x y : Str) : (x ++ y).length = x.length + y.length := by
  rw [len_tl, tl_append, List.length_append, ← len_tl, ← len_tl]
theorem lw_snoc (L : List Nat) (ch : Nat) : lw L ++ [.str ⟨#[ch]⟩] = lw (L ++ [ch]) := by
  unfold lw
  rw [List.map_append]
  rfl

theorem ws_l_cell : WsC (Fx := XF) S_l_cell t_l_cell [] := by
  rintro K cn as Φ fx ⟨ns, k, rfl, hl, h⟩
  unfold t_l_cell
  walk_at "d0"
  walk_at "d"
  refine br_d (fun h1 => ?_) (fun h1 => ?_)
  · walk_at "d"
    rw [List.length_map] at h1
    have hk : k < ns.length := by omega
    refine dIxC_r (atI_nat (j := k) (by rw [List.getElem?_map, List.getElem?_eq_getElem hk]; rfl)) ?_
    exact ⟨trivial, h _⟩
  · walk_at "d"
    exact ⟨trivial, h _⟩
theorem ws_l_box : WsC (Fx := XF) S_l_box t_l_box [] := by
  rintro K cn as Φ fx ⟨v, rfl, h⟩
  unfold t_l_box
  walk_at "d0"
  walk_at "d"
  refine ⟨trivial, h _ _ ⟨_, _, _, rfl, ?_, ?_, ?_, ?_⟩⟩ <;> omega
theorem box_bound {x t : Int} (h1 : 0 ≤ x) (h2 : x < 2147483648) (h3 : 0 ≤ t) (h4 : t ≤ 1000000) : (x * (2 * t + 1) + 7919 * t + 11).natAbs < 2 ^ 64 := by
  have a1 : 0 ≤ x * (2 * t + 1) := Int.mul_nonneg h1 (by omega)
  have a2 : x * (2 * t + 1) ≤ 2147483648 * 2000001 := Int.mul_le_mul (by omega) (by omega) (by omega) (by decide)
  omega
theorem box_bound2 {z t : Int} (h0 : 0 ≤ z) (h00 : z < 2147483647) (h3 : 0 ≤ t) (h4 : t ≤ 1000000) : (z * (t + 3) + 104729).natAbs < 2 ^ 64 := by
  have a1 : 0 ≤ z * (t + 3) := Int.mul_nonneg h0 (by omega)
  have a2 : z * (t + 3) ≤ 2147483647 * 1000003 := Int.mul_le_mul (by omega) (by omega) (by omega) (by decide)
  omega
theorem ws_l_take : WsC (Fx := XF) S_l_take t_l_take [.no, .no, .no] := by
  rintro K cn as Φ fx ⟨b, x, n, m, rfl, ⟨x0, x1, x2, rfl, h1, h2, h3, h4⟩, hn, hm, hm2, h⟩
  unfold t_l_take
  walk_at "d0"
  walk_at "d"
  refine br_d (fun h7 => ?_) (fun h7 => ?_)
  · walk_at "d"
    exact ⟨⟨rfl, trivial⟩, h _ _ (Int.emod_nonneg _ (by omega)) (Int.emod_lt_of_pos _ hm) ⟨_, _, _, rfl, h1, h2, h3, by omega⟩⟩
  · walk_at "d"
    refine dInt_i ⟨by decide, by decide, box_bound h1 h2 (by omega) (by omega)⟩ ?_
    walk_at "d"
    have g1 := Int.emod_nonneg ((x1 * (2 * (x2 + 1) + 1) + 7919 * (x2 + 1) + 11) ^ 5) (show (2147483647 : Int) ≠ 0 by decide)
    have g2 := Int.emod_lt_of_pos ((x1 * (2 * (x2 + 1) + 1) + 7919 * (x2 + 1) + 11) ^ 5) (show (0 : Int) < 2147483647 by decide)
    generalize (x1 * (2 * (x2 + 1) + 1) + 7919 * (x2 + 1) + 11) ^ 5 % 2147483647 = num at g1 g2 ⊢
    refine dInt_i ⟨by decide, by decide, box_bound2 g1 g2 (by omega) (by omega)⟩ ?_
    walk_at "d"
    exact ⟨⟨rfl, trivial⟩, h _ _ (Int.emod_nonneg _ (by omega)) (Int.emod_lt_of_pos _ hm) ⟨_, _, _, rfl, h1, h2, by omega, by omega⟩⟩
/-- a draw, at a call -/
theorem use_take {P : R → List Sl → Prop} {b : Addr} {x : D} {n : Nat} {m : Int} (hb : BoxD n x) (hn : n < 1000000) (hm : 0 < m) (hm2 : m < 2 ^ 200) (q : ∀ r x', 0 ≤ r → r < m → BoxD (n + 1) x' → P (.d (.int r)) [.own b x', .d (.int m)]) :
    ∀ Ψ : R → List Sl → Prop, (∀ r as', ownOut r → P r as' → Ψ r as') → S_l_take [.own b x, .d (.int m)] Ψ := fun Ψ k => ⟨b, x, n, m, rfl, hb, hn, hm, hm2, fun r x' h1 h2 h3 => k _ _ trivial (q r x' h1 h2 h3)⟩
theorem BoxD.mono {n m : Nat} {x : D} (h : BoxD n x) (e : n ≤ m) : BoxD m x := by
  obtain ⟨x0, x1, x2, h0, h1, h2, h3, h4⟩ := h
  exact ⟨x0, x1, x2, h0, h1, h2, h3, by omega⟩

theorem ws_is_whole : WsC (Fx := XF) S_is_whole t_is_whole [] := by
  rintro K cn as Φ fx ⟨x, lo, hi, rfl, ht, h⟩
  unfold t_is_whole
  walk_at "d0"
  walk_at "d"
  refine br_not (br (fun h1 => ?_) (fun h1 => ?_))
  · walk_at "d"
    refine br (fun h2 => ?_) (fun h2 => ?_)
    · walk_at "d"
      cases x <;> first | (cases h2; done) | exact ⟨trivial, h⟩
    · cases x <;> first | (cases h1; done) | (cases h2; done) | skip
      rename_i i
      walk_at "d"
      refine br_d (fun h3 => ?_) (fun h3 => ?_)
      · walk_at "d"
        have e : decide (i ≤ hi) = wholeB (.int i) lo hi := by simp [wholeB, h3]
        rw [e]
        exact ⟨trivial, h⟩
      · have e : false = wholeB (.int i) lo hi := by simp [wholeB, h3]
        rw [e]
        exact ⟨trivial, h⟩
  · walk_at "d"
    cases x <;> first | (cases h1; done) | exact ⟨trivial, h⟩
theorem all_map_in (s : Str) : ((tl s).map fun ch => decide (ch ∈ lettersL)).all id = (tl s).all fun ch => decide (ch ∈ lettersL) := all_map_id _ _
theorem ws_is_name : WsC (Fx := XF) S_is_name t_is_name [.no] := by
  rintro K cn as Φ fx ⟨x, rfl, ⟨hx, hs⟩, h⟩
  unfold t_is_name
  walk_at "d0"
  walk_at "d"
  cases x with
  | str s =>
    have h16 : s.length ≤ 16000000 := hs
    dsimp only [isStrD]
    walk_at "d"
    refine br_d (fun h1 => ?_) (fun h1 => ?_)
    · walk_at "d"
      refine br_n (fun h2 => ?_) (fun h2 => ?_)
      · walk_at "d"
        have e : nameB (.str s) = false := by
          show nmOk s = false
          unfold nmOk
          rw [show decide (s.length ≤ 6) = false from decide_eq_false (by omega), Bool.and_false, Bool.false_and]
        rw [e] at h
        exact ⟨trivial, h⟩
      · walk_at "x"
        walk_at "d"
        refine we_lcP (wi_any ?_)
        walk_at "d"
        refine ex_it rfl rfl ?_
        refine ⟨⟨trivial, trivial⟩, ?_, inK lettersL, fun i d hd => ?_, fun a => ?_⟩
        · unfold signsD
          rw [List.length_map, ← len_tl]
          omega
        · obtain ⟨ch, rfl, _⟩ := signsD_get hd
          refine wgc_name (by simp) rfl ?_
          walk_at "d"
          rw [ltr]
          simp [inK, sgn]
        · walk_at "d"
          refine ⟨_, rfl, _, _, rfl, all_in s lettersL, ?_⟩
          rw [all_map_in]
          have e : nameB (.str s) = (tl s).all fun ch => decide (ch ∈ lettersL) := by
            show nmOk s = _
            unfold nmOk
            rw [show decide (s.length ≤ 6) = true from decide_eq_true (by omega), show decide (1 ≤ s.length) = true from decide_eq_true (by omega)]
            rfl
          rw [e] at h
          exact ⟨trivial, h⟩
    · walk_at "d"
      have e : nameB (.str s) = false := by
        show nmOk s = false
        unfold nmOk
        rw [show decide (1 ≤ s.length) = false from decide_eq_false (by omega), Bool.false_and, Bool.false_and]
      rw [e] at h
      exact ⟨trivial, h⟩
  | _ => walk_at "ds"; walk_at "d"; exact ⟨trivial, h⟩
section
variable {P : R → List Sl → Prop} {x : D} {lo hi : Int}
theorem use_is_name (hx : anyD x) (q : P (.d (.bl (nameB x))) [.d x]) :
    ∀ Ψ : R → List Sl → Prop, (∀ r as', ownOut r → P r as' → Ψ r as') → S_is_name [.d x] Ψ := fun Ψ k => ⟨x, rfl, hx, k _ _ trivial q⟩
theorem use_is_whole (h : (tyD x).isSome = true) (q : P (.d (.bl (wholeB x lo hi))) [.d x, .d (.int lo), .d (.int hi)]) :
    ∀ Ψ : R → List Sl → Prop, (∀ r as', ownOut r → P r as' → Ψ r as') → S_is_whole [.d x, .d (.int lo), .d (.int hi)] Ψ := fun Ψ k => ⟨x, lo, hi, rfl, h, k _ _ trivial q⟩
end

theorem one_zero (ch : Nat) : ((⟨#[ch]⟩ : Str) = Str.ofString "0") ↔ ch = 48 := one_str ch 48
theorem eq_zero {z : Str} (h : z.cps.toList.head? = some 48) : z = Str.ofString "0" ↔ ¬ 1 < z.length := by
  have hl := len_tl z
  have e0 : (Str.ofString "0").cps.toList = [48] := by decide +kernel
  constructor
  · rintro rfl
    decide +kernel
  · intro hn
    refine str_eq ?_
    rw [e0]
    cases e : z.cps.toList with
    | nil => rw [e] at h; cases h
    | cons a r =>
      rw [e] at h
      cases h
      have : (tl z) = 48 :: r := e
      rw [this] at hl
      cases r with
      | nil => rfl
      | cons b r => simp at hl; omega
theorem head_atI {z : Str} (h : 1 ≤ z.length) : ∃ ch, atI z.cps.toList 0 = some ch ∧ z.cps.toList.head? = some ch := by
  cases e : z.cps.toList with
  | nil => have := len_tl z; rw [show tl z = [] from e] at this; simp at this; omega
  | cons a r => exact ⟨a, atI_nat (j := 0) rfl, rfl⟩
theorem all_digits {z : Str} (h : ((tl z).all fun ch => decide (ch ∈ figuresL)) = true) : NumText.AllDigits z.cps.toList := by
  intro c hc
  exact digits_mem.mp (of_decide_eq_true (List.all_eq_true.mp h c hc))
theorem numIn_bad {z : Str} {lo hi : Int} (h : okNum z = false) : numIn (.str z) lo hi = .non := by
  simp [numIn, numS, h]
theorem ws_number_in : WsC (Fx := XF) S_number_in t_number_in [.no, .no] := by
  rintro K cn as Φ fx ⟨x, lo, hi, rfl, ⟨ht, hs⟩, h⟩
  unfold t_number_in
  walk_at "d0"
  walk_at "d"
  refine br_not (br (fun h1 => ?_) (fun h1 => ?_))
  · cases x <;> first | (cases h1; done) | skip
    rename_i z
    walk_at "d"
    refine br_d (fun h3 => ?_) (fun h3 => ?_)
    · walk_at "d"
      refine br_not (br_d (fun h4 => ?_) (fun h4 => ?_))
      · have d1 : decide (1 ≤ z.length) = true := decide_eq_true (by omega)
        have d2 : decide (z.length ≤ 30) = true := decide_eq_true (by omega)
        walk_at "d"
        refine we_lcP (wi_any ?_)
        walk_at "d"
        refine ex_it rfl rfl ?_
        refine ⟨⟨trivial, trivial⟩, ?_, inK figuresL, fun i d hd => ?_, fun a => ?_⟩
        · unfold signsD
          rw [List.length_map, ← len_tl]
          omega
        · obtain ⟨ch, rfl, _⟩ := signsD_get hd
          refine wgc_name (by simp) rfl ?_
          walk_at "d"
          skip
          simp [inK, sgn, figuresL]
        · walk_at "d"
          refine ⟨_, rfl, _, _, rfl, all_in z figuresL, ?_⟩
          rw [all_map_id]
          walk_at "d"
          refine br_not (br (fun (h5 : ((tl z).all fun ch => decide (ch ∈ figuresL)) = true) => ?_) (fun (h5 : ((tl z).all fun ch => decide (ch ∈ figuresL)) = false) => ?_))
          · obtain ⟨ch, hc, hh⟩ := head_atI (z := z) (by omega)
            have hh2 : (tl z).head? = some ch := hh
            walk_at "d"
            refine dIxC_s (by omega) hc ?_
            walk_at "d"
            have fin : ∀ P : Prop, (decide ((tl z).head? = some 48) && decide (1 < z.length)) = false → (∀ n : Int, PySem.intText? z = some n → n = valOf z → okNum z = true → P) → P := fun P q k => by
              refine k _ (PySem.intText_digits (all_digits h5) ?_ (by omega)) rfl ?_
              · intro e; rw [e] at hh; cases hh
              · simp only [okNum, d1, d2, h5, q, Bool.true_and, Bool.not_false]
            have go : okNum z = true → PySem.intText? z = some (valOf z) → ∃ x, [D.str z] = [x] ∧ dIntC x fun r => WG (c0 K) (gName 4) r [Sl.d (D.str z), Sl.d (D.int lo), Sl.d (D.int hi), Sl.no, Sl.no] fun δ' => W (c0 K) (tSeq (tIfS (tNot (tTest (tChain rLeA rLeA (tVar 1) (tVar 4) (tVar 2)))) (tRet (tC V.non)) tNext) (tRet (tVar 4))) δ' (RetD [Sl.d (D.str z), Sl.d (D.int lo), Sl.d (D.int hi)] Φ (R.d D.non)) (RetD [Sl.d (D.str z), Sl.d (D.int lo), Sl.d (D.int hi)] Φ) (fun x => False) fun x => False := fun ok hv => by
              refine ⟨_, rfl, _, hv, by omega, ?_⟩
              walk_at "d"
              refine br_d (fun h6 => ?_) (fun h6 => ?_)
              · walk_at "d"
                refine br_not (br_d (fun h7 => ?_) (fun h7 => ?_))
                · walk_at "d"
                  have e : D.int (valOf z) = numIn (.str z) lo hi := by simp [numIn, numS, ok, h6, h7]
                  rw [e]
                  exact ⟨trivial, h⟩
                · walk_at "d"
                  have e : D.non = numIn (.str z) lo hi := by simp [numIn, numS, h7]
                  rw [e]
                  exact ⟨trivial, h⟩
              · walk_at "d"
                have e : D.non = numIn (.str z) lo hi := by simp [numIn, numS, h6]
                rw [e]
                exact ⟨trivial, h⟩
            refine br_d (fun h6 => ?_) (fun h6 => ?_)
            · have hc48 := (one_zero ch).mp h6
              subst hc48
              walk_at "d"
              refine br_n (fun h7 => ?_) (fun h7 => ?_)
              · walk_at "d"
                rw [eq_zero hh, Decidable.not_not] at h7
                have e : okNum z = false := by simp only [okNum, hh2, h7, decide_true, Bool.and_true, Bool.not_true, Bool.and_false]
                have e2 := numIn_bad (lo := lo) (hi := hi) e
                rw [e2] at h
                exact ⟨trivial, h⟩
              · walk_at "d"
                rw [eq_zero hh] at h7
                exact fin _ (by simp [h7]) fun n q1 q2 q3 => go q3 (by rw [q1, q2])
            · walk_at "d"
              have h7 : ch ≠ 48 := fun q => h6 ((one_zero ch).mpr q)
              exact fin _ (by simp [hh2, h7]) fun n q1 q2 q3 => go q3 (by rw [q1, q2])
          · walk_at "d"
            have e : okNum z = false := by simp only [okNum, h5, Bool.and_false, Bool.false_and]
            rw [numIn_bad e] at h
            exact ⟨trivial, h⟩
      · walk_at "d"
        have e : okNum z = false := by simp only [okNum, show decide (z.length ≤ 30) = false from decide_eq_false (by omega), Bool.and_false, Bool.false_and]
        rw [numIn_bad e] at h
        exact ⟨trivial, h⟩
    · walk_at "d"
      have e : okNum z = false := by simp only [okNum, show decide (1 ≤ z.length) = false from decide_eq_false (by omega), Bool.false_and]
      rw [numIn_bad e] at h
      exact ⟨trivial, h⟩
  · walk_at "d"
    have e : D.non = numIn x lo hi := by cases x <;> first | (cases h1; done) | rfl
    rw [← e] at h
    exact ⟨trivial, h⟩
section
variable {P : R → List Sl → Prop} {x : D} {lo hi : Int}
theorem use_number_in (h : anyD x) (q : P (.d (numIn x lo hi)) [.d x, .d (.int lo), .d (.int hi)]) :
    ∀ Ψ : R → List Sl → Prop, (∀ r as', ownOut r → P r as' → Ψ r as') → S_number_in [.d x, .d (.int lo), .d (.int hi)] Ψ := fun Ψ k => ⟨x, lo, hi, rfl, h, k _ _ trivial q⟩
end

/-! plain: places and their numbers, ties -/
theorem spKo_get (s : Str) : ∀ (ns : List Str) (k : Nat), DL.getD ((ns.zipIdx k).map fun q => ((.inr q.1 : Key), D.int (q.2 : Nat))) (.inr s) = (posN s ns).map fun (i : Nat) => D.int ((i + k : Nat) : Int)
  | [], k => rfl
  | x :: ns, k => by
    have ih := spKo_get s ns (k + 1)
    unfold DL.getD at ih ⊢
    rw [List.zipIdx_cons, List.map_cons, List.find?_cons]
    unfold posN
    by_cases z : x = s
    · subst z
      simp
    · have z2 : ¬ (Sum.inr x : Key) = Sum.inr s := fun e => z (Sum.inr.inj e)
      rw [show decide ((Sum.inr x : Key) = Sum.inr s) = false from decide_eq_false z2, if_neg z, Option.map_map]
      show Option.map _ (List.find? _ _) = _
      rw [ih]
      cases posN s ns with
      | none => rfl
      | some i =>
        show some (D.int ((i + (k + 1) : Nat) : Int)) = some (D.int ((i + 1 + k : Nat) : Int))
        rw [show i + (k + 1) = i + 1 + k by omega]
theorem spK_get (s : Str) (ns : List Str) : DL.getD (spK ns) (.inr s) = (posN s ns).map fun (i : Nat) => D.int (i : Nat) := by
  have h := spKo_get s ns 0
  exact h
theorem spK_snoc (ns : List Str) (s : Str) : spK (ns ++ [s]) = spK ns ++ [(.inr s, .int (ns.length : Nat))] := by
  unfold spK
  rw [List.zipIdx_append, List.map_append]
  simp
theorem spK_len (ns : List Str) : (spK ns).length = ns.length := by unfold spK; rw [List.length_map, List.length_zipIdx]
theorem posN_none {s : Str} : ∀ {ns : List Str}, posN s ns = none ↔ s ∉ ns
  | [] => by simp [posN]
  | x :: ns => by
    unfold posN
    by_cases z : x = s
    · subst z; simp
    · rw [if_neg z, Option.map_eq_none_iff, posN_none (ns := ns)]
      simp [Ne.symm z]
theorem posN_at {s : Str} : ∀ {ns : List Str} {i : Nat}, posN s ns = some i → ns[i]? = some s
  | [], i, h => by cases h
  | x :: ns, i, h => by
    unfold posN at h
    by_cases z : x = s
    · rw [if_pos z] at h; cases h; rw [z]; rfl
    · rw [if_neg z] at h
      cases q : posN s ns with
      | none => rw [q] at h; cases h
      | some j =>
        rw [q] at h
        cases h
        exact posN_at (ns := ns) q
theorem posN_of {s : Str} : ∀ {ns : List Str} {i : Nat}, ns.Nodup → ns[i]? = some s → posN s ns = some i
  | [], i, _, h => by simp at h
  | x :: ns, 0, _, h => by
    have e : x = s := by simpa using h
    unfold posN
    rw [if_pos e]
  | x :: ns, i + 1, n, h => by
    have h2 : ns[i]? = some s := by simpa using h
    have n' := List.nodup_cons.mp n
    unfold posN
    rw [if_neg (fun e => n'.1 (by rw [e]; exact List.mem_of_getElem? h2)), posN_of n'.2 h2]
    rfl
theorem posN_lt {s : Str} {ns : List Str} {i : Nat} (h : posN s ns = some i) : i < ns.length := (List.getElem?_eq_some_iff.mp (posN_at h)).1
theorem putD_spK {ns : List Str} {s : Str} (h : s ∉ ns) : putD (spK ns) (.inr s) (.int (ns.length : Nat)) = spK (ns ++ [s]) := by
  rw [spK_snoc, putD_new]
  intro q hq e
  unfold spK at hq
  obtain ⟨p, hp, e2⟩ := List.mem_map.mp hq
  subst e2
  have e3 : p.1 = s := Sum.inr.inj e
  have := List.mem_zipIdx' hp
  exact h (by rw [← e3, this.2]; exact List.getElem_mem _)
theorem kN_inj {p q : Nat × Nat} (h : kN p = kN q) : p = q := by
  unfold kN at h
  have h1 := (List.cons.inj h).1
  have h2 := (List.cons.inj (List.cons.inj h).2).1
  have e1 : (p.1 : Int) = q.1 := Sum.inl.inj h1
  have e2 : (p.2 : Int) = q.2 := Sum.inl.inj h2
  exact Prod.ext (by omega) (by omega)
theorem lnK_get (p : Nat × Nat) : ∀ L : List Tie, getT (lnK L) (kN p) = (L.lookup p).map fun (l : Nat) => D.int l
  | [] => rfl
  | (q, l) :: L => by
    have ih := lnK_get p L
    unfold getT lnK at ih ⊢
    rw [List.map_cons, List.find?_cons, List.lookup_cons]
    by_cases z : p = q
    · subst z; simp
    · have z2 : ¬ kN q = kN p := fun e => z (kN_inj e).symm
      have z3 : (p == q) = false := by simpa using z
      rw [show decide (kN q = kN p) = false from decide_eq_false z2, z3]
      exact ih
theorem lnK_put {L : List Tie} {p : Nat × Nat} {l : Nat} (h : p ∉ L.map Prod.fst) : putT (lnK L) (kN p) (.int (l : Nat)) = lnK (L ++ [(p, l)]) := by
  unfold putT
  rw [if_neg]
  · unfold lnK
    rw [List.map_append]
    rfl
  · intro z
    obtain ⟨q, hq, e⟩ := List.any_eq_true.mp z
    unfold lnK at hq
    obtain ⟨t, ht, e2⟩ := List.mem_map.mp hq
    subst e2
    have e3 := kN_inj (of_decide_eq_true e)
    exact h (by rw [← e3]; exact List.mem_map_of_mem ht)
theorem lnK_len (L : List Tie) : (lnK L).length = L.length := by unfold lnK; rw [List.length_map]
theorem lookN {L : List Tie} {p : Nat × Nat} : (L.lookup p).isSome = decide (p ∈ L.map Prod.fst) := by
  induction L with
  | nil => simp
  | cons t L ih =>
    obtain ⟨q, l⟩ := t
    rw [List.lookup_cons]
    by_cases z : p = q
    · subst z; simp
    · have z3 : (p == q) = false := by simpa using z
      rw [z3, ih]
      simp [z]
theorem dKeyT_pN (p : Nat × Nat) : dKeyT (pN p) = some (kN p) := rfl
theorem name_spot {ns : List Str} (hn : NmOk ns) {x : D} (h : nameB x = false) : spotN ns x = none := by
  cases x with
  | str s =>
    show posN s ns = none
    rw [posN_none]
    intro m
    have := hn.ok s m
    rw [show nameB (.str s) = nmOk s from rfl] at h
    rw [this] at h
    cases h
  | _ => rfl
theorem scan_len : ∀ {ds : List D} {acc ns : List Str}, scanN acc ds = .inr ns → ns.length = acc.length + ds.length
  | [], acc, ns, h => by cases h; simp
  | d :: ds, acc, ns, h => by
    cases d with
    | str s =>
      unfold scanN at h
      split at h
      · split at h
        · cases h
        · have := scan_len h
          rw [List.length_append] at this
          simp at this ⊢
          omega
      · cases h
    | _ => unfold scanN at h; cases h
theorem scan_ok : ∀ {ds : List D} {acc ns : List Str}, scanN acc ds = .inr ns → acc.Nodup → (∀ x ∈ acc, nmOk x = true) → ns.Nodup ∧ ∀ x ∈ ns, nmOk x = true
  | [], acc, ns, h, n, o => by cases h; exact ⟨n, o⟩
  | d :: ds, acc, ns, h, n, o => by
    cases d with
    | str s =>
      unfold scanN at h
      split at h
      · rename_i hs
        split at h
        · cases h
        · rename_i hm
          refine scan_ok h (List.nodup_append.mpr ⟨n, by simp, fun a ha b hb e => hm (by rw [← List.mem_singleton.mp hb, ← e]; exact ha)⟩) fun x hx => ?_
          rcases List.mem_append.mp hx with q | q
          · exact o x q
          · rw [List.mem_singleton.mp q]; exact hs
      · cases h
    | _ => unfold scanN at h; cases h
theorem places_ok {x : D} {ns : List Str} (h : placesR x = .inr ns) : NmOk ns := by
  unfold placesR at h
  split at h
  · split at h
    · rename_i ds _ hl
      have h1 := scan_len h
      obtain ⟨h2, h3⟩ := scan_ok h List.nodup_nil (fun x hx => by cases hx)
      simp at h1
      exact ⟨by omega, by omega, h2, h3⟩
    · cases h
  · cases h
/-! the words -/
theorem seq_cases {x : D} (hx : anyD x) : (∃ ds, seqD x = some ds ∧ isiB x (.tup [.ty "list", .ty "tuple"]) = some true ∧ lenB x = some ds.length ∧ itemsD x = some ds) ∨ (seqD x = none ∧ isiB x (.tup [.ty "list", .ty "tuple"]) = some false) := by
  cases x with
  | lst ds => exact .inl ⟨ds, rfl, isi2_lst, rfl, rfl⟩
  | tup ds => exact .inl ⟨ds, rfl, isi2_tup, rfl, rfl⟩
  | non => exact .inr ⟨rfl, by decide +kernel⟩
  | bl b => exact .inr ⟨rfl, by show ((some "bool").bind fun a => kitAnyB a ["list", "tuple"]) = some false; decide +kernel⟩
  | int i => exact .inr ⟨rfl, by show ((some "int").bind fun a => kitAnyB a ["list", "tuple"]) = some false; decide +kernel⟩
  | str s => exact .inr ⟨rfl, by show ((some "str").bind fun a => kitAnyB a ["list", "tuple"]) = some false; decide +kernel⟩
  | dct d => exact .inr ⟨rfl, by show ((some "dict").bind fun a => kitAnyB a ["list", "tuple"]) = some false; decide +kernel⟩
  | _ => cases hx.1
theorem ws_spots_of : WsXC (Fx := XF) S_spots_of t_spots_of [.no, .no] := by
  rintro K cn Wx as Φ Y fx ⟨s, x, rfl, ha, ⟨hx, hi⟩, h⟩
  have hr : ∀ n y, placesR x = .inl (n, y) → s = .d x ∧ Y n y := fun n y e => by rw [e] at h; exact h
  have hk : ∀ ns, placesR x = .inr ns → ∀ a, Φ (.own a (.dct (spK ns))) [s] := fun n e => by rw [e] at h; exact h
  clear h
  unfold t_spots_of
  walk_at "d0"
  unfold placesR at hr hk
  rcases ha with _ | b
  all_goals
    walk_at "d"
    rcases seq_cases hx with ⟨ds, e1, e2, e3, e4⟩ | ⟨e1, e2⟩
    · refine ex_isiB e2 ?_
      rw [e1] at hr hk
      dsimp only at hr hk
      walk_at "d"
      refine ex_lenB hx.2 e3 ?_
      walk_at "d"
      refine br_d (fun h1 => ?_) (fun h1 => ?_)
      · walk_at "d"
        refine br_n (fun h2 => ?_) (fun h2 => ?_)
        · obtain ⟨e, hY⟩ := hr XNoPlaces x (if_neg (by omega))
          cases e <;> (refine w_raiseN fx.all_NoPlaces fx.fl_NoPlaces ?_; walk_at "d"; exact ⟨_, rfl, hY, trivial, rfl⟩)
        · rw [if_pos (by omega)] at hr hk
          have hl : ds.length ≤ 12 := by omega
          walk_at "x"
          walk_at "d"
          refine w_forA ?_
          walk_at "d"
          refine ⟨x, ds, (by first | rfl | exact view_bor rfl), e4, ?_⟩
          first
          | refine ⟨fun i δ' => ∃ a acc s2, δ' = [.d x, .own a (.dct (spK acc)), s2] ∧ acc.length = i ∧ scanN [] ds = scanN acc (ds.drop i) ∧ acc.Nodup ∧ ∀ z ∈ acc, nmOk z = true,
              ⟨_, [], _, rfl, rfl, rfl, List.nodup_nil, fun z hz => by cases hz⟩, fun _ _ _ _ => rfl, fun i d δ' hd ⟨a, acc, s2, e, q1, q2, q3, q4⟩ => ?_, fun δ' ⟨a, acc, s2, e, q1, q2, q3, q4⟩ => ?_⟩
          | refine ⟨fun i δ' => ∃ a acc s2, δ' = [.own b x, .own a (.dct (spK acc)), s2] ∧ acc.length = i ∧ scanN [] ds = scanN acc (ds.drop i) ∧ acc.Nodup ∧ ∀ z ∈ acc, nmOk z = true,
              ⟨_, [], _, rfl, rfl, rfl, List.nodup_nil, fun z hz => by cases hz⟩, fun _ _ _ ⟨_, _, _, e, _⟩ => (by subst e; exact view_bor rfl), fun i d δ' hd ⟨a, acc, s2, e, q1, q2, q3, q4⟩ => ?_, fun δ' ⟨a, acc, s2, e, q1, q2, q3, q4⟩ => ?_⟩
          · subst e
            have hlt := (List.getElem?_eq_some_iff.mp hd).1
            rw [List.drop_eq_getElem_cons hlt, (List.getElem?_eq_some_iff.mp hd).2] at q2
            have ha := hi ds e1 d (List.mem_of_getElem? hd)
            walk_at "d"
            refine use_is_name ha ?_
            walk_at "d"
            cases hb : nameB d with
            | false =>
              have e : scanN acc (d :: ds.drop (i + 1)) = .inl (XNoName, d) := by
                cases d with
                | str s => unfold scanN; rw [if_neg (by rw [show nmOk s = false from hb]; exact Bool.false_ne_true)]
                | _ => rfl
              obtain ⟨e', hY⟩ := hr _ _ (q2.trans e)
              cases e' <;> (
                walk_at "d"
                refine w_raiseN fx.all_NoName fx.fl_NoName ?_
                walk_at "d"
                exact ⟨_, rfl, hY, trivial, rfl⟩)
            | true =>
              cases d <;> first | (cases hb; done) | skip
              rename_i z
              have hb' : nmOk z = true := hb
              walk_at "d"
              refine dInC_kI rfl ?_
              rw [spK_get]
              walk_at "d"
              by_cases hm : z ∈ acc
              · have e : scanN acc (.str z :: ds.drop (i + 1)) = .inl (XTwice, .str z) := by unfold scanN; rw [if_pos hb', if_pos hm]
                have ep : ((posN z acc).map fun (i : Nat) => D.int (i : Nat)).isSome = true := by
                  cases q : posN z acc with
                  | none => exact absurd hm (posN_none.mp q)
                  | some j => rfl
                rw [ep]
                obtain ⟨e', hY⟩ := hr _ _ (q2.trans e)
                cases e' <;> (
                  walk_at "d"
                  refine w_raiseN fx.all_Twice fx.fl_Twice ?_
                  walk_at "d"
                  exact ⟨_, rfl, hY, trivial, rfl⟩)
              · have e : scanN acc (.str z :: ds.drop (i + 1)) = scanN (acc ++ [z]) (ds.drop (i + 1)) := by rw [scanN, if_pos hb', if_neg hm]
                have ep : ((posN z acc).map fun (i : Nat) => D.int (i : Nat)).isSome = false := by rw [posN_none.mpr hm]; rfl
                rw [ep]
                walk_at "x"
                walk_at "d"
                refine ex_setBD rfl rfl (by rw [spK_len]; omega) ?_
                walk_at "d"
                rw [spK_len, putD_spK hm]
                refine ⟨_, _, _, rfl, by rw [List.length_append, q1]; rfl, by rw [q2, e], List.nodup_append.mpr ⟨q3, by simp, fun a ha b hb e => hm (by rw [← List.mem_singleton.mp hb, ← e]; exact ha)⟩, fun z hz => ?_⟩
                rcases List.mem_append.mp hz with q | q
                · exact q4 z q
                · rw [List.mem_singleton.mp q]; exact hb'
          · subst e
            rw [q2, List.drop_length] at hk
            walk_at "d"
            exact ⟨by first | trivial | exact ⟨rfl, trivial⟩, Nat.le_of_ble_eq_true rfl, _, rfl, hk acc rfl a⟩
      · obtain ⟨e, hY⟩ := hr XNoPlaces x (if_neg (by omega))
        cases e <;> (
          walk_at "d"
          refine w_raiseN fx.all_NoPlaces fx.fl_NoPlaces ?_
          walk_at "d"
          exact ⟨_, rfl, hY, trivial, rfl⟩)
    · refine ex_isiB e2 ?_
      rw [e1] at hr
      obtain ⟨e, hY⟩ := hr XNoPlaces x rfl
      cases e <;> (
        walk_at "d"
        refine w_raiseN fx.all_NoPlaces fx.fl_NoPlaces ?_
        walk_at "d"
        exact ⟨_, rfl, hY, trivial, rfl⟩)

section
variable {P : R → List Sl → Prop}
theorem use_pair_of {i j : Nat} (q : P (.d (pN (mm i j))) [.d (.int i), .d (.int j)]) :
    ∀ Ψ : R → List Sl → Prop, (∀ r as', ownOut r → P r as' → Ψ r as') → S_pair_of [.d (.int i), .d (.int j)] Ψ := fun Ψ k => ⟨i, j, rfl, k _ _ trivial q⟩
end
theorem ws_spot_of : WsXC (Fx := XF) S_spot_of t_spot_of [] := by
  rintro K cn Wx as Φ Y fx ⟨ns, x, rfl, hn, hx, h⟩
  unfold t_spot_of
  walk_at "d0"
  walk_at "d"
  refine use_is_name hx ?_
  walk_at "d"
  cases hb : nameB x with
  | false =>
    rw [name_spot hn hb] at h
    walk_at "d"
    refine w_raiseN fx.all_NoPlace fx.fl_NoPlace ?_
    walk_at "d"
    exact ⟨_, rfl, h, trivial, rfl⟩
  | true =>
    cases x <;> first | (cases hb; done) | skip
    rename_i z
    walk_at "d"
    refine dInC_kN rfl ?_
    rw [spK_get]
    walk_at "d"
    rw [show spotN ns (.str z) = posN z ns from rfl] at h
    cases e : posN z ns with
    | none =>
      rw [e] at h
      refine br_t ?_
      walk_at "d"
      refine w_raiseN fx.all_NoPlace fx.fl_NoPlace ?_
      walk_at "d"
      exact ⟨_, rfl, h, trivial, rfl⟩
    | some i =>
      rw [e] at h
      refine br_f ?_
      walk_at "x"
      walk_at "d"
      refine dIxC_k rfl (by rw [spK_get, e]; rfl) ?_
      exact ⟨trivial, h⟩
theorem ws_pair_of : WsC (Fx := XF) S_pair_of t_pair_of [] := by
  rintro K cn as Φ fx ⟨i, j, rfl, h⟩
  have e1 : (if (j : Int) < (i : Int) then (j : Int) else i) = ((min i j : Nat) : Int) := by split <;> omega
  have e2 : (if (j : Int) > (i : Int) then (j : Int) else i) = ((max i j : Nat) : Int) := by split <;> omega
  unfold t_pair_of
  walk_at "d0"
  walk_at "d"
  rw [e1, e2]
  exact ⟨trivial, h⟩

theorem tup_cases {x : D} (hx : anyD x) : (∃ es, x = .tup es ∧ isiB x (.ty "tuple") = some true) ∨ ((∀ es, x ≠ .tup es) ∧ isiB x (.ty "tuple") = some false) := by
  cases x with
  | tup es => exact .inl ⟨es, rfl, isi_tup⟩
  | lst ds => exact .inr ⟨(fun _ z => nomatch z), by show ((some "list").bind fun a => kitB "tuple" a) = some false; decide +kernel⟩
  | non => exact .inr ⟨(fun _ z => nomatch z), by decide +kernel⟩
  | bl b => exact .inr ⟨(fun _ z => nomatch z), by show ((some "bool").bind fun a => kitB "tuple" a) = some false; decide +kernel⟩
  | int i => exact .inr ⟨(fun _ z => nomatch z), by show ((some "int").bind fun a => kitB "tuple" a) = some false; decide +kernel⟩
  | str s => exact .inr ⟨(fun _ z => nomatch z), by show ((some "str").bind fun a => kitB "tuple" a) = some false; decide +kernel⟩
  | dct d => exact .inr ⟨(fun _ z => nomatch z), by show ((some "dict").bind fun a => kitB "tuple" a) = some false; decide +kernel⟩
  | _ => cases hx.1
theorem tieR_bad {ns : List Str} {L : List Tie} {d : D} (h : ∀ a b l, d ≠ .tup [a, b, l]) : tieR ns L d = .inl (XNoTie, d) := by
  unfold tieR
  split
  · rename_i a b l
    exact absurd rfl (h a b l)
  · rfl
theorem three {es : List D} (h : es.length = 3) : ∃ a b l, es = [a, b, l] := by
  match es, h with
  | [a, b, l], _ => exact ⟨a, b, l, rfl⟩
theorem spot_lt {ns : List Str} {x : D} {i : Nat} (h : spotN ns x = some i) : i < ns.length := by
  cases x with
  | str s => exact posN_lt h
  | _ => cases h
theorem tieR_go {ns : List Str} {L : List Tie} {a b l : D} {i j : Nat} (h1 : spotN ns a = some i) (h2 : spotN ns b = some j) : tieR ns L (.tup [a, b, l]) = if i = j then .inl (XLoop, .tup [a, b, l]) else match l with
        | .int n => if 1 ≤ n ∧ n ≤ 1000000 then (if mm i j ∈ L.map Prod.fst then .inl (XTied, .tup [a, b]) else .inr (L ++ [(mm i j, n.toNat)])) else .inl (XNoLength, l)
        | _ => .inl (XNoLength, l) := by
  unfold tieR
  dsimp only
  rw [h1]
  dsimp only
  rw [h2]
  try rfl
theorem in_lnK {L : List Tie} {p : Nat × Nat} : (getT (lnK L) (kN p)).isSome = decide (p ∈ L.map Prod.fst) := by
  rw [lnK_get, Option.isSome_map, lookN]
theorem ix_pN0 {p : Nat × Nat} {k : R → Prop} (h : k (.d (.int p.1))) : dIxC (pN p) (.int 0) k := dIxC_u (xs := [.int p.1, .int p.2]) rfl h
theorem ix_pN1 {p : Nat × Nat} {k : R → Prop} (h : k (.d (.int p.2))) : dIxC (pN p) (.int 1) k := dIxC_u (xs := [.int p.1, .int p.2]) rfl h
theorem whole_is {x : D} {lo hi : Int} (h : wholeB x lo hi = true) : ∃ n, x = .int n ∧ lo ≤ n ∧ n ≤ hi := by
  cases x with
  | int n =>
    have h' : (decide (lo ≤ n) && decide (n ≤ hi)) = true := h
    rw [Bool.and_eq_true, decide_eq_true_eq, decide_eq_true_eq] at h'
    exact ⟨n, rfl, h'.1, h'.2⟩
  | _ => cases h
theorem tieR_len {ns : List Str} {L : List Tie} {a b l : D} {i j : Nat} (h1 : spotN ns a = some i) (h2 : spotN ns b = some j) (h3 : i ≠ j) (h : wholeB l 1 1000000 = false) : tieR ns L (.tup [a, b, l]) = .inl (XNoLength, l) := by
  rw [tieR_go h1 h2, if_neg h3]
  cases l with
  | int n =>
    have h' : (decide (1 ≤ n) && decide (n ≤ 1000000)) = false := h
    dsimp only
    rw [if_neg]
    rintro ⟨q1, q2⟩
    rw [decide_eq_true q1, decide_eq_true q2] at h'
    cases h'
  | _ => rfl
structure TieOk (n : Nat) (L : List Tie) : Prop where
  ok : ∀ t ∈ L, t.1.1 < t.1.2 ∧ t.1.2 < n ∧ 1 ≤ t.2 ∧ t.2 ≤ 1000000
  nd : (L.map Prod.fst).Nodup
theorem TieOk.snoc {n : Nat} {L : List Tie} {i j l : Nat} (h : TieOk n L) (h1 : i < n) (h2 : j < n) (h3 : i ≠ j) (h4 : 1 ≤ l) (h5 : l ≤ 1000000) (h6 : mm i j ∉ L.map Prod.fst) : TieOk n (L ++ [(mm i j, l)]) := by
  refine ⟨fun t ht => ?_, ?_⟩
  · rcases List.mem_append.mp ht with q | q
    · exact h.ok t q
    · rw [List.mem_singleton.mp q]
      refine ⟨?_, ?_, h4, h5⟩
      · show min i j < max i j
        omega
      · show max i j < n
        omega
  · rw [List.map_append]
    exact List.nodup_append.mpr ⟨h.nd, by simp, fun a ha b hb e => h6 (by rw [← List.mem_singleton.mp (show b ∈ [mm i j] from hb), ← e]; exact ha)⟩
theorem ws_lengths_of : WsXC (Fx := XF) S_lengths_of t_lengths_of [.no, .no, .no] := by
  rintro K cn Wx as Φ Y fx ⟨ns, s, x, rfl, ha, hn, ⟨⟨hx, hi⟩, hii⟩, h⟩
  have hr : ∀ n y, tiesR ns x = .inl (n, y) → s = .d x ∧ Y n y := fun n y e => by rw [e] at h; exact h
  have hk : ∀ L, tiesR ns x = .inr L → ∀ a, Φ (.own a (.dcT (lnK L))) [.d (.dct (spK ns)), s] := fun n e => by rw [e] at h; exact h
  clear h
  unfold t_lengths_of
  walk_at "d0"
  unfold tiesR at hr hk
  rcases ha with _ | b
  all_goals
    walk_at "d"
    rcases seq_cases hx with ⟨ds, e1, e2, e3, e4⟩ | ⟨e1, e2⟩
    · refine ex_isiB e2 ?_
      rw [e1] at hr hk
      dsimp only at hr hk
      walk_at "d"
      refine ex_lenB hx.2 e3 ?_
      walk_at "d"
      refine br_d (fun h1 => ?_) (fun h1 => ?_)
      · obtain ⟨e, hY⟩ := hr XNoTies x (if_neg (by omega))
        cases e <;> (
          walk_at "d"
          refine w_raiseN fx.all_NoTies fx.fl_NoTies ?_
          walk_at "d"
          exact ⟨_, rfl, hY, trivial, rfl⟩)
      · rw [if_pos (by omega)] at hr hk
        have hl : ds.length ≤ 40 := by omega
        walk_at "x"
        walk_at "d"
        refine w_forA ?_
        walk_at "d"
        refine ⟨x, ds, (by first | rfl | exact view_bor rfl), e4, ?_⟩
        first
        | refine ⟨fun i δ' => ∃ a L s3 s4, δ' = [.d (.dct (spK ns)), .d x, .own a (.dcT (lnK L)), s3, s4] ∧ L.length = i ∧ scanT ns [] ds = scanT ns L (ds.drop i) ∧ TieOk ns.length L,
            ⟨_, [], _, _, rfl, rfl, rfl, ⟨(fun t ht => by cases ht), List.nodup_nil⟩⟩, fun _ _ _ _ => rfl, fun i d δ' hd ⟨a, L, s3, s4, e, q1, q2, q3⟩ => ?_, fun δ' ⟨a, L, s3, s4, e, q1, q2, q3⟩ => ?_⟩
        | refine ⟨fun i δ' => ∃ a L s3 s4, δ' = [.d (.dct (spK ns)), .own b x, .own a (.dcT (lnK L)), s3, s4] ∧ L.length = i ∧ scanT ns [] ds = scanT ns L (ds.drop i) ∧ TieOk ns.length L,
            ⟨_, [], _, _, rfl, rfl, rfl, ⟨(fun t ht => by cases ht), List.nodup_nil⟩⟩, fun _ _ _ ⟨_, _, _, _, e, _⟩ => (by subst e; exact view_bor rfl), fun i d δ' hd ⟨a, L, s3, s4, e, q1, q2, q3⟩ => ?_, fun δ' ⟨a, L, s3, s4, e, q1, q2, q3⟩ => ?_⟩
        · subst e
          have hlt := (List.getElem?_eq_some_iff.mp hd).1
          rw [List.drop_eq_getElem_cons hlt, (List.getElem?_eq_some_iff.mp hd).2] at q2
          have hm := List.mem_of_getElem? hd
          have ha := hi ds e1 d hm
          have bad : ∀ n y, tieR ns L d = .inl (n, y) → scanT ns L (d :: ds.drop (i + 1)) = .inl (n, y) := fun n y e => by rw [scanT, e]
          walk_at "d"
          rcases tup_cases ha with ⟨es, rfl, e5⟩ | ⟨e5, e6⟩
          · have hes := hii ds e1 es hm
            walk_at "d"
            refine br_not (br_d (fun h3 => ?_) (fun h3 => ?_))
            · obtain ⟨y1, y2, y3, rfl⟩ := three (es := es) (by omega)
              walk_at "d"
              refine we_callX ?_
              walk_at "d"
              refine ⟨[.dct (spK ns), y1], rfl, fun P Y' k1 k2 => ⟨ns, y1, rfl, hn, hes _ (by simp), ?_⟩⟩
              cases c1 : spotN ns y1 with
              | none =>
                obtain ⟨e, hY⟩ := hr _ _ (q2.trans (bad XNoPlace y1 (by unfold tieR; dsimp only; rw [c1])))
                cases e <;> exact k2 _ _ ⟨hY, trivial, rfl⟩
              | some i1 =>
                refine k1 _ _ trivial ?_
                walk_at "d"
                refine we_callX ?_
                walk_at "d"
                refine ⟨[.dct (spK ns), y2], rfl, fun P Y' k1 k2 => ⟨ns, y2, rfl, hn, hes _ (by simp), ?_⟩⟩
                cases c2 : spotN ns y2 with
                | none =>
                  obtain ⟨e, hY⟩ := hr _ _ (q2.trans (bad XNoPlace y2 (by unfold tieR; dsimp only; rw [c1]; dsimp only; rw [c2])))
                  cases e <;> exact k2 _ _ ⟨hY, trivial, rfl⟩
                | some i2 =>
                  refine k1 _ _ trivial ?_
                  have hg := tieR_go (L := L) (l := y3) c1 c2
                  walk_at "d"
                  refine use_pair_of ?_
                  walk_at "d"
                  refine ix_pN0 ?_
                  walk_at "d"
                  refine ix_pN1 ?_
                  walk_at "d"
                  refine br_d (fun h4 => ?_) (fun h4 => ?_)
                  · have h5 : i1 = i2 := by
                      have h6 : ((min i1 i2 : Nat) : Int) = ((max i1 i2 : Nat) : Int) := h4
                      omega
                    obtain ⟨e, hY⟩ := hr _ _ (q2.trans (bad XLoop (.tup [y1, y2, y3]) (by rw [hg, if_pos h5])))
                    cases e <;> (
                      walk_at "d"
                      refine w_raiseN fx.all_Loop fx.fl_Loop ?_
                      walk_at "d"
                      exact ⟨_, rfl, hY, trivial, rfl⟩)
                  have h5 : i1 ≠ i2 := fun z => h4 (by
                    subst z
                    show ((min i1 i1 : Nat) : Int) = ((max i1 i1 : Nat) : Int)
                    omega)
                  walk_at "x"
                  walk_at "d"
                  refine use_is_whole (hes y3 (by simp)).1 ?_
                  walk_at "d"
                  cases hw : wholeB y3 1 1000000 with
                  | false =>
                    obtain ⟨e, hY⟩ := hr _ _ (q2.trans (bad XNoLength y3 (tieR_len c1 c2 h5 hw)))
                    cases e <;> (
                      walk_at "d"
                      refine w_raiseN fx.all_NoLength fx.fl_NoLength ?_
                      walk_at "d"
                      exact ⟨_, rfl, hY, trivial, rfl⟩)
                  | true =>
                    obtain ⟨n, rfl, b1, b2⟩ := whole_is hw
                    rw [if_neg h5] at hg
                    dsimp only at hg
                    rw [if_pos ⟨b1, b2⟩] at hg
                    walk_at "x"
                    walk_at "d"
                    refine dInC_tI (dKeyT_pN _) ?_
                    rw [in_lnK]
                    walk_at "d"
                    refine br_d (fun h6 => ?_) (fun h6 => ?_)
                    · obtain ⟨e, hY⟩ := hr _ _ (q2.trans (bad XTied (.tup [y1, y2]) (by rw [hg, if_pos h6])))
                      cases e <;> (
                        walk_at "d"
                        refine w_raise2 fx.all_Tied fx.fl_Tied ?_
                        walk_at "d"
                        exact ⟨_, _, rfl, hY, trivial, rfl⟩)
                    · rw [if_neg h6] at hg
                      walk_at "x"
                      walk_at "t"
                      refine wg_setT ?_
                      walk_at "d"
                      refine ⟨_, _, _, rfl, dKeyT_pN _, rfl, by rw [lnK_len]; omega, fun δ3 e => ?_⟩
                      subst e
                      walk_at "k"
                      have en : (n : Int) = ((n.toNat : Nat) : Int) := by omega
                      rw [en, lnK_put h6]
                      refine ⟨_, _, _, _, rfl, by rw [List.length_append, q1]; rfl, ?_, q3.snoc (spot_lt c1) (spot_lt c2) h5 (by omega) (by omega) h6⟩
                      rw [q2, scanT, hg]
            · obtain ⟨e, hY⟩ := hr _ _ (q2.trans (bad XNoTie (.tup es) (tieR_bad fun a b l z => h3 (by cases z; rfl))))
              cases e <;> (
                walk_at "d"
                refine w_raiseN fx.all_NoTie fx.fl_NoTie ?_
                walk_at "d"
                exact ⟨_, rfl, hY, trivial, rfl⟩)
          · obtain ⟨e, hY⟩ := hr _ _ (q2.trans (bad _ _ (tieR_bad fun a b l => e5 _)))
            cases e <;> (
              refine ex_isiB e6 ?_
              walk_at "d"
              refine w_raiseN fx.all_NoTie fx.fl_NoTie ?_
              walk_at "d"
              exact ⟨_, rfl, hY, trivial, rfl⟩)
        · subst e
          rw [q2, List.drop_length] at hk
          walk_at "d"
          exact ⟨by first | trivial | exact ⟨rfl, trivial⟩, Nat.le_of_ble_eq_true rfl, _, rfl, hk L rfl a⟩
    · refine ex_isiB e2 ?_
      rw [e1] at hr
      obtain ⟨e, hY⟩ := hr XNoTies x rfl
      cases e <;> (
        walk_at "d"
        refine w_raiseN fx.all_NoTies fx.fl_NoTies ?_
        walk_at "d"
        exact ⟨_, rfl, hY, trivial, rfl⟩)

theorem ne_ns : (("names" : Str) == ("spots" : Str)) = false := by decide +kernel
theorem ne_ls : (("lengths" : Str) == ("spots" : Str)) = false := by decide +kernel
theorem ne_ln : (("lengths" : Str) == ("names" : Str)) = false := by decide +kernel
theorem ne_sn : ¬ ("spots" : Str) = ("names" : Str) := by decide +kernel
theorem ne_sl : ¬ ("spots" : Str) = ("lengths" : Str) := by decide +kernel
theorem ne_nl : ¬ ("names" : Str) = ("lengths" : Str) := by decide +kernel
theorem put_sp {x : D} : putFD ("spots" : Str) x [] = [(("spots" : Str), x)] := rfl
theorem put_nm {x y : D} : putFD ("names" : Str) y [(("spots" : Str), x)] = [(("spots" : Str), x), (("names" : Str), y)] := by
  unfold putFD
  rw [if_neg ne_sn]
  rfl
theorem put_ln {x y z : D} : putFD ("lengths" : Str) z [(("spots" : Str), x), (("names" : Str), y)] = [(("spots" : Str), x), (("names" : Str), y), (("lengths" : Str), z)] := by
  unfold putFD
  rw [if_neg ne_sl]
  unfold putFD
  rw [if_neg ne_nl]
  rfl
theorem look_sp2 {x y : D} : ([(("spots" : Str), x), (("names" : Str), y)] : List (Str × D)).lookup ("spots" : Str) = some x := by simp [List.lookup]
theorem look_nm {x y z : D} : ([(("spots" : Str), x), (("names" : Str), y), (("lengths" : Str), z)] : List (Str × D)).lookup ("names" : Str) = some y := by
  unfold List.lookup
  rw [ne_ns]
  simp [List.lookup]
theorem look_ln {x y z : D} : ([(("spots" : Str), x), (("names" : Str), y), (("lengths" : Str), z)] : List (Str × D)).lookup ("lengths" : Str) = some z := by
  unfold List.lookup
  rw [ne_ls]
  unfold List.lookup
  dsimp only
  rw [ne_ln]
  simp [List.lookup]
theorem scan_items : ∀ {ds : List D} {acc ns : List Str}, scanN acc ds = .inr ns → acc.map .str ++ ds = ns.map D.str
  | [], acc, ns, h => by cases h; simp
  | d :: ds, acc, ns, h => by
    cases d with
    | str s =>
      unfold scanN at h
      split at h
      · split at h
        · cases h
        · have := scan_items h
          rw [← this]
          simp
      · cases h
    | _ => unfold scanN at h; cases h
theorem places_seq {x : D} {ns : List Str} (h : placesR x = .inr ns) : seqD x = some (ns.map .str) := by
  unfold placesR at h
  split at h
  · rename_i ds e
    split at h
    · have := scan_items h
      rw [List.map_nil, List.nil_append] at this
      rw [e, this]
    · cases h
  · cases h
theorem ws_Web___init__ (cn0 : Cn) : WsXC (Fx := fun K cn => XF K cn ∧ cn = cn0) (S_Web___init__ cn0) t_Web___init__ [] := by
  rintro K cn Wx as Φ Y ⟨fx, rfl⟩ ⟨a, s, t, x, y, rfl, hs, ht, hx, hy, h⟩
  unfold t_Web___init__
  walk_at "d0"
  rcases hs with _ | b <;> rcases ht with _ | b'
  all_goals
    walk_at "d"
    refine w_setF ?_
    refine we_callXO ?_
    walk_at "d"
    refine ⟨_, (by first | exact toAs_d toAs_nil | exact toAs_b rfl toAs_nil), (by first | exact List.nodup_nil | (show [_].Nodup; simp)), fun P Y' k1 k2 => ⟨_, x, rfl, (by constructor), hx, ?_⟩⟩
    cases e1 : placesR x with
    | inl q =>
      obtain ⟨n, z⟩ := q
      rw [e1] at h
      obtain ⟨q1, q2, hY⟩ := h
      cases q1 <;> cases q2 <;> exact ⟨rfl, k2 _ _ ⟨hY, trivial, rfl⟩⟩
    | inr ns =>
      rw [e1] at h
      dsimp only at h
      intro b1
      refine k1 _ _ trivial ?_
      have hns := places_ok e1
      have hsq := places_seq e1
      walk_at "d"
      try walk_at "k"
      walk_at "d"
      refine ⟨0, a, cn.ad CWeb, [], rfl, rfl, fx.cls_Web, fx.na_Web_spots, Nat.le_of_ble_eq_true rfl, fun δ3 e => ?_⟩
      rw [put_sp] at e
      subst e
      try walk_at "k"
      walk_at "d"
      refine w_setF ?_
      walk_at "d"
      refine ⟨_, rfl, .inl ⟨_, hsq, fun b2 => ?_⟩⟩
      walk_at "d"
      refine ⟨0, a, cn.ad CWeb, _, rfl, rfl, fx.cls_Web, fx.na_Web_names, Nat.le_of_ble_eq_true rfl, fun δ3 e => ?_⟩
      rw [put_nm] at e
      subst e
      try walk_at "k"
      walk_at "d"
      refine w_setF ?_
      refine we_callXO ?_
      walk_at "d"
      refine we_fld ?_
      walk_at "d"
      refine ex_fld (view_bor rfl) fx.cls_Web fx.na_Web_spots look_sp2 ?_
      walk_at "d"
      refine ⟨_, (by first | exact toAs_d (toAs_d toAs_nil) | exact toAs_d (toAs_b rfl toAs_nil)), (by first | exact List.nodup_nil | (show [_].Nodup; simp)), fun P Y' k1 k2 => ⟨ns, _, y, rfl, (by constructor), hns, hy, ?_⟩⟩
      cases e2 : tiesR ns y with
      | inl q =>
        obtain ⟨n, z⟩ := q
        rw [e2] at h
        obtain ⟨q1, q2, hY⟩ := h
        cases q1 <;> cases q2 <;> exact ⟨rfl, k2 _ _ ⟨hY, trivial, rfl⟩⟩
      | inr L =>
        rw [e2] at h
        dsimp only at h
        intro b3
        refine k1 _ _ trivial ?_
        walk_at "d"
        try walk_at "k"
        walk_at "d"
        refine ⟨0, a, cn.ad CWeb, _, rfl, rfl, fx.cls_Web, fx.na_Web_lengths, Nat.le_of_ble_eq_true rfl, fun δ3 e => ?_⟩
        rw [put_ln] at e
        subst e
        exact ⟨by first | exact ⟨rfl, trivial⟩ | exact ⟨rfl, rfl, trivial⟩ | exact ⟨rfl, rfl, rfl, trivial⟩, h⟩

/-! the order of the ties -/
def iP (t : Tie) : Int × Int := ((t.1.1 : Int), (t.1.2 : Int))
theorem iP_pd (t : Tie) : pd (iP t) = pN t.1 := rfl
theorem lnK_keys (L : List Tie) : (lnK L).map (·.1) = (L.map iP).map pk := by
  unfold lnK
  rw [List.map_map, List.map_map]
  rfl
theorem lex_anti (p q : Int × Int) (h1 : lexP p q) (h2 : lexP q p) : p = q := by
  unfold lexP at h1 h2
  exact Prod.ext (by omega) (by omega)
theorem sortT_perm (L : List Tie) : (sortT L).Perm L := List.mergeSort_perm _ _
theorem sortT_lex (L : List Tie) : ((sortT L).map iP).Pairwise lexP := by
  have h := List.pairwise_mergeSort (le := fun s t : Tie => lexN s.1 t.1) (fun a b c h1 h2 => by
    unfold lexN at *
    rw [decide_eq_true_eq] at *
    omega) (fun a b => by
    unfold lexN
    rw [Bool.or_eq_true, decide_eq_true_eq, decide_eq_true_eq]
    omega) L
  rw [List.pairwise_map]
  refine List.Pairwise.imp (fun {a b} q => ?_) h
  unfold lexN at q
  rw [decide_eq_true_eq] at q
  unfold lexP iP
  dsimp only
  omega
theorem sorted_is {L : List Tie} {qs : List (Int × Int)} (h1 : qs.Perm (L.map iP)) (h2 : qs.Pairwise lexP) : qs = (sortT L).map iP :=
  List.Perm.eq_of_pairwise (fun a b _ _ => lex_anti a b) h2 (sortT_lex L) (h1.trans ((sortT_perm L).map iP).symm)
theorem look_mem {L : List Tie} (hn : (L.map Prod.fst).Nodup) {t : Tie} (h : t ∈ L) : L.lookup t.1 = some t.2 := by
  induction L with
  | nil => cases h
  | cons u L ih =>
    obtain ⟨q, l⟩ := u
    have hn' := List.nodup_cons.mp hn
    rw [List.lookup_cons]
    rcases List.mem_cons.mp h with e | m
    · subst e; simp
    · have z : t.1 ≠ q := fun e => hn'.1 (by rw [show (q, l).1 = t.1 from e.symm]; exact List.mem_map_of_mem m)
      have z3 : (t.1 == q) = false := by simpa using z
      rw [z3]
      exact ih hn'.2 m
theorem nmAt_get {ns : List Str} {i : Nat} (h : i < ns.length) : ns[i]? = some (nmAt ns i) := by
  unfold nmAt
  rw [List.getD_eq_getElem?_getD, List.getElem?_eq_getElem h]
  rfl
def tieK (ns : List Str) (L : List Tie) : D → Option D
  | .tup [.int i, .int j] => some (.tup [.str (nmAt ns i.toNat), .str (nmAt ns j.toNat), .int (((L.lookup (i.toNat, j.toNat)).getD 0 : Nat) : Int)])
  | _ => none
theorem ties_all {ns : List Str} {L : List Tie} (hn : (L.map Prod.fst).Nodup) : (((sortT L).map iP).map pd).filterMap (tieK ns L) = tiesD ns L := by
  unfold tiesD
  rw [List.map_map, List.filterMap_map]
  have e : ∀ l : List Tie, (∀ t ∈ l, t ∈ L) → l.filterMap (tieK ns L ∘ (pd ∘ iP)) = l.map (tieD ns) := by
    intro l
    induction l with
    | nil => intro _; rfl
    | cons t l ih =>
      intro hl
      have h1 := look_mem hn (hl t List.mem_cons_self)
      have e2 : (tieK ns L ∘ (pd ∘ iP)) t = some (tieD ns t) := by
        show some (D.tup [.str (nmAt ns t.1.1), .str (nmAt ns t.1.2), .int (((L.lookup (t.1.1, t.1.2)).getD 0 : Nat) : Int)]) = _
        rw [show (t.1.1, t.1.2) = t.1 from rfl, h1]
        rfl
      rw [List.filterMap_cons, e2, ih fun t ht => hl t (List.mem_cons_of_mem _ ht)]
      rfl
  exact e _ fun t ht => (sortT_perm L).mem_iff.mp ht
theorem WbOk.tie {ns : List Str} {L : List Tie} (h : WbOk ns L) {t : Tie} (m : t ∈ L) : t.1.1 < ns.length ∧ t.1.2 < ns.length ∧ t.1.1 < t.1.2 ∧ 1 ≤ t.2 ∧ t.2 ≤ 1000000 := by
  obtain ⟨a, b, c, d⟩ := h.ok t m
  exact ⟨by omega, b, a, c, d⟩
theorem ix_nm {ns : List Str} {i : Nat} {k : R → Prop} (h1 : i < ns.length) (h : k (.d (.str (nmAt ns i)))) : dIxC (.lst (ns.map .str)) (.int (i : Nat)) k :=
  dIxC_l (atI_nat (by rw [List.getElem?_map, nmAt_get h1]; rfl)) h
theorem ws_Web_ties (cn0 : Cn) : WsC (Fx := fun K cn => XF K cn ∧ cn = cn0) (S_Web_ties cn0) t_Web_ties [.no, .no] := by
  rintro K cn as Φ ⟨fx, rfl⟩ ⟨ns, L, rfl, hw, h⟩
  unfold t_Web_ties
  walk_at "d0"
  walk_at "d"
  refine we_lcP (wi_any ?_)
  walk_at "d"
  refine we_fld ?_
  walk_at "d"
  refine ex_fld rfl fx.cls_Web fx.na_Web_lengths look_ln ?_
  walk_at "d"
  refine ⟨_, rfl, .inl ⟨_, _, rfl, lnK_keys L, fun b qs h1 h2 => ?_⟩⟩
  rw [sorted_is h1 h2]
  walk_at "d"
  refine ex_it rfl rfl ?_
  refine ⟨⟨trivial, trivial, trivial⟩, ?_, tieK ns L, fun i d hd => ?_, fun a => ?_⟩
  · rw [List.length_map, List.length_map, (sortT_perm L).length_eq]
    have := hw.le
    omega
  · rw [List.map_map, List.getElem?_map] at hd
    cases e : (sortT L)[i]? with
    | none => rw [e] at hd; cases hd
    | some t =>
      rw [e] at hd
      cases hd
      have m := (sortT_perm L).mem_iff.mp (List.mem_of_getElem? e)
      obtain ⟨a1, a2, a3, a4, a5⟩ := hw.tie m
      refine wgc_s2 (wgc_name (by simp) rfl (wgc_name (by simp) rfl ?_))
      walk_at "d"
      refine we_fld ?_
      walk_at "d"
      refine ex_fld rfl fx.cls_Web fx.na_Web_names look_nm ?_
      walk_at "d"
      refine ix_nm a1 ?_
      walk_at "d"
      refine we_fld ?_
      walk_at "d"
      refine ex_fld rfl fx.cls_Web fx.na_Web_names look_nm ?_
      walk_at "d"
      refine ix_nm a2 ?_
      walk_at "d"
      refine we_fld ?_
      walk_at "d"
      refine ex_fld rfl fx.cls_Web fx.na_Web_lengths look_ln ?_
      walk_at "d"
      refine dIxC_t (tk := kN t.1) rfl (by rw [lnK_get, look_mem hw.nd m]; rfl) ?_
      walk_at "d"
      show some (D.tup [.str (nmAt ns t.1.1), .str (nmAt ns t.1.2), .int (((L.lookup (t.1.1, t.1.2)).getD 0 : Nat) : Int)]) = _
      rw [show (t.1.1, t.1.2) = t.1 from rfl, look_mem hw.nd m]
      rfl
  · rw [ties_all hw.nd]
    exact ⟨trivial, h a⟩

theorem look_no {x y z : D} {m : Str} (h1 : (m == ("spots" : Str)) = false) (h2 : (m == ("names" : Str)) = false) (h3 : (m == ("lengths" : Str)) = false) : ([(("spots" : Str), x), (("names" : Str), y), (("lengths" : Str), z)] : List (Str × D)).lookup m = none := by
  unfold List.lookup
  rw [h1]
  unfold List.lookup
  dsimp only
  rw [h2]
  simp [List.lookup, h3]
theorem web_m {δ : List Sl} {C : Addr} {ns : List Str} {L : List Tie} {m : Str} {P : Prop} (h1 : (m == ("spots" : Str)) = false) (h2 : (m == ("names" : Str)) = false) (h3 : (m == ("lengths" : Str)) = false) (q : P) :
    (∃ fs, view δ (frz (.d (webD C ns L))) = some (.obj C fs) ∧ fs.lookup m = none) ∧ P := ⟨⟨_, rfl, look_no h1 h2 h3⟩, q⟩
def besK (L : List Tie) (i : Nat) (q : Str × Nat) : Option D := (L.lookup (mm i q.2)).map fun l => .tup [.str q.1, .int (l : Nat)]
theorem enum_len (ds : List D) : (enumD ds).length = ds.length := by unfold enumD; simp
section
variable {P : R → List Sl → Prop} {K : PySem.W.Frag} {cn : Cn} {ns : List Str} {L : List Tie}
theorem use_ties (hw : WbOk ns L) (q : ∀ b, P (.own b (.lst (tiesD ns L))) [.d (webD (cn.ad CWeb) ns L)]) :
    ∀ Ψ : R → List Sl → Prop, (∀ r as', ownOut r → P r as' → Ψ r as') → S_Web_ties cn [.d (webD (cn.ad CWeb) ns L)] Ψ := fun Ψ k => ⟨ns, L, rfl, hw, fun b => k _ _ trivial (q b)⟩
theorem use_told (hw : WbOk ns L) (q : P (.d (toldD ns L)) [.d (webD (cn.ad CWeb) ns L)]) :
    ∀ Ψ : R → List Sl → Prop, (∀ r as', ownOut r → P r as' → Ψ r as') → S_Web_told cn [.d (webD (cn.ad CWeb) ns L)] Ψ := fun Ψ k => ⟨ns, L, rfl, hw, k _ _ trivial q⟩
end
theorem nm_lay {x : Str} (h : nmOk x = true) : PyData.strOk x = true := by
  obtain ⟨_, _, h3⟩ := nm_is h
  unfold PyData.strOk
  rw [← Array.all_toList, List.all_eq_true]
  intro c hc
  have h4 := of_decide_eq_true (List.all_eq_true.mp h3 c hc)
  have h5 : ∀ c ∈ lettersL, c < 123 := by decide
  have := h5 c h4
  exact decide_eq_true (by omega)
theorem nm_at_ok {ns : List Str} (hn : NmOk ns) {i : Nat} (h : i < ns.length) : nmOk (nmAt ns i) = true := hn.ok _ (List.mem_of_getElem? (nmAt_get h))
theorem ws_Web_told (cn0 : Cn) : WsC (Fx := fun K cn => XF K cn ∧ cn = cn0) (S_Web_told cn0) t_Web_told [] := by
  rintro K cn as Φ ⟨fx, rfl⟩ ⟨ns, L, rfl, hw, h⟩
  unfold t_Web_told
  walk_at "d0"
  walk_at "d"
  refine we_fld ?_
  walk_at "d"
  refine ex_fld rfl fx.cls_Web fx.na_Web_names look_nm ?_
  walk_at "d"
  refine ⟨_, rfl, _, rfl, ?_⟩
  walk_at "d"
  refine we_meth ?_
  walk_at "d"
  refine web_m (by decide +kernel) (by decide +kernel) (by decide +kernel) ?_
  walk_at "d"
  refine ⟨_, toAs_d toAs_nil, List.nodup_nil, use_ties hw fun b => ?_⟩
  walk_at "k"
  walk_at "d"
  refine ⟨_, rfl, _, rfl, ?_⟩
  walk_at "d"
  exact ⟨trivial, h⟩
def strL (L : List Nat) : Str := ⟨L.toArray⟩
theorem tl_strL (L : List Nat) : tl (strL L) = L := rfl
theorem len_strL (L : List Nat) : (strL L).length = L.length := len_tl _
theorem join_lw (L : List Nat) : Str.join (Str.ofString "") (L.map fun ch => (⟨#[ch]⟩ : Str)) = strL L := by
  refine str_eq ?_
  show tl _ = L
  rw [tl_join, List.map_map, show tl (Str.ofString "") = [] from by decide +kernel]
  show joinL [] (L.map fun ch => [ch]) = _
  induction L with
  | nil => rfl
  | cons c L ih =>
    cases L with
    | nil => rfl
    | cons d L =>
      show [c] ++ [] ++ joinL [] ((d :: L).map fun ch => [ch]) = _
      rw [ih]
      rfl
theorem cut2 {z : Str} {a b : Nat} (h1 : a ≤ b) (h2 : b ≤ z.length) : (cutS z (some (a : Int)) (some (b : Int))).cps.toList = (z.cps.toList.drop a).take (b - a) := by
  unfold cutS
  rw [HT.sIx_nat, HT.sIx_nat, show min a z.length = a by omega, show min b z.length = b by omega]
/-! names -/
theorem let_at : ∀ i : Fin 26, lettersL[i.1]? = some (97 + i.1) := by decide
theorem let_in {c : Nat} (h1 : 97 ≤ c) (h2 : c < 123) : c ∈ lettersL := by
  have e := let_at ⟨c - 97, by omega⟩
  have e2 : 97 + (c - 97) = c := by omega
  rw [show (⟨c - 97, by omega⟩ : Fin 26).1 = c - 97 from rfl, e2] at e
  exact List.mem_of_getElem? e
def W16 : List Str := ["places", "far", "tie", "web", "a", "aa", "ab", "b", "ba", "put", "cut", "row", "rows", "order", "text", "x"]
theorem W16_split : Txt.split (Str.ofString "places far tie web a aa ab b ba put cut row rows order text x") (Str.ofString " ") = W16 := by decide +kernel
theorem W16_ok : ∀ x ∈ W16, nmOk x = true := by decide +kernel
theorem W16_nd : W16.Nodup := by decide +kernel
theorem nodup_range {n : Nat} {g : Nat → Str} (h : ∀ i j, i < j → j < n → g i ≠ g j) : ((List.range n).map g).Nodup := by
  rw [List.nodup_iff_pairwise_ne, List.pairwise_map, List.pairwise_iff_getElem]
  intro i j hi hj hij
  simp only [List.length_range] at hi hj
  rw [List.getElem_range, List.getElem_range]
  exact h i j hij hj
theorem nm_range {n : Nat} {g : Nat → Str} (h1 : 1 ≤ n) (h2 : n ≤ 13) (h : ∀ i j, i < j → j < n → g i ≠ g j) (ok : ∀ i, i < n → nmOk (g i) = true) : Nms n ((List.range n).map g) := by
  refine ⟨by rw [List.length_map, List.length_range], nodup_range h, fun x hx => ?_⟩
  obtain ⟨i, hi, e⟩ := List.mem_map.mp hx
  rw [← e]
  exact ok i (List.mem_range.mp hi)
def intK (g : Nat → Str) : D → Option D
  | .int i => some (.str (g i.toNat))
  | _ => none
theorem range_fm (g : Nat → Str) (n : Nat) : (rangeD 0 n).filterMap (intK g) = ((List.range n).map g).map D.str := by
  unfold rangeD
  rw [List.filterMap_map, List.map_map]
  have e : (intK g ∘ fun (i : Nat) => D.int (0 + (i : Int))) = fun i => some (D.str (g i)) := by
    funext i
    show some (D.str (g (0 + (i : Int)).toNat)) = _
    rw [show (0 + (i : Int)).toNat = i by omega]
  rw [e]
  generalize List.range n = L
  induction L with
  | nil => rfl
  | cons a L ih => rw [List.filterMap_cons, ih]; rfl
def n0 (f k : Nat) : Str := W16.getD ((f + 5 * k) % 16) ""
theorem n0_at (f k : Nat) : W16[(f + 5 * k) % 16]? = some (n0 f k) := by
  have hl : W16.length = 16 := rfl
  unfold n0
  rw [List.getD_eq_getElem?_getD, List.getElem?_eq_getElem (show (f + 5 * k) % 16 < W16.length by rw [hl]; omega)]
  rfl
theorem n0_ok {f n : Nat} (h1 : 1 ≤ n) (h2 : n ≤ 13) : Nms n ((List.range n).map (n0 f)) := by
  refine nm_range h1 h2 (fun i j hij hj e => ?_) fun i hi => W16_ok _ (List.mem_of_getElem? (n0_at f i))
  have a1 := n0_at f i
  have a2 := n0_at f j
  rw [e] at a1
  obtain ⟨l1, e1⟩ := List.getElem?_eq_some_iff.mp a1
  obtain ⟨l2, e2⟩ := List.getElem?_eq_some_iff.mp a2
  have hne : (f + 5 * i) % 16 ≠ (f + 5 * j) % 16 := by omega
  have nd := List.nodup_iff_pairwise_ne.mp W16_nd
  rcases Nat.lt_or_gt_of_ne hne with z | z
  · exact List.pairwise_iff_getElem.mp nd _ _ l1 l2 z (e1.trans e2.symm)
  · exact List.pairwise_iff_getElem.mp nd _ _ l2 l1 z (e2.trans e1.symm)
theorem nm_of {L : List Nat} (h1 : 1 ≤ L.length) (h2 : L.length ≤ 6) (h : ∀ c ∈ L, c ∈ lettersL) : nmOk (strL L) = true := by
  unfold nmOk
  rw [len_strL, decide_eq_true h1, decide_eq_true h2]
  show (L.all fun ch => decide (ch ∈ lettersL)) = true
  rw [List.all_eq_true]
  exact fun c hc => decide_eq_true (h c hc)
theorem strL_inj {L M : List Nat} (h : strL L = strL M) : L = M := by
  have e : tl (strL L) = tl (strL M) := by rw [h]
  exact e
def n1 (B : List Nat) (f k : Nat) : Str := strL (B.take (k % 6) ++ [97 + (f + 7 * k) % 26])
theorem n1_ok {B : List Nat} {f n : Nat} (h1 : 1 ≤ n) (h2 : n ≤ 13) (hB : B.length = 5) (hl : ∀ c ∈ B, c ∈ lettersL) : Nms n ((List.range n).map (n1 B f)) := by
  refine nm_range h1 h2 (fun i j hij hj e => ?_) fun i hi => nm_of ?_ ?_ fun c hc => ?_
  · have e2 := congrArg List.getLast? (strL_inj e)
    rw [List.getLast?_append, List.getLast?_append] at e2
    have e3 : 97 + (f + 7 * i) % 26 = 97 + (f + 7 * j) % 26 := by simpa using e2
    omega
  · rw [List.length_append]; exact Nat.le_add_left _ _
  · rw [List.length_append, List.length_take]
    show _ + 1 ≤ 6
    omega
  · rcases List.mem_append.mp hc with q | q
    · exact hl c (List.mem_of_mem_take q)
    · rw [List.mem_singleton.mp q]
      exact let_in (by omega) (by omega)
def n2 (B : List Nat) (f s a k : Nat) : Str := strL (B.take a ++ [97 + (f + 7 * k) % 26] ++ (B.take s).drop a)
theorem n2_ok {B : List Nat} {f n s a : Nat} (h1 : 1 ≤ n) (h2 : n ≤ 13) (hB : B.length = 5) (hs : s ≤ 5) (ha : a ≤ s) (hl : ∀ c ∈ B, c ∈ lettersL) : Nms n ((List.range n).map (n2 B f s a)) := by
  refine nm_range h1 h2 (fun i j hij hj e => ?_) fun i hi => nm_of ?_ ?_ fun c hc => ?_
  · have e2 := strL_inj e
    rw [List.append_assoc, List.append_assoc] at e2
    have e3 := List.append_cancel_left e2
    have e4 : 97 + (f + 7 * i) % 26 = 97 + (f + 7 * j) % 26 := (List.cons.inj e3).1
    omega
  · rw [List.length_append, List.length_append]
    show 1 ≤ _ + 1 + _
    omega
  · rw [List.length_append, List.length_append, List.length_take, List.length_drop, List.length_take]
    show _ + 1 + _ ≤ 6
    omega
  · rcases List.mem_append.mp hc with q | q
    · rcases List.mem_append.mp q with q | q
      · exact hl c (List.mem_of_mem_take q)
      · rw [List.mem_singleton.mp q]
        exact let_in (by omega) (by omega)
    · exact hl c (List.mem_of_mem_take (List.mem_of_mem_drop q))
theorem letter_ix {r : Int} (h1 : 0 ≤ r) (h2 : r < 26) : atI (Str.ofString "abcdefghijklmnopqrstuvwxyz").cps.toList r = some (97 + r.toNat) := by
  rw [ltr]
  obtain ⟨k, rfl⟩ := Int.eq_ofNat_of_zero_le h1
  have e := let_at ⟨k, by omega⟩
  exact atI_nat e
theorem ltr16 : (Str.ofString "abcdefghijklmnopqrstuvwxyz").length ≤ 16000000 := by decide +kernel
theorem app_one (L : List Nat) (c : Nat) : strL L ++ (⟨#[c]⟩ : Str) = strL (L ++ [c]) := str_eq (by show tl _ = _; rw [tl_append]; rfl)
theorem app_sL (L M : List Nat) : strL L ++ strL M = strL (L ++ M) := str_eq (by
  show tl _ = tl _
  rw [tl_append, tl_strL, tl_strL, tl_strL])
theorem cut_h {z : Str} {n : Nat} : cutS z none (some (n : Int)) = strL ((tl z).take n) := str_eq (by
  show tl _ = _
  show (cutS z none (some (n : Int))).cps.toList = _
  unfold cutS
  rw [HT.sIx_none, HT.sIx_nat]
  show List.take (min n z.length - 0) (List.drop 0 (tl z)) = _
  rw [List.drop_zero, Nat.sub_zero, len_tl, ← List.take_eq_take_min]
  rfl)
theorem ws_l_names : WsC (Fx := XF) S_l_names t_l_names [.no, .no, .no, .no, .no, .no, .no, .no] := by
  rintro K cn as Φ fx ⟨b, x, n, M, rfl, hb, hn, hm1, hm2, h⟩
  unfold t_l_names
  walk_at "d0"
  walk_at "d"
  refine use_take hb (by omega) (by omega) (by omega) fun r1 x1 g1 g2 hb1 => ?_
  walk_at "d"
  refine use_take hb1 (by omega) (by omega) (by omega) fun r2 x2 g3 g4 hb2 => ?_
  obtain ⟨f, rfl⟩ := Int.eq_ofNat_of_zero_le g3
  walk_at "d"
  refine br_d (fun q => ?_) (fun q => ?_)
  · walk_at "d"
    refine ⟨by decide +kernel, by decide +kernel, fun l => ?_⟩
    rw [W16_split]
    walk_at "d"
    refine we_lcP (wi_range1 ?_)
    walk_at "d"
    refine ⟨_, rfl, by omega, by omega, ?_⟩
    refine ⟨⟨trivial, trivial⟩, by rw [rangeD_len]; omega, intK (n0 f), fun i d hd => ?_, fun a => ?_⟩
    · obtain ⟨hi, rfl⟩ := rangeD_get hd
      refine wgc_name (by simp) rfl ?_
      walk_at "d"
      have e1 : ((f : Nat) + 5 * (0 + (i : Int))) % 16 = (((f + 5 * i) % 16 : Nat) : Int) := by omega
      rw [e1]
      refine dIxC_l (atI_nat (by rw [List.getElem?_map, n0_at]; rfl)) ?_
      refine ⟨_, rfl, ?_⟩
      show some (D.str (n0 f (0 + (i : Int)).toNat)) = _
      rw [show (0 + (i : Int)).toNat = i by omega]
    · rw [range_fm]
      exact ⟨⟨rfl, trivial⟩, h _ _ _ (n0_ok (by omega) (by omega)) (hb2.mono (by omega))⟩
  walk_at "x"
  walk_at "d"
  refine we_lc (wi_range1 ?_)
  walk_at "d"
  refine ⟨_, rfl, by omega, by omega, ?_⟩
  refine ⟨by rw [rangeD_len]; omega, fun j acc δ' => ∃ x3, BoxD (n + 2 + j) x3 ∧ ∃ L : List Nat, L.length = j ∧ (∀ c ∈ L, c ∈ lettersL) ∧ acc = lw L ∧ δ' = [.own b x3, .d (.int M), .d (.str (Str.ofString "abcdefghijklmnopqrstuvwxyz")), .d (.int r1), .d (.int f), .no, .no, .no, .no, .no], ⟨_, hb2, [], rfl, (fun _ q => nomatch q), rfl, rfl⟩, ⟨trivial, trivial⟩, ?_, ?_⟩
  · rintro j d acc ε hd hal ⟨x3, hb3, L, hL, hl, rfl, rfl⟩
    obtain ⟨hj, rfl⟩ := rangeD_get hd
    refine ⟨⟨trivial, trivial⟩, wgc_name (by simp) rfl ?_⟩
    walk_at "d"
    refine use_take hb3 (by omega) (by omega) (by omega) fun r3 x4 g5 g6 hb4 => ?_
    walk_at "d"
    refine dIxC_s ltr16 (letter_ix g5 g6) ?_
    walk_at "d"
    refine ⟨x4, hb4, L ++ [97 + r3.toNat], by rw [List.length_append, hL]; rfl, fun c hc => ?_, lw_snoc L _, rfl⟩
    rcases List.mem_append.mp hc with q | q
    · exact hl c q
    · rw [List.mem_singleton.mp q]; exact let_in (by omega) (by omega)
  rintro acc δ' hal ⟨x3, hb3, B, hB, hl, rfl, rfl⟩ a
  rw [rangeD_len] at hB hb3
  have hB5 : B.length = 5 := by rw [hB]; rfl
  have hb4 := hb3.mono (m := n + 7) (by omega)
  clear hb3 hB hal
  walk_at "d"
  refine ex_join (lw_strs B) (by rw [sum_ones, List.length_map, show (Str.ofString "").length = 0 from by decide +kernel]; omega) ?_
  rw [join_lw]
  have hBl : (strL B).length = B.length := len_strL B
  have hB16 : (strL B).length ≤ 16000000 := by omega
  walk_at "d"
  refine br_d (fun q => ?_) (fun q => ?_)
  · walk_at "d"
    refine we_lcP (wi_range1 ?_)
    walk_at "d"
    refine ⟨_, rfl, by omega, by omega, ?_⟩
    refine ⟨⟨trivial, trivial⟩, by rw [rangeD_len]; omega, intK (n1 B f), fun i d hd => ?_, fun a => ?_⟩
    · obtain ⟨hi, rfl⟩ := rangeD_get hd
      refine wgc_name (by simp) rfl ?_
      walk_at "d"
      have e1 : (0 + (i : Int)) % 6 = ((i % 6 : Nat) : Int) := by omega
      rw [e1]
      refine dSl_s hB16 ?_
      rw [cut_h, tl_strL]
      walk_at "d"
      have e2 : ((f : Nat) + 7 * (0 + (i : Int))) % 26 = (((f + 7 * i) % 26 : Nat) : Int) := by omega
      rw [e2]
      refine dIxC_s ltr16 (letter_ix (by omega) (by omega)) ?_
      walk_at "d"
      refine dAdd_s ?_ ?_
      · rw [len_strL, List.length_take]
        show _ + 1 ≤ _
        omega
      rw [app_one, Int.toNat_natCast]
      refine ⟨_, rfl, ?_⟩
      show some (D.str (n1 B f (0 + (i : Int)).toNat)) = _
      rw [show (0 + (i : Int)).toNat = i by omega]
      rfl
    · rw [range_fm]
      exact ⟨⟨rfl, trivial⟩, h _ _ _ (n1_ok (by omega) (by omega) hB5 hl) (hb4.mono (by omega))⟩
  walk_at "x"
  walk_at "d"
  refine use_take hb4 (by omega) (by omega) (by omega) fun r5 x5 g7 g8 hb5 => ?_
  obtain ⟨s, rfl⟩ := Int.eq_ofNat_of_zero_le g7
  walk_at "d"
  refine use_take hb5 (by omega) (by omega) (by omega) fun r6 x6 g9 g10 hb6 => ?_
  obtain ⟨a, rfl⟩ := Int.eq_ofNat_of_zero_le g9
  walk_at "d"
  refine we_lcP (wi_range1 ?_)
  walk_at "d"
  refine ⟨_, rfl, by omega, by omega, ?_⟩
  refine ⟨⟨trivial, trivial⟩, by rw [rangeD_len]; omega, intK (n2 B f s a), fun i d hd => ?_, fun a => ?_⟩
  · obtain ⟨hi, rfl⟩ := rangeD_get hd
    refine wgc_name (by simp) rfl ?_
    walk_at "d"
    refine dSl_s hB16 ?_
    rw [cut_h, tl_strL]
    walk_at "d"
    have e2 : ((f : Nat) + 7 * (0 + (i : Int))) % 26 = (((f + 7 * i) % 26 : Nat) : Int) := by omega
    rw [e2]
    refine dIxC_s ltr16 (letter_ix (by omega) (by omega)) ?_
    walk_at "d"
    refine dAdd_s ?_ ?_
    · rw [len_strL, List.length_take]
      show _ + 1 ≤ _
      omega
    rw [app_one, Int.toNat_natCast]
    walk_at "d"
    refine dSl_s hB16 ?_
    walk_at "d"
    have e3 : cutS (strL B) (some (a : Int)) (some (s : Int)) = strL ((B.take s).drop a) := str_eq (by
      show tl _ = (B.take s).drop a
      show (cutS (strL B) (some (a : Int)) (some (s : Int))).cps.toList = _
      rw [cut2 (by omega) (by omega), List.drop_take]
      rfl)
    rw [e3]
    refine dAdd_s ?_ ?_
    · rw [len_strL, len_strL, List.length_append, List.length_take, List.length_drop, List.length_take]
      show _ + 1 + _ ≤ _
      omega
    rw [app_sL]
    refine ⟨_, rfl, ?_⟩
    show some (D.str (n2 B f s a (0 + (i : Int)).toNat)) = _
    rw [show (0 + (i : Int)).toNat = i by omega]
    rfl
  · rw [range_fm]
    exact ⟨⟨rfl, trivial⟩, h _ _ _ (n2_ok (by omega) (by omega) hB5 (by omega) (by omega) hl) (hb6.mono (by omega))⟩
section
variable {P : R → List Sl → Prop}
theorem use_names {b : Addr} {x : D} {n m : Nat} (hb : BoxD n x) (hn : n + 20 < 1000000) (h1 : 1 ≤ m) (h2 : m ≤ 13) (q : ∀ b2 ns x', Nms m ns → BoxD (n + 20) x' → P (.own b2 (.lst (ns.map .str))) [.own b x', .d (.int (m : Nat))]) :
    ∀ Ψ : R → List Sl → Prop, (∀ r as', ownOut r → P r as' → Ψ r as') → S_l_names [.own b x, .d (.int (m : Nat))] Ψ := fun Ψ k => ⟨b, x, n, m, rfl, hb, hn, h1, h2, fun b2 ns x' h3 h4 => k _ _ trivial (q b2 ns x' h3 h4)⟩
end

section
variable {P : R → List Sl → Prop}
theorem use_length {b : Addr} {x : D} {n : Nat} (hb : BoxD n x) (hn : n + 2 < 1000000) (q : ∀ (l : Nat) x', 1 ≤ l → l ≤ 1000000 → BoxD (n + 2) x' → P (.d (.int (l : Nat))) [.own b x']) :
    ∀ Ψ : R → List Sl → Prop, (∀ r as', ownOut r → P r as' → Ψ r as') → S_l_length [.own b x] Ψ := fun Ψ k => ⟨b, x, n, rfl, hb, hn, fun l x' h1 h2 h3 => k _ _ trivial (q l x' h1 h2 h3)⟩
end
theorem ws_l_length : WsC (Fx := XF) S_l_length t_l_length [.no] := by
  rintro K cn as Φ fx ⟨b, x, n, rfl, hb, hn, h⟩
  unfold t_l_length
  walk_at "d0"
  walk_at "d"
  refine use_take hb (by omega) (by omega) (by omega) fun r1 x1 g1 g2 hb1 => ?_
  walk_at "d"
  refine br_d (fun q => ?_) (fun q => ?_)
  · have hi : ∃ l : Nat, atI [D.int 1, D.int 1000000] r1 = some (.int (l : Nat)) ∧ 1 ≤ l ∧ l ≤ 1000000 := by
      have : r1 = 0 ∨ r1 = 1 := by omega
      rcases this with e | e <;> subst e
      · exact ⟨1, rfl, by omega, by omega⟩
      · exact ⟨1000000, rfl, by omega, by omega⟩
    obtain ⟨l, e, h1, h2⟩ := hi
    walk_at "d"
    refine dIxC_l e ?_
    exact ⟨⟨rfl, trivial⟩, h l _ h1 h2 (hb1.mono (by omega))⟩
  walk_at "x"
  walk_at "d"
  have hi : ∃ m : Int, atI [D.int 9, D.int 1000, D.int 1000000] (r1 - 2) = some (.int m) ∧ 0 < m ∧ m ≤ 1000000 := by
    have : r1 = 2 ∨ r1 = 3 ∨ r1 = 4 := by omega
    rcases this with e | e | e <;> subst e
    · exact ⟨9, rfl, by omega, by omega⟩
    · exact ⟨1000, rfl, by omega, by omega⟩
    · exact ⟨1000000, rfl, by omega, by omega⟩
  obtain ⟨m, e, h1, h2⟩ := hi
  refine dIxC_l e ?_
  walk_at "d"
  refine use_take hb1 (by omega) h1 (by omega) fun r2 x2 g3 g4 hb2 => ?_
  obtain ⟨v, rfl⟩ := Int.eq_ofNat_of_zero_le g3
  walk_at "d"
  have e2 : (1 : Int) + (v : Nat) = ((1 + v : Nat) : Int) := by omega
  rw [e2]
  exact ⟨⟨rfl, trivial⟩, h _ _ (by omega) (by omega) hb2⟩
/-! all pairs -/
theorem pairsL_succ (m : Nat) : pairsL (m + 1) = pairsL m ++ (List.range m).map fun j => (j, m) := by
  unfold pairsL
  rw [List.range_succ, List.flatMap_append]
  simp
theorem pairsL_mem {m : Nat} {p : Nat × Nat} : p ∈ pairsL m ↔ p.1 < p.2 ∧ p.2 < m := by
  induction m with
  | zero => simp [pairsL]
  | succ m ih =>
    rw [pairsL_succ, List.mem_append, ih, List.mem_map]
    constructor
    · rintro (h | ⟨j, hj, e⟩)
      · omega
      · have := List.mem_range.mp hj
        subst e
        dsimp only
        omega
    · intro h
      by_cases e : p.2 = m
      · exact .inr ⟨p.1, List.mem_range.mpr (by omega), Prod.ext rfl e.symm⟩
      · exact .inl (by omega)
theorem pairsL_nd (m : Nat) : (pairsL m).Nodup := by
  induction m with
  | zero => simp [pairsL]
  | succ m ih =>
    rw [pairsL_succ]
    refine List.nodup_append.mpr ⟨ih, ?_, fun a ha b hb e => ?_⟩
    · rw [List.nodup_iff_pairwise_ne, List.pairwise_map]
      exact (List.nodup_iff_pairwise_ne.mp List.nodup_range).imp fun h e => h (Prod.mk.inj e).1
    · subst e
      obtain ⟨j, _, e⟩ := List.mem_map.mp hb
      have := (pairsL_mem.mp ha).2
      rw [← e] at this
      exact Nat.lt_irrefl _ this
theorem pairsL_len (m : Nat) : 2 * (pairsL m).length = m * (m - 1) := by
  induction m with
  | zero => rfl
  | succ m ih =>
    rw [pairsL_succ, List.length_append, List.length_map, List.length_range]
    cases m with
    | zero => rfl
    | succ m =>
      rw [Nat.mul_add, ih]
      simp only [Nat.add_sub_cancel]
      rw [Nat.mul_comm (m + 1) m, ← Nat.add_mul, Nat.mul_comm]
def pairK (k : Nat) : D → Option D
  | .int j => some (pN (j.toNat, k))
  | _ => none
theorem pairK_all (k : Nat) : (rangeD 0 k).filterMap (pairK k) = ((List.range k).map fun j => (j, k)).map pN := by
  unfold rangeD
  rw [List.filterMap_map, List.map_map]
  have e : (pairK k ∘ fun (i : Nat) => D.int (0 + (i : Int))) = fun i => some (pN (i, k)) := by
    funext i
    show some (pN ((0 + (i : Int)).toNat, k)) = _
    rw [show (0 + (i : Int)).toNat = i by omega]
  rw [e]
  generalize List.range k = L
  induction L with
  | nil => rfl
  | cons a L ih => rw [List.filterMap_cons, ih]; rfl
/-! the world -/
theorem world_merge (nms : List Str) (L : List Tie) : mergeD [] [((.inr "names" : Key), D.lst (nms.map .str)), (.inr "ties", .dcT (lnK L))] = [((.inr "names" : Key), D.lst (nms.map .str)), (.inr "ties", .dcT (lnK L))] := by
  rw [mergeD_new (acc := []) (fun q _ r hr => by cases hr)]
  · rfl
  · have e : ¬ (Sum.inr ("names" : Str) : Key) = Sum.inr ("ties" : Str) := by decide +kernel
    simp [e]
theorem dl_len {m : Nat} {nms : List Str} (h : nms.length = m + 1) : nms.dropLast.length = m := by rw [List.length_dropLast]; omega
theorem world_ok {m : Nat} {nms : List Str} {L : List Tie} (h1 : 1 ≤ m) (h2 : m ≤ 12) (hn : Nms (m + 1) nms) (hL : TieOk m L) (hl : L.length ≤ 40) : WorldOk nms L := by
  have hd := dl_len hn.len
  have hsub : nms.dropLast.Sublist nms := List.dropLast_sublist nms
  refine ⟨⟨rfl, hn.nd, hn.ok⟩, by rw [hn.len]; omega, ⟨⟨by omega, by omega, hn.nd.sublist hsub, fun x hx => hn.ok x (hsub.subset hx)⟩, fun t ht => by rw [hd]; exact hL.ok t ht, hL.nd, hl⟩⟩
theorem TieOk.new {n : Nat} {L : List Tie} {p : Nat × Nat} {l : Nat} (h : TieOk n L) (h1 : p.1 < p.2) (h2 : p.2 < n) (h4 : 1 ≤ l) (h5 : l ≤ 1000000) (h6 : p ∉ L.map Prod.fst) : TieOk n (L ++ [(p, l)]) := by
  refine ⟨fun t ht => ?_, ?_⟩
  · rcases List.mem_append.mp ht with q | q
    · exact h.ok t q
    · rw [List.mem_singleton.mp q]
      exact ⟨h1, h2, h4, h5⟩
  · rw [List.map_append]
    exact List.nodup_append.mpr ⟨h.nd, by simp, fun a ha b hb e => h6 (by rw [← List.mem_singleton.mp (show b ∈ [p] from hb), ← e]; exact ha)⟩

theorem ws_l_world : WsC (Fx := XF) S_l_world t_l_world [.no, .no, .no, .no, .no, .no, .no, .no, .no] := by
  rintro K cn as Φ fx ⟨b, x, n, rfl, hb, hn, h⟩
  unfold t_l_world
  walk_at "d0"
  walk_at "d"
  refine use_take hb (by omega) (by omega) (by omega) fun r1 x1 g1 g2 hb1 => ?_
  walk_at "i"
  refine w_join (fun δ' => ∃ (m : Nat) (x2 : D), 1 ≤ m ∧ m ≤ 12 ∧ BoxD (n + 2) x2 ∧ δ' = [.own b x2, .d (.int r1), .d (.int (m : Nat)), .no, .no, .no, .no, .no, .no, .no]) ?_ ?_
  · walk_at "d"
    refine br_d (fun q => ?_) (fun q => ?_)
    · have hi : ∃ m : Int, atI [D.int 5, D.int 12] r1 = some (.int m) ∧ 0 < m ∧ m ≤ 12 := by
        have : r1 = 0 ∨ r1 = 1 := by omega
        rcases this with e | e <;> subst e
        · exact ⟨5, rfl, by omega, by omega⟩
        · exact ⟨12, rfl, by omega, by omega⟩
      obtain ⟨m, e, h1, h2⟩ := hi
      walk_at "d"
      refine dIxC_l e ?_
      walk_at "d"
      refine use_take hb1 (by omega) h1 (by omega) fun r2 x2 g3 g4 hb2 => ?_
      obtain ⟨v, rfl⟩ := Int.eq_ofNat_of_zero_le g3
      walk_at "d"
      have e2 : (1 : Int) + (v : Nat) = ((1 + v : Nat) : Int) := by omega
      rw [e2]
      exact ⟨1 + v, x2, by omega, by omega, hb2, rfl⟩
    · walk_at "x"
      exact ⟨12, x1, by omega, by omega, hb1.mono (by omega), rfl⟩
  rintro δ' ⟨m, x2, hm1, hm2, hb2, rfl⟩
  walk_at "d"
  refine use_take hb2 (by omega) (by omega) (by omega) fun r2 x3 g3 g4 hb3 => ?_
  walk_at "d"
  have hi : ∃ m : Int, atI [D.int 1, D.int 2, D.int 3, D.int 6, D.int 40] r2 = some (.int m) ∧ 0 < m ∧ m ≤ 40 := by
    have : r2 = 0 ∨ r2 = 1 ∨ r2 = 2 ∨ r2 = 3 ∨ r2 = 4 := by omega
    rcases this with e | e | e | e | e <;> subst e
    · exact ⟨1, rfl, by omega, by omega⟩
    · exact ⟨2, rfl, by omega, by omega⟩
    · exact ⟨3, rfl, by omega, by omega⟩
    · exact ⟨6, rfl, by omega, by omega⟩
    · exact ⟨40, rfl, by omega, by omega⟩
  obtain ⟨rare, e, hr1, hr2⟩ := hi
  refine dIxC_l e ?_
  walk_at "d"
  refine w_for (wi_range1 ?_)
  walk_at "d"
  refine ⟨_, rfl, by omega, by omega, ?_⟩
  rename_i b4
  refine ⟨fun k δ' => ∃ s5, δ' = [.own b x3, .d (.int r1), .d (.int (m : Nat)), .d (.int rare), .own b4 (.lst ((pairsL k).map pN)), s5, .no, .no, .no, .no], ⟨_, rfl⟩, fun k d δ' hd ⟨s5, e⟩ => ?_, fun δ' ⟨s5, e⟩ => ?_⟩
  · obtain ⟨hk, rfl⟩ := rangeD_get hd
    subst e
    have hl := pairsL_len k
    have hk12 : k < 12 := by omega
    have hkk : k * (k - 1) ≤ 12 * 12 := Nat.mul_le_mul (by omega) (by omega)
    walk_at "d"
    refine we_lcP (wi_range1 ?_)
    walk_at "d"
    refine ⟨_, rfl, by omega, by omega, ?_⟩
    refine ⟨⟨trivial, trivial⟩, by rw [rangeD_len]; omega, pairK k, fun i d hd => ?_, fun a => ?_⟩
    · obtain ⟨hi, rfl⟩ := rangeD_get hd
      refine wgc_name (by simp) rfl ?_
      walk_at "d"
      show some (pN ((0 + (i : Int)).toNat, k)) = _
      rw [show (0 + (i : Int)).toNat = i by omega, show (0 : Int) + (i : Nat) = (i : Nat) by omega, show (0 : Int) + (k : Nat) = (k : Nat) by omega]
      rfl
    · have e : (0 + (k : Int)).toNat = k := by omega
      rw [e, pairK_all]
      refine wa_nil ?_
      refine ⟨_, _, rfl, rfl, by rw [List.length_map, List.length_map, List.length_map, List.length_range]; omega, fun δ3 e2 => ?_⟩
      subst e2
      rw [← List.map_append, ← pairsL_succ]
      exact ⟨_, rfl⟩
  subst e
  rw [rangeD_len, Int.toNat_natCast]
  have hl := pairsL_len m
  have hmm : m * (m - 1) ≤ 12 * 11 := Nat.mul_le_mul (by omega) (by omega)
  walk_at "d"
  refine use_take hb3 (by omega) (by split <;> omega) (by rw [List.length_map]; split <;> omega) fun r3 x4 g5 g6 hb4 => ?_
  obtain ⟨w, rfl⟩ := Int.eq_ofNat_of_zero_le g5
  walk_at "d"
  rename_i b8
  refine w_for (wi_any ?_)
  walk_at "d"
  refine ⟨_, view_bor rfl, dSl_l fun a5 => ?_⟩
  walk_at "d"
  refine ⟨_, view_bor rfl, dSl_l fun a6 => ?_⟩
  walk_at "d"
  rw [cutD1 (by omega), cutD0 (by omega), Int.toNat_natCast, ← List.map_drop, ← List.map_take]
  have hperm : ((pairsL m).drop w ++ (pairsL m).take w).Perm (pairsL m) := List.perm_append_comm.trans (by rw [List.take_append_drop])
  have hlen := hperm.length_eq
  rw [List.length_append] at hlen
  refine dAdd_l (by rw [List.length_map, List.length_map]; omega) fun a7 => ?_
  rw [← List.map_append]
  have hnd := hperm.nodup_iff.mpr (pairsL_nd m)
  have hmem : ∀ p ∈ (pairsL m).drop w ++ (pairsL m).take w, p.1 < p.2 ∧ p.2 < m := fun p hp => pairsL_mem.mp (hperm.mem_iff.mp hp)
  rw [← List.length_append] at hlen
  generalize (pairsL m).drop w ++ (pairsL m).take w = qs at hnd hmem hlen ⊢
  refine ⟨_, _, rfl, rfl, ?_⟩
  refine ⟨fun i δ' => ∃ (L : List Tie) (x' : D) (s9 : Sl), δ' = [.own b x', .d (.int r1), .d (.int (m : Nat)), .d (.int rare), .own b4 (.lst ((pairsL m).map pN)), s5, .no, .d (.int (w : Nat)), .own b8 (.dcT (lnK L)), s9] ∧ BoxD (n + 4 + 3 * i) x' ∧ TieOk m L ∧ L.length ≤ 40 ∧ ∀ p ∈ L.map Prod.fst, p ∈ qs.take i,
    ⟨[], _, _, rfl, hb4, ⟨(fun t ht => by cases ht), List.nodup_nil⟩, Nat.zero_le _, fun p hp => by cases hp⟩, fun i d δ' hd ⟨L, x', s9, e, q1, q2, q3, q4⟩ => ?_, fun δ' ⟨L, x', s9, e, q1, q2, q3, q4⟩ => ?_⟩
  · rw [List.getElem?_map] at hd
    cases e3 : qs[i]? with
    | none => rw [e3] at hd; cases hd
    | some p =>
      rw [e3] at hd
      cases hd
      have hi := (List.getElem?_eq_some_iff.mp e3).1
      have hp := hmem p (List.mem_of_getElem? e3)
      have hnew : p ∉ L.map Prod.fst := fun z => nodup_take hnd e3 (q4 p z)
      have keep : ∀ u ∈ L.map Prod.fst, u ∈ qs.take (i + 1) := fun u hu => by
        rw [List.take_add_one]
        exact List.mem_append_left _ (q4 u hu)
      subst e
      have hqi : i < 66 := by omega
      walk_at "d"
      refine br_d (fun h1 => ?_) (fun h1 => ?_)
      · rw [lnK_len] at h1
        walk_at "d"
        refine use_take q1 (by omega) hr1 (by omega) fun r5 x5 g7 g8 hb5 => ?_
        walk_at "d"
        refine br_d (fun h2 => ?_) (fun h2 => ?_)
        · walk_at "d"
          refine use_length hb5 (by omega) fun l x6 g9 g10 hb6 => ?_
          walk_at "t"
          refine wg_setT ?_
          walk_at "d"
          refine ⟨_, _, _, rfl, dKeyT_pN _, rfl, by rw [lnK_len]; omega, fun δ3 e => ?_⟩
          subst e
          walk_at "k"
          rw [lnK_put hnew]
          refine ⟨_, x6, _, rfl, hb6.mono (by omega), q2.new hp.1 hp.2 g9 g10 hnew, by rw [List.length_append]; simp only [List.length_singleton]; omega, fun u hu => ?_⟩
          rw [List.map_append] at hu
          rcases List.mem_append.mp hu with z | z
          · exact keep u z
          · rw [List.mem_singleton.mp (show u ∈ [p] from z), List.take_add_one, e3]
            exact List.mem_append_right _ (List.mem_singleton.mpr rfl)
        · walk_at "x"
          exact ⟨L, x5, _, rfl, hb5.mono (by omega), q2, q3, keep⟩
      · walk_at "x"
        exact ⟨L, x', _, rfl, q1.mono (by omega), q2, q3, keep⟩
  · subst e
    rw [List.length_map] at q1
    refine w_frz 8 rfl ?_
    walk_at "k"
    walk_at "d"
    refine we_disp ?_
    refine wp_cons ?_
    walk_at "d"
    have em : ((m : Nat) : Int) + 1 = ((m + 1 : Nat) : Int) := by omega
    rw [em]
    refine use_names q1 (by omega) (by omega) (by omega) fun b9 nms x7 hn7 hb7 => ?_
    walk_at "d"
    refine wp_cons ?_
    walk_at "d"
    refine wp_nil ?_
    refine ⟨[(.inr "names", .lst (nms.map .str)), (.inr "ties", .dcT (lnK L))], rfl, Nat.le_of_ble_eq_true rfl, fun b10 => ?_⟩
    rw [world_merge]
    exact ⟨⟨rfl, trivial⟩, h _ _ _ _ (world_ok hm1 hm2 hn7 q2 q3) (hb7.mono (by omega))⟩

section
variable {P : R → List Sl → Prop} {nms : List Str} {L : List Tie} {k : R → Prop}
theorem ixW_n (h : k (.d (.lst (nms.map .str)))) : dIxC (worldD nms L) (.str "names") k := dIxC_k (kds := [((.inr "names" : Key), D.lst (nms.map .str)), (.inr "ties", .dcT (lnK L))]) (key := .inr "names") rfl (by unfold DL.getD; simp) h
theorem ixW_t (h : k (.d (.dcT (lnK L)))) : dIxC (worldD nms L) (.str "ties") k := dIxC_k (kds := [((.inr "names" : Key), D.lst (nms.map .str)), (.inr "ties", .dcT (lnK L))]) (key := .inr "ties") rfl (by
  have e : ¬ (Sum.inr ("names" : Str) : Key) = Sum.inr ("ties" : Str) := by decide +kernel
  unfold DL.getD
  simp [List.find?_cons, e]) h
theorem use_world {b : Addr} {x : D} {n : Nat} (hb : BoxD n x) (hn : n + 300 < 1000000) (q : ∀ b2 nms L x', WorldOk nms L → BoxD (n + 300) x' → P (.own b2 (worldD nms L)) [.own b x']) :
    ∀ Ψ : R → List Sl → Prop, (∀ r as', ownOut r → P r as' → Ψ r as') → S_l_world [.own b x] Ψ := fun Ψ k => ⟨b, x, n, rfl, hb, hn, fun b2 nms L x' h1 h2 => k _ _ trivial (q b2 nms L x' h1 h2)⟩
theorem use_handed {b : Addr} {x : D} {n : Nat} (hb : BoxD n x) (hn : n + 100 < 1000000) (hw : WorldOk nms L) (q : ∀ b2 ds x', HandOk nms.dropLast L ds → BoxD (n + 100) x' → P (.own b2 (.lst ds)) [.own b x', .d (worldD nms L)]) :
    ∀ Ψ : R → List Sl → Prop, (∀ r as', ownOut r → P r as' → Ψ r as') → S_l_handed [.own b x, .d (worldD nms L)] Ψ := fun Ψ k => ⟨b, x, n, nms, L, rfl, hb, hn, hw, fun b2 ds x' h1 h2 => k _ _ trivial (q b2 ds x' h1 h2)⟩
end
theorem nm_dl {nms : List Str} {i : Nat} (h : i < nms.dropLast.length) : nmAt nms.dropLast i = nmAt nms i := by
  have a := nmAt_get h
  rw [List.length_dropLast] at h
  rw [List.getElem?_dropLast, if_pos h, nmAt_get (by omega)] at a
  exact (Option.some.inj a).symm
theorem pure_pairs (A : List Tie) : pure0s ((A.map iP).map pd) = true := by
  rw [List.map_map]
  exact pure0s_map fun t _ => by simp [pd, pure0, pure0s]
theorem dpt_pairs (A : List Tie) : dpts ((A.map iP).map pd) ≤ 2 := by
  rw [List.map_map]
  exact dpts_map fun t _ => by simp [pd, dpt, dpts]
theorem ne_pairs {A : List Tie} {k : R → Prop} (t : A = [] → k (.d (.bl false))) (n : A ≠ [] → k (.d (.bl true))) : dEqF not (.lst ((A.map iP).map pd)) (.lst []) k := by
  have a := pure_pairs A
  have b := dpt_pairs A
  refine dEq_p (by unfold pure0; exact a) (by simp [pure0, pure0s]) (by unfold dpt; omega) (by simp [dpt, dpts]) (fun e => t ?_) (fun e => n fun z => e (by rw [z]; rfl))
  have e2 := D.lst.inj e
  exact List.map_eq_nil_iff.mp (List.map_eq_nil_iff.mp e2)
theorem erase_perm {α : Type} : ∀ {l : List α} {n : Nat} (h : n < l.length), (l[n] :: l.eraseIdx n).Perm l
  | [], n, h => absurd h (Nat.not_lt_zero n)
  | a :: l, 0, _ => List.Perm.refl _
  | a :: l, n + 1, h => by
    have h' : n < l.length := by simpa using h
    show (l[n] :: a :: l.eraseIdx n).Perm (a :: l)
    exact (List.Perm.swap a l[n] (l.eraseIdx n)).trans ((erase_perm h').cons a)
theorem ws_l_handed : WsC (Fx := XF) S_l_handed t_l_handed [.no, .no, .no, .no] := by
  rintro K cn as Φ fx ⟨b, x, n, nms, L, rfl, hb, hn, hw, h⟩
  have hw2 := hw.w
  unfold t_l_handed
  walk_at "d0"
  walk_at "d"
  refine ixW_t ?_
  walk_at "d"
  refine ⟨_, rfl, .inl ⟨_, _, rfl, lnK_keys L, fun b2 qs h1 h2 => ?_⟩⟩
  rw [sorted_is h1 h2]
  walk_at "d"
  rename_i b3
  refine w_while (fun m δ' => ∃ (A : List Tie) (M : List (Bool × Tie)) (x' : D) (s4 s5 : Sl), δ' = [.own b x', .d (worldD nms L), .own b2 (.lst ((A.map iP).map pd)), .own b3 (.lst (M.map fun q => tieW nms.dropLast q.1 q.2)), s4, s5] ∧ BoxD (n + 2 * M.length) x' ∧ (M.map Prod.snd ++ A).Perm L ∧ m = A.length)
    _ ⟨sortT L, [], x, _, _, rfl, hb, sortT_perm L, rfl⟩ (fun m δ' ⟨A, M, x', s4, s5, e, q1, q2, q3⟩ => ?_)
  subst e
  have hlen := q2.length_eq
  rw [List.length_append, List.length_map] at hlen
  have h40 := hw2.le
  walk_at "d"
  refine ne_pairs (fun hA => ?_) (fun hA => ?_)
  · subst hA
    walk_at "d"
    rw [List.append_nil] at q2
    exact ⟨⟨rfl, trivial⟩, Nat.le_of_ble_eq_true rfl, _, rfl, h b3 _ _ ⟨M, q2, rfl⟩ (q1.mono (by omega))⟩
  · have hA0 : 0 < A.length := List.length_pos_iff.mpr hA
    walk_at "d"
    refine use_take q1 (by omega) (by rw [List.length_map, List.length_map]; omega) (by rw [List.length_map, List.length_map]; omega) fun r1 x1 g1 g2 hb1 => ?_
    obtain ⟨w, rfl⟩ := Int.eq_ofNat_of_zero_le g1
    rw [List.length_map, List.length_map] at g2
    have hwl : w < A.length := by omega
    walk_at "d"
    have hAw : A[w]? = some A[w] := List.getElem?_eq_getElem hwl
    refine ex_popAt rfl (by rw [List.length_map, List.length_map]; omega) (x := pd (iP A[w])) (by rw [List.getElem?_map, List.getElem?_map, hAw]; rfl) ?_
    intro δ3 e
    have e1 : ((A.map iP).map pd).eraseIdx w = ((A.eraseIdx w).map iP).map pd := by simp [List.eraseIdx_eq_take_drop_succ]
    have hperm : (A[w] :: A.eraseIdx w).Perm A := erase_perm hwl
    rw [e1] at e
    rw [iP_pd]
    have hel : (A.eraseIdx w).length = A.length - 1 := by rw [List.length_eraseIdx_of_lt hwl]
    have hm : A[w] ∈ L := q2.mem_iff.mp (List.mem_append_right _ (List.getElem_mem hwl))
    generalize A[w] = t at hperm hm ⊢
    generalize A.eraseIdx w = A2 at e hperm hel
    subst e
    walk_at "k"
    obtain ⟨t1, t2, t3, t4, t5⟩ := hw2.tie hm
    have u1 := t1
    have u2 := t2
    rw [List.length_dropLast] at u1 u2
    walk_at "d"
    refine use_take hb1 (by omega) (by omega) (by omega) fun r2 x2 g3 g4 hb2 => ?_
    have hML : ((M.map fun q => tieW nms.dropLast q.1 q.2)).length < 100000 := by rw [List.length_map]; omega
    have fin : ∀ bt : Bool, ((M ++ [(bt, t)]).map Prod.snd ++ A2).Perm L := fun bt => by
      rw [List.map_append, List.append_assoc]
      exact (List.Perm.append_left _ hperm).trans q2
    have r01 : r2 = 0 ∨ r2 = 1 := by omega
    rcases r01 with e | e
    · subst e
      walk_at "d"
      refine ixW_n ?_
      walk_at "d"
      refine ix_pN0 ?_
      walk_at "d"
      refine ix_nm (by omega) ?_
      walk_at "d"
      refine ixW_n ?_
      walk_at "d"
      refine ix_pN1 ?_
      walk_at "d"
      refine ix_nm (by omega) ?_
      walk_at "d"
      refine ixW_t ?_
      walk_at "d"
      refine dIxC_t (dKeyT_pN _) (by rw [lnK_get, look_mem hw2.nd hm]; rfl) ?_
      walk_at "d"
      have e3 : (M.map fun q => tieW nms.dropLast q.1 q.2) ++ [D.tup [.str (nmAt nms t.1.1), .str (nmAt nms t.1.2), .int (t.2 : Nat)]] = (M ++ [(true, t)]).map fun q => tieW nms.dropLast q.1 q.2 := by
        rw [List.map_append, List.map_singleton]
        show _ = _ ++ [tieD nms.dropLast t]
        unfold tieD
        rw [nm_dl t1, nm_dl t2]
      rw [e3]
      exact ⟨A2.length, by omega, A2, M ++ [(true, t)], x2, _, _, rfl, hb2.mono (by rw [List.length_append]; simp only [List.length_singleton]; omega), fin true, rfl⟩
    · subst e
      walk_at "d"
      refine ixW_n ?_
      walk_at "d"
      refine ix_pN1 ?_
      walk_at "d"
      refine ix_nm (by omega) ?_
      walk_at "d"
      refine ixW_n ?_
      walk_at "d"
      refine ix_pN0 ?_
      walk_at "d"
      refine ix_nm (by omega) ?_
      walk_at "d"
      refine ixW_t ?_
      walk_at "d"
      refine dIxC_t (dKeyT_pN _) (by rw [lnK_get, look_mem hw2.nd hm]; rfl) ?_
      walk_at "d"
      have e3 : (M.map fun q => tieW nms.dropLast q.1 q.2) ++ [D.tup [.str (nmAt nms t.1.2), .str (nmAt nms t.1.1), .int (t.2 : Nat)]] = (M ++ [(false, t)]).map fun q => tieW nms.dropLast q.1 q.2 := by
        rw [List.map_append, List.map_singleton]
        show _ = _ ++ [D.tup [.str (nmAt nms.dropLast t.1.2), .str (nmAt nms.dropLast t.1.1), .int (t.2 : Nat)]]
        rw [nm_dl t1, nm_dl t2]
      rw [e3]
      exact ⟨A2.length, by omega, A2, M ++ [(false, t)], x2, _, _, rfl, hb2.mono (by rw [List.length_append]; simp only [List.length_singleton]; omega), fin false, rfl⟩

theorem cutDm1 (xs : List D) : DL.cutD xs none (some (-1)) = xs.dropLast := by
  unfold DL.cutD
  rw [HT.sIx_none, List.drop_zero, Nat.sub_zero, List.dropLast_eq_take]
  congr 1
  show (if (-1 : Int) < 0 then ((-1 : Int) + (xs.length : Int)).toNat else min (-1 : Int).toNat xs.length) = _
  rw [if_pos (by omega)]
  omega
theorem dl_map (nms : List Str) : (nms.map D.str).dropLast = nms.dropLast.map D.str := (List.map_dropLast).symm


/-! texts of webs: what they are made of -/
theorem tl_numT (n : Nat) : tl (numT n) = numL n := tl_num n
theorem tl_sp : tl (Str.ofString " ") = [32] := by decide +kernel
theorem tl_nl : tl (Str.ofString "\n") = [10] := by decide +kernel
theorem tl_pl : tl (Str.ofString "places") = [112, 108, 97, 99, 101, 115] := by decide +kernel
theorem mem_joinL {S : List Nat} {c : Nat} : ∀ {P : List (List Nat)}, c ∈ joinL S P → c ∈ S ∨ ∃ p ∈ P, c ∈ p
  | [], h => by cases h
  | [p], h => .inr ⟨p, List.mem_singleton.mpr rfl, h⟩
  | p :: q :: r, h => by
    rcases List.mem_append.mp (show c ∈ p ++ (S ++ joinL S (q :: r)) from h) with z | z
    · exact .inr ⟨p, List.mem_cons_self, z⟩
    rcases List.mem_append.mp z with z | z
    · exact .inl z
    rcases mem_joinL z with z | ⟨u, hu, hc⟩
    · exact .inl z
    · exact .inr ⟨u, List.mem_cons_of_mem _ hu, hc⟩
theorem nm_signs {x : Str} (h : nmOk x = true) {c : Nat} (hc : c ∈ tl x) : 97 ≤ c ∧ c ≤ 122 := by
  have a := (nm_is h).2.2
  have b := of_decide_eq_true (List.all_eq_true.mp a c hc)
  have all : ∀ c ∈ lettersL, 97 ≤ c ∧ c ≤ 122 := by decide
  exact all c b
theorem num_signs {n c : Nat} (hc : c ∈ tl (numT n)) : 48 ≤ c ∧ c ≤ 57 := by
  rw [tl_numT] at hc
  exact numL_digits n c hc
/-- words: no blank and no line feed in them -/
def WordOk (x : Str) : Prop := ∀ c ∈ tl x, c ≠ 32 ∧ c ≠ 10
theorem word_nm {x : Str} (h : nmOk x = true) : WordOk x := fun c hc => by have := nm_signs h hc; omega
theorem word_num (n : Nat) : WordOk (numT n) := fun c hc => by have := num_signs hc; omega
theorem word_pl : WordOk (Str.ofString "places") := fun c hc => by
  rw [tl_pl] at hc
  simp only [List.mem_cons, List.not_mem_nil, or_false] at hc
  omega
theorem kind_sp : (Str.ofString " ").cps.all (· < 256) = true := by decide +kernel
theorem kind_nl : (Str.ofString "\n").cps.all (· < 256) = true := by decide +kernel
theorem join_noline {ws : List Str} (h : ∀ w ∈ ws, WordOk w) : 10 ∉ tl (Str.join (Str.ofString " ") ws) := by
  rw [tl_join, tl_sp]
  intro hc
  rcases mem_joinL hc with z | ⟨p, hp, z⟩
  · simp at z
  · obtain ⟨w, hw, e⟩ := List.mem_map.mp hp
    subst e
    exact (h w hw 10 z).2 rfl
def wordsQ (ns : List Str) (q : Tri) : List Str := [nmAt ns q.1, nmAt ns q.2.1, numT q.2.2]
theorem words_ok {ns : List Str} (hn : NmOk ns) {q : Tri} (h1 : q.1 < ns.length) (h2 : q.2.1 < ns.length) : ∀ w ∈ wordsQ ns q, WordOk w := by
  intro w hw
  simp only [wordsQ, List.mem_cons, List.not_mem_nil, or_false] at hw
  rcases hw with e | e | e <;> subst e
  · exact word_nm (nm_at_ok hn h1)
  · exact word_nm (nm_at_ok hn h2)
  · exact word_num _
theorem head_ok {ns : List Str} (hn : ∀ x ∈ ns, nmOk x = true) : ∀ w ∈ (("places" : Str) :: ns), WordOk w := by
  intro w hw
  rcases List.mem_cons.mp hw with e | e
  · subst e; exact word_pl
  · exact word_nm (hn w e)
theorem strsD_map : ∀ l : List Str, strsD (l.map D.str) = some l
  | [] => rfl
  | x :: l => by rw [List.map_cons]; unfold strsD; rw [strsD_map l]; rfl
theorem sum_le {l : List Str} {m : Nat} (h : ∀ x ∈ l, x.length ≤ m) : (l.map (·.length)).sum ≤ l.length * m := by
  induction l with
  | nil => exact Nat.zero_le _
  | cons x l ih =>
    have h1 := h x List.mem_cons_self
    have h2 := ih fun y hy => h y (List.mem_cons_of_mem _ hy)
    rw [List.map_cons, List.sum_cons, List.length_cons, Nat.succ_mul]
    omega
theorem join_len (y : Str) : ∀ l : List Str, (Str.join y l).length ≤ (l.map (·.length)).sum + l.length * y.length
  | [] => Nat.zero_le _
  | [x] => by show x.length ≤ x.length + 0 + 1 * y.length; omega
  | x :: z :: r => by
    have ih := join_len y (z :: r)
    show (x ++ y ++ Str.join y (z :: r)).length ≤ _
    rw [len_app, len_app, List.map_cons, List.sum_cons, List.length_cons (a := x), Nat.succ_mul]
    omega
theorem len_numT {n : Nat} (h : n ≤ 1000000) : (numT n).length ≤ 7 := by
  rw [len_tl, tl_numT]
  exact numL_len (by decide) (by omega)
theorem len_sp : (Str.ofString " ").length = 1 := by decide +kernel
theorem len_nl : (Str.ofString "\n").length = 1 := by decide +kernel
theorem len_headS {ns : List Str} (hn : NmOk ns) : (headS ns).length ≤ 200 := by
  have a := join_len (Str.ofString " ") (("places" : Str) :: ns)
  have b := sum_le (l := (("places" : Str) :: ns)) (m := 6) fun x hx => by
    rcases List.mem_cons.mp hx with e | e
    · subst e; decide +kernel
    · exact (nm_is (hn.ok x e)).2.1
  have c := hn.l2
  rw [len_sp] at a
  rw [List.length_cons] at a b
  show (Str.join (Str.ofString " ") (("places" : Str) :: ns)).length ≤ 200
  omega
theorem len_lineS {ns : List Str} (hn : NmOk ns) {q : Tri} (h1 : q.1 < ns.length) (h2 : q.2.1 < ns.length) (h : q.2.2 ≤ 1000000) : (lineS ns q).length ≤ 50 := by
  have a := join_len (Str.ofString " ") (wordsQ ns q)
  have b := sum_le (l := wordsQ ns q) (m := 7) fun x hx => by
    simp only [wordsQ, List.mem_cons, List.not_mem_nil, or_false] at hx
    rcases hx with e | e | e <;> subst e
    · have := (nm_is (nm_at_ok hn h1)).2.1; omega
    · have := (nm_is (nm_at_ok hn h2)).2.1; omega
    · exact len_numT h
  rw [len_sp] at a
  have e : (wordsQ ns q).length = 3 := rfl
  rw [e] at a b
  show (Str.join (Str.ofString " ") (wordsQ ns q)).length ≤ 50
  omega
theorem len_wtext {ns : List Str} {T : List Tri} (hn : NmOk ns) (hT : TriOk ns.length T) (hl : T.length ≤ 40) : (wtext ns T).length ≤ 3000 ∧ ((headS ns :: T.map (lineS ns)).map (·.length)).sum + (headS ns :: T.map (lineS ns)).length * (Str.ofString "\n").length ≤ 16777216 := by
  have a := join_len (Str.ofString "\n") (headS ns :: T.map (lineS ns))
  have h := len_headS hn
  have b := sum_le (l := T.map (lineS ns)) (m := 50) fun x hx => by
    obtain ⟨q, hq, e⟩ := List.mem_map.mp hx
    subst e
    obtain ⟨h1, h2, _, _, h5⟩ := hT.ok q hq
    exact len_lineS hn h1 h2 h5
  rw [List.length_map] at b
  rw [len_nl] at a ⊢
  rw [List.map_cons, List.sum_cons, List.length_cons, List.length_map] at a ⊢
  refine ⟨?_, by omega⟩
  show (Str.join (Str.ofString "\n") (headS ns :: T.map (lineS ns))).length ≤ 3000
  omega
theorem log_nat {n : Nat} (h : n ≤ 1000000) : ((n : Nat) : Int).natAbs.log2 < 1920 := by
  rw [Int.natAbs_natCast]
  by_cases z : n = 0
  · subst z; decide
  · exact Nat.lt_of_lt_of_le ((Nat.log2_lt z).mpr (show n < 2 ^ 20 by omega)) (by decide)

local macro_rules | `(tactic| walk_at "D1") => `(tactic| first
  | walk_at "d1"
  | (with_reducible refine' we_fld ?_)
  | ((with_reducible refine' ex_fld ?h1 ?h2 ?h3 ?h4 ?q); (case h1 => rfl); (case h2 => exact XF.cls_Web (by assumption)); (case h4 => first | exact look_sp | exact look_nm | exact look_ln); (case h3 => first | exact XF.na_Web_spots (by assumption) | exact XF.na_Web_names (by assumption) | exact XF.na_Web_lengths (by assumption)))
  | (with_reducible refine' we_meth ?_)
  | (with_reducible refine' we_methX ?_)
  | (with_reducible refine' we_methX0 ?_)
  | (with_reducible refine' we_callX ?_)
  | (with_reducible refine' we_callX0 ?_)
  | (with_reducible refine' ex_cx1 ?_)
  | (with_reducible refine' ex_cx2 ?_)
  | (with_reducible refine' ex_cx3 ?_)
  | (with_reducible refine' ex_cx4 ?_)
  | (with_reducible refine' web_m (by decide +kernel) (by decide +kernel) (by decide +kernel) ?_)
  | ((with_reducible refine' ex_callM ?h1 ?h2 ?q); (case h1 => repeat first | exact toAs_nil | apply toAs_d | apply toAs_b rfl); (case h2 => first | exact List.nodup_nil | exact List.nodup_singleton _ | simp [owned])))
local macro_rules | `(tactic| walk_at "D") => `(tactic| repeat walk_at "D1")

theorem ws_tie_in : WsC (Fx := XF) S_tie_in t_tie_in [.no] := by
  rintro K cn as Φ fx ⟨ws, rfl, hl, hn, h⟩
  unfold t_tie_in
  walk_at "d0"
  walk_at "d"
  rw [List.length_map]
  refine br_n (fun q => ?_) (fun q => ?_)
  · have e : tieZ ws = none := by
      unfold tieZ
      split
      · exact absurd rfl q
      · rfl
    rw [e] at h
    walk_at "d"
    exact ⟨trivial, h⟩
  · obtain ⟨a, b, c, rfl⟩ : ∃ a b c, ws = [a, b, c] := by
      match ws, q with
      | [a, b, c], _ => exact ⟨a, b, c, rfl⟩
    have ha : anyD (.str a) := ⟨rfl, hl a (by simp)⟩
    have hb : anyD (.str b) := ⟨rfl, hl b (by simp)⟩
    have hc : anyD (.str c) := ⟨rfl, hl c (by simp)⟩
    walk_at "d"
    refine use_is_name ha ?_
    have na : nameB (.str a) = nmOk a := rfl
    have nb : nameB (.str b) = nmOk b := rfl
    have bad : ¬ (nmOk a = true ∧ nmOk b = true) → tieZ [a, b, c] = none := fun z => if_neg z
    rw [na]
    walk_at "d"
    refine br_not (br (fun h1 => ?_) (fun h1 => ?_))
    · walk_at "d"
      refine use_is_name hb ?_
      rw [nb]
      walk_at "d"
      refine br_not (br (fun h2 => ?_) (fun h2 => ?_))
      · walk_at "d"
        refine use_number_in hc ?_
        have e : tieZ [a, b, c] = match numIn (.str c) 0 mostR with
          | .int n => some (.tup [.str a, .str b, .int n])
          | _ => none := if_pos ⟨h1, h2⟩
        rw [show (999999999999999999999999999999 : Int) = mostR from rfl]
        have hnum : (∃ n, numIn (.str c) 0 mostR = .int n) ∨ numIn (.str c) 0 mostR = .non := by
          show (∃ n, numS _ _ _ = _) ∨ numS _ _ _ = _
          unfold numS
          split
          · exact .inl ⟨_, rfl⟩
          · exact .inr rfl
        rcases hnum with ⟨n, e2⟩ | e2
        · rw [e2] at e ⊢
          rw [e] at h
          walk_at "d"
          walk_at "ds"
          walk_at "d"
          exact ⟨trivial, h⟩
        · rw [e2] at e ⊢
          rw [e] at h
          walk_at "d"
          walk_at "ds"
          walk_at "d"
          exact ⟨trivial, h⟩
      · rw [bad (fun z => by rw [h2] at z; exact Bool.false_ne_true z.2)] at h
        walk_at "d"
        exact ⟨trivial, h⟩
    · rw [bad (fun z => by rw [h1] at z; exact Bool.false_ne_true z.1)] at h
      walk_at "d"
      exact ⟨trivial, h⟩
section
variable {P : R → List Sl → Prop}
theorem use_tie_in {ws : List Str} (h1 : ∀ w ∈ ws, w.length ≤ 16000000) (h2 : ws.length ≤ 16000000) (q : P (.d ((tieZ ws).getD .non)) [.d (.lst (ws.map .str))]) :
    ∀ Ψ : R → List Sl → Prop, (∀ r as', ownOut r → P r as' → Ψ r as') → S_tie_in [.d (.lst (ws.map .str))] Ψ := fun Ψ k => ⟨ws, rfl, h1, h2, k _ _ trivial q⟩
end
theorem split_ne (x : Str) {y : Str} (hy : tl y ≠ []) (hk : y.cps.all (· < 256) = true) : Txt.split x y ≠ [] := by
  intro e
  have a := split_spl x y hy (kind_ok hk)
  rw [e] at a
  have key : ∀ (L : List Nat) (k : Nat) (acc : List Nat), spl (tl y) k acc L ≠ [] := by
    intro L
    induction L with
    | nil => intro k acc; rw [spl_nil]; exact List.cons_ne_nil _ _
    | cons c L ih =>
      intro k acc
      cases k with
      | zero =>
        show (if pre (tl y) (c :: L) = true then acc :: spl (tl y) ((tl y).length - 1) [] L else spl (tl y) 0 (acc ++ [c]) L) ≠ []
        split
        · exact List.cons_ne_nil _ _
        · exact ih _ _
      | succ k => exact ih k acc
  exact key _ _ _ a.symm
theorem part_len {y : Str} : ∀ {ps : List Str} {p : Str}, p ∈ ps → p.length ≤ (Str.join y ps).length
  | [q], p, h => by rw [List.mem_singleton.mp h]; exact Nat.le_refl _
  | q :: r :: s, p, h => by
    show p.length ≤ (q ++ y ++ Str.join y (r :: s)).length
    rw [len_app, len_app]
    rcases List.mem_cons.mp h with e | e
    · rw [e]; omega
    · have := part_len (y := y) e; omega
theorem many_len {y : Str} (hy : 1 ≤ y.length) : ∀ ps : List Str, ps.length ≤ (Str.join y ps).length + 1
  | [] => Nat.zero_le _
  | [q] => by show 1 ≤ _; omega
  | q :: r :: s => by
    have := many_len hy (r :: s)
    show (r :: s).length + 1 ≤ (q ++ y ++ Str.join y (r :: s)).length + 1
    rw [len_app, len_app]
    omega
theorem part_in {y : Str} {c : Nat} : ∀ {ps : List Str} {p : Str}, p ∈ ps → c ∈ tl p → c ∈ tl (Str.join y ps)
  | [q], p, h, hc => by rw [List.mem_singleton.mp h] at hc; exact hc
  | q :: r :: s, p, h, hc => by
    show c ∈ tl (q ++ y ++ Str.join y (r :: s))
    rw [tl_append, tl_append]
    rcases List.mem_cons.mp h with e | e
    · rw [e] at hc; exact List.mem_append_left _ (List.mem_append_left _ hc)
    · exact List.mem_append_right _ (part_in (y := y) e hc)
def lineD (ws : List Str) : D := .lst (ws.map .str)
theorem strOk_low {x : Str} (h : ∀ c ∈ tl x, c < 1114112) : PyData.strOk x = true := by
  unfold PyData.strOk
  rw [← Array.all_toList, List.all_eq_true]
  intro c hc
  exact decide_eq_true (h c hc)
theorem eq_strs0 {l : List Str} (ok : ∀ s ∈ l, PyData.strOk s = true) {k : R → Prop} (t : l = [] → k (.d (.bl true))) (n : l ≠ [] → k (.d (.bl false))) : dEqF id (.lst (l.map .str)) (.lst []) k := by
  have a := pure0s_map (f := D.str) (l := l) fun x hx => by unfold pure0; exact ok x hx
  have b : dpts (l.map D.str) ≤ 0 := dpts_map fun _ _ => Nat.le_refl _
  refine dEq_p (by simp [pure0, a]) (by simp [pure0, pure0s]) (by unfold dpt; omega) (by simp [dpt, dpts]) (fun e => t ?_) (fun e => n fun z => e (by rw [z]; rfl))
  exact List.map_eq_nil_iff.mp (D.lst.inj e)
def nmK : D → Option D
  | d => some (.bl (nameB d))
theorem enum_anyT {xs : List D} {j : Nat} {d : D} (h : (enumD xs)[j]? = some d) : ∃ x, d = .tup [.int (j : Nat), x] ∧ xs[j]? = some x := by
  unfold enumD at h
  rw [List.getElem?_map] at h
  by_cases hj : j < xs.length
  · rw [List.getElem?_range hj] at h
    have e := List.getElem?_eq_getElem hj
    refine ⟨xs[j], ?_, e⟩
    rw [← Option.some.inj h]
    show D.tup [.int (j : Nat), xs.getD j .non] = _
    rw [List.getD_eq_getElem?_getD, e]
    rfl
  · rw [List.getElem?_eq_none (by rw [List.length_range]; omega)] at h
    cases h
theorem tieZ_tup {ws : List Str} {t : D} (h : tieZ ws = some t) : ∃ a b n, t = .tup [.str a, .str b, .int n] := by
  unfold tieZ at h
  split at h
  · split at h
    · split at h
      · exact ⟨_, _, _, (Option.some.inj h).symm⟩
      · cases h
    · cases h
  · cases h
theorem tieZ_any {ws : List Str} {es : List D} (h : tieZ ws = some (.tup es)) : ∀ d ∈ es, anyD d := by
  unfold tieZ at h
  split at h
  · split at h
    · rename_i hn
      split at h
      · have e := D.tup.inj (Option.some.inj h)
        subst e
        intro d hd
        have la := (nm_is hn.1).2.1
        have lb := (nm_is hn.2).2.1
        rcases List.mem_cons.mp hd with e | hd
        · subst e; exact ⟨rfl, by show _ ≤ _; omega⟩
        rcases List.mem_cons.mp hd with e | hd
        · subst e; exact ⟨rfl, by show _ ≤ _; omega⟩
        rw [List.mem_singleton.mp hd]; exact ⟨rfl, trivial⟩
      · cases h
    · cases h
  · cases h
theorem ws_read_web (cn0 : Cn) : WsXC (Fx := fun K cn => XF K cn ∧ cn = cn0) (S_read_web cn0) t_read_web [.no, .no, .no, .no, .no, .no, .no, .no] := by
  rintro K cn Wx as Φ Y ⟨fx, rfl⟩ ⟨x, rfl, hx, hlen, hno, h⟩
  unfold t_read_web
  walk_at "d0"
  walk_at "D"
  cases x with
  | str z =>
    obtain ⟨hz, hzc⟩ := hlen z rfl
    walk_at "D"
    refine we_lc (wi_any ?_)
    walk_at "D"
    have jn := PySem.StrLaws.join_split z (Str.ofString "\n")
    have n1 := many_len (y := Str.ofString "\n") (by rw [len_nl]; exact Nat.le_refl 1) (Txt.split z (Str.ofString "\n"))
    rw [jn] at n1
    have hpl : ∀ l ∈ Txt.split z (Str.ofString "\n"), l.length ≤ z.length ∧ ∀ c ∈ tl l, c < 1114112 := fun l hl => by
      have a := part_len (y := Str.ofString "\n") hl
      rw [jn] at a
      refine ⟨a, fun c hc => hzc c ?_⟩
      have b := part_in (y := Str.ofString "\n") hl hc
      rwa [jn] at b
    have hwl : ∀ ws ∈ linesZ z, ws ≠ [] ∧ ws.length ≤ z.length + 1 ∧ ∀ w ∈ ws, w.length ≤ z.length ∧ ∀ c ∈ tl w, c < 1114112 := fun ws hws => by
      obtain ⟨l, hl, e⟩ := List.mem_map.mp hws
      have hl2 := hpl l hl
      have jn2 := PySem.StrLaws.join_split l (Str.ofString " ")
      have n2 := many_len (y := Str.ofString " ") (by rw [len_sp]; exact Nat.le_refl 1) (Txt.split l (Str.ofString " "))
      rw [jn2] at n2
      subst e
      refine ⟨split_ne l (by rw [tl_sp]; exact List.cons_ne_nil _ _) kind_sp, ?_, fun w hw => ?_⟩
      · show (Txt.split l (Str.ofString " ")).length ≤ _
        omega
      · have a := part_len (y := Str.ofString " ") hw
        rw [jn2] at a
        refine ⟨by omega, fun c hc => hl2.2 c ?_⟩
        have b := part_in (y := Str.ofString " ") hw hc
        rwa [jn2] at b
    refine ⟨by decide +kernel, by omega, fun l => ?_⟩
    refine ⟨_, _, rfl, rfl, by rw [List.length_map]; omega, fun j acc δ' => acc = ((linesZ z).take j).map lineD ∧ δ' = [.d (.str z), .no, .no, .no, .no, .no, .no, .no, .no], ⟨rfl, rfl⟩, ⟨trivial, trivial⟩, ?_, ?_⟩
    · rintro j d acc ε hd hal ⟨rfl, rfl⟩
      rw [List.getElem?_map] at hd
      cases e : (Txt.split z (Str.ofString "\n"))[j]? with
      | none => rw [e] at hd; cases hd
      | some ln =>
        rw [e] at hd
        have hd := Option.some.inj hd
        subst hd
        have hln := hpl ln (List.mem_of_getElem? e)
        refine ⟨⟨trivial, trivial⟩, wgc_name (by simp) rfl ?_⟩
        walk_at "D"
        refine ⟨by decide +kernel, by omega, fun l2 => ?_⟩
        refine ⟨_, rfl, fun ε4 e4 => ?_⟩
        subst e4
        refine ⟨?_, rfl⟩
        have e2 : (linesZ z)[j]? = some (Txt.split ln (Str.ofString " ")) := by unfold linesZ; rw [List.getElem?_map]; show Option.map _ (Txt.split z (Str.ofString "\n"))[j]? = _; rw [e]; rfl
        rw [List.take_add_one, e2, List.map_append]
        rfl
    rintro acc δ' hal ⟨rfl, rfl⟩ a
    have hll : (linesZ z).length = (Txt.split z (Str.ofString "\n")).length := by unfold linesZ; rw [List.length_map]
    rw [List.length_map, ← hll, List.take_length]
    refine wg_frz ?_
    walk_at "k"
    refine wg_nameN rfl rfl ?_
    walk_at "k"
    cases eL : linesZ z with
    | nil => rw [eL] at hll; exact absurd (List.eq_nil_of_length_eq_zero hll.symm) (split_ne z (by rw [tl_nl]; exact List.cons_ne_nil _ _) kind_nl)
    | cons hd L =>
      rw [eL] at hwl hll
      obtain ⟨h1, h2, h3⟩ := hwl hd List.mem_cons_self
      cases hd with
      | nil => exact absurd rfl h1
      | cons h0 ht =>
        obtain ⟨hB, hG⟩ := h z (h0 :: ht) L rfl eL
        have h00 : ∀ {k : R → Prop}, k (.d (lineD (h0 :: ht))) → dIxC (.lst (((h0 :: ht) :: L).map lineD)) (.int 0) k := fun q => dIxC_l (show atI (((h0 :: ht) :: L).map lineD) ((0 : Nat) : Int) = _ from atI_nat rfl) q
        have h01 : ∀ {k : R → Prop}, k (.d (.str h0)) → dIxC (lineD (h0 :: ht)) (.int 0) k := fun q => dIxC_l (show atI ((h0 :: ht).map D.str) ((0 : Nat) : Int) = _ from atI_nat rfl) q
        walk_at "D"
        refine h00 ?_
        walk_at "q"
        rw [show DL.cutD ((h0 :: ht).map D.str) (some 1) none = ht.map D.str from cutD1 (n := 1) (by omega)]
        refine w_frz 3 rfl ?_
        walk_at "k"
        have hok : ∀ s ∈ ht, PyData.strOk s = true := fun s hs => strOk_low (h3 s (List.mem_cons_of_mem _ hs)).2
        refine w_seq ?_
        refine w_join (fun δ' => (h0 = "places" ∧ ht ≠ [] ∧ ∀ p ∈ ht, nmOk p = true) ∧ δ' = [.d (.str z), .d (.lst (((h0 :: ht) :: L).map lineD)), .no, .d (.lst (ht.map .str)), .no, .no, .no, .no, .no]) ?_ ?_
        · have bad : ¬ (h0 = "places" ∧ ht ≠ [] ∧ ∀ p ∈ ht, nmOk p = true) → Y XBadLine (.int 0) := fun n => hB fun ⟨e1, e2, e3⟩ => n ⟨Option.some.inj e1, e2, e3⟩
          walk_at "D"
          refine h00 ?_
          walk_at "D"
          refine h01 ?_
          walk_at "D"
          refine br_n (fun q1 => ?_) (fun q1 => ?_)
          · walk_at "D"
            refine w_raiseN fx.all_BadLine fx.fl_BadLine ?_
            walk_at "d"
            exact ⟨_, rfl, bad (fun n => q1 n.1), trivial, rfl⟩
          walk_at "D"
          refine eq_strs0 hok (fun q2 => ?_) (fun q2 => ?_)
          · walk_at "D"
            refine w_raiseN fx.all_BadLine fx.fl_BadLine ?_
            walk_at "d"
            exact ⟨_, rfl, bad (fun n => n.2.1 q2), trivial, rfl⟩
          walk_at "D"
          refine we_lc (wi_any ?_)
          walk_at "D"
          have hhl : ht.length ≤ 99999 := by rw [List.length_cons] at h2; omega
          refine ⟨_, _, rfl, rfl, by rw [List.length_map]; omega, fun j acc δ' => acc = (ht.take j).map (fun x => D.bl (nmOk x)) ∧ δ' = [.d (.str z), .d (.lst (((h0 :: ht) :: L).map lineD)), .no, .d (.lst (ht.map .str)), .no, .no, .no, .no, .no], ⟨rfl, rfl⟩, ⟨trivial, trivial⟩, ?_, ?_⟩
          · rintro j d acc ε hd hal ⟨rfl, rfl⟩
            obtain ⟨x, rfl, hx'⟩ := strs_get hd
            refine ⟨⟨trivial, trivial⟩, wgc_name (by simp) rfl ?_⟩
            walk_at "D"
            refine use_is_name ⟨rfl, by have := (h3 x (List.mem_cons_of_mem _ (List.mem_of_getElem? hx'))).1; show x.length ≤ _; omega⟩ ?_
            walk_at "D"
            exact ⟨by rw [List.take_add_one, hx', List.map_append]; rfl, rfl⟩
          rintro acc δ' hal ⟨rfl, rfl⟩ a4
          rw [List.length_map, List.take_length]
          walk_at "D"
          have hbl : blsD (ht.map fun x => D.bl (nmOk x)) = some (ht.map nmOk) := by
            have := blsD_map (ht.map nmOk)
            rw [List.map_map] at this
            exact this
          refine ⟨_, rfl, _, _, rfl, hbl, ?_⟩
          walk_at "D"
          have hall : (ht.map nmOk).all id = true ↔ ∀ p ∈ ht, nmOk p = true := by
            rw [List.all_map, List.all_eq_true]
            exact Iff.rfl
          refine br_not (br (fun q3 => ?_) (fun q3 => ?_))
          · walk_at "x"
            exact ⟨⟨q1, q2, hall.mp q3⟩, rfl⟩
          · walk_at "D"
            refine w_raiseN fx.all_BadLine fx.fl_BadLine ?_
            walk_at "d"
            exact ⟨_, rfl, bad (fun n => by rw [hall.mpr n.2.2] at q3; cases q3), trivial, rfl⟩
        rintro δ' ⟨hgood, rfl⟩
        obtain ⟨hL, hP⟩ := hG ⟨by rw [hgood.1]; rfl, hgood.2.1, hgood.2.2⟩
        walk_at "D"
        rename_i b5
        have hhl : ht.length ≤ 99999 := by rw [List.length_cons] at h2; omega
        have hLl : L.length ≤ 99999 := by rw [List.length_cons] at hll; omega
        refine w_for (wi_enum ?_)
        walk_at "D"
        refine ⟨_, rfl, ?_⟩
        rw [show DL.cutD (((h0 :: ht) :: L).map lineD) (some 1) none = L.map lineD from cutD1 (n := 1) (by omega)]
        refine ⟨fun j δ' => ∃ ds s6 s7 s8, δ' = [.d (.str z), .d (.lst (((h0 :: ht) :: L).map lineD)), .no, .d (.lst (ht.map .str)), .no, .own b5 (.lst ds), s6, s7, s8] ∧ (L.take j).map tieZ = ds.map some, ⟨[], _, _, _, rfl, rfl⟩, fun j d δ' hd ⟨ds, s6, s7, s8, e, q⟩ => ?_, fun δ' ⟨ds, s6, s7, s8, e, q⟩ => ?_⟩
        · obtain ⟨u, rfl, hu⟩ := enum_anyT hd
          rw [List.getElem?_map] at hu
          cases e2 : L[j]? with
          | none => rw [e2] at hu; cases hu
          | some ws =>
            rw [e2] at hu
            have hu := Option.some.inj hu
            subst hu e
            obtain ⟨w1, w2, w3⟩ := hwl ws (List.mem_cons_of_mem _ (List.mem_of_getElem? e2))
            rw [show lineD ws = .lst (ws.map .str) from rfl]
            walk_at "D"
            refine use_tie_in (fun w hw => by have := (w3 w hw).1; omega) (by omega) ?_
            have hjl := (List.getElem?_eq_some_iff.mp e2).1
            cases et : tieZ ws with
            | none =>
              rw [show (none : Option D).getD .non = .non from rfl]
              walk_at "D"
              walk_at "ds"
              walk_at "D"
              refine w_raiseN fx.all_BadLine fx.fl_BadLine ?_
              walk_at "d"
              rw [show ((j : Nat) : Int) + 1 = ((j + 1 : Nat) : Int) by omega]
              refine ⟨_, rfl, hL j ws e2 et fun i us hi hus e9 => ?_, trivial, rfl⟩
              have := congrArg (fun l => l[i]?) q
              simp only [List.getElem?_map, List.getElem?_take_of_lt hi, hus, Option.map_some, e9] at this
              cases hds : ds[i]? with
              | none => rw [hds] at this; cases this
              | some y => rw [hds] at this; cases this
            | some t =>
              obtain ⟨ta, tb, tn, rfl⟩ := tieZ_tup et
              rw [show (some (D.tup [.str ta, .str tb, .int tn])).getD .non = D.tup [.str ta, .str tb, .int tn] from rfl]
              have hdl : ds.length ≤ 99999 := by
                have := congrArg List.length q
                rw [List.length_map, List.length_map, List.length_take] at this
                omega
              walk_at "D"
              walk_at "ds"
              walk_at "D"
              refine ⟨_, _, _, _, rfl, ?_⟩
              rw [List.take_add_one, e2, List.map_append, List.map_append, q]
              show _ ++ [tieZ ws] = _
              rw [et]
              rfl
        · subst e
          rw [enum_len, List.length_map, List.take_length] at q
          refine w_frz 5 rfl ?_
          walk_at "k"
          have hP := hP ds q
          have a1 : anyS (.lst (ht.map .str)) := ⟨⟨rfl, trivial⟩, fun es e d hd => by
            cases e
            obtain ⟨x, hx', e⟩ := List.mem_map.mp hd
            subst e
            exact ⟨rfl, by have := (h3 x (List.mem_cons_of_mem _ hx')).1; show x.length ≤ _; omega⟩⟩
          have hds : ∀ d ∈ ds, ∃ ws, tieZ ws = some d := fun d hd => by
            have hm : some d ∈ ds.map some := List.mem_map_of_mem hd
            rw [← q] at hm
            obtain ⟨ws, _, e⟩ := List.mem_map.mp hm
            exact ⟨ws, e⟩
          have a2 : anyT (.lst ds) := ⟨⟨⟨rfl, trivial⟩, fun es e d hd => by
            cases e
            obtain ⟨ws, e⟩ := hds d hd
            obtain ⟨ta, tb, tn, rfl⟩ := tieZ_tup e
            exact ⟨rfl, trivial⟩⟩, fun es e us hus d hd => by
            cases e
            obtain ⟨ws, e⟩ := hds _ hus
            exact tieZ_any e d hd⟩
          walk_at "D"
          refine we_makeX ?_
          walk_at "D"
          refine fun P Y' k1 k2 => ⟨_, _, _, .lst (ht.map .str), .lst ds, rfl, .d, .d, a1, a2, ?_⟩
          have hP : match placesR (.lst (ht.map .str)) with
            | .inl (n, y) => Y n y
            | .inr ns => match tiesR ns (.lst ds) with
              | .inl (n, y) => Y n y
              | .inr M => ∀ b, Φ (.own b (webD (cn.ad CWeb) ns M)) [.d (.str z)] := hP
          cases ep : placesR (.lst (ht.map .str)) with
          | inl e =>
            rw [ep] at hP
            obtain ⟨n, y⟩ := e
            exact ⟨rfl, rfl, k2 _ _ ⟨hP, trivial, rfl⟩⟩
          | inr ns =>
            rw [ep] at hP
            dsimp only at hP ⊢
            cases et : tiesR ns (.lst ds) with
            | inl e =>
              rw [et] at hP
              obtain ⟨n, y⟩ := e
              exact ⟨rfl, rfl, k2 _ _ ⟨hP, trivial, rfl⟩⟩
            | inr M =>
              rw [et] at hP
              refine k1 _ _ _ (.own _) ?_
              exact ⟨trivial, hP _⟩
  | _ => first
    | (have := hx.1; cases this; done)
    | (walk_at "d"
       walk_at "ds"
       walk_at "d"
       refine w_raiseN fx.all_NoText fx.fl_NoText ?_
       walk_at "d"
       exact ⟨_, rfl, hno (fun z e => nomatch e), trivial, rfl⟩)

def nkK (L : List Nat) : D → Option D
  | .str s => if sgn s ∈ L then none else some (.str s)
  | _ => none
theorem nk_strs (z : Str) (L : List Nat) : (signsD z).filterMap (nkK L) = (((tl z).filter fun ch => decide (ch ∉ L)).map fun ch => (⟨#[ch]⟩ : Str)).map D.str := by
  unfold signsD
  rw [List.filterMap_map, List.map_map]
  show List.filterMap (fun ch => if ch ∈ L then none else some (D.str ⟨#[ch]⟩)) (tl z) = _
  generalize tl z = l
  induction l with
  | nil => rfl
  | cons a l ih =>
    rw [List.filterMap_cons, List.filter_cons, ih]
    by_cases h : a ∈ L
    · rw [if_pos h, if_neg (by simp [h])]
    · rw [if_neg h, if_pos (by simp [h])]; rfl
theorem nk_nil (z : Str) (L : List Nat) : (((tl z).filter fun ch => decide (ch ∉ L)).map fun ch => (⟨#[ch]⟩ : Str)) = [] ↔ ((tl z).all fun ch => decide (ch ∈ L)) = true := by
  rw [List.map_eq_nil_iff, List.filter_eq_nil_iff, List.all_eq_true]
  simp
theorem eq_nkF {f : Bool → Bool} {z : Str} {L : List Nat} (hz : ∀ c ∈ tl z, c < 1114112) {k : R → Prop} (t : ((tl z).all fun ch => decide (ch ∈ L)) = true → k (.d (.bl (f true)))) (n : ((tl z).all fun ch => decide (ch ∈ L)) = false → k (.d (.bl (f false)))) : dEqF f (.lst ((signsD z).filterMap (nkK L))) (.lst []) k := by
  rw [nk_strs]
  have hok : ∀ s ∈ ((tl z).filter fun ch => decide (ch ∉ L)).map fun ch => (⟨#[ch]⟩ : Str), PyData.strOk s = true := fun s hs => by
    obtain ⟨c, hc, rfl⟩ := List.mem_map.mp hs
    have := hz c (List.mem_filter.mp hc).1
    unfold PyData.strOk
    simpa using this
  have a := pure0s_map (f := D.str) fun x hx => by unfold pure0; exact hok x hx
  have b : dpts ((((tl z).filter fun ch => decide (ch ∉ L)).map fun ch => (⟨#[ch]⟩ : Str)).map D.str) ≤ 0 := dpts_map fun _ _ => Nat.le_refl _
  refine dEq_p (by unfold pure0; exact a) (by simp [pure0, pure0s]) (by unfold dpt; omega) (by simp [dpt, dpts]) (fun e => t ?_) (fun e => n ?_)
  · exact (nk_nil z L).mp (List.map_eq_nil_iff.mp (D.lst.inj e))
  · exact Bool.eq_false_iff.mpr fun q => e (by rw [(nk_nil z L).mpr q]; rfl)
theorem ws_l_is_name : WsC (Fx := XF) S_l_is_name t_l_is_name [.no] := by
  rintro K cn as Φ fx ⟨z, rfl, hz, hc, h⟩
  unfold t_l_is_name
  walk_at "d0"
  walk_at "d"
  have fin : ∀ {P : Prop} (b : Bool), nmOk z = b → (Φ (.d (.bl b)) [.d (.str z)] → P) → P := fun b e k => k (by rw [← e]; exact h)
  refine br_d (fun h1 => ?_) (fun h1 => ?_)
  · walk_at "d"
    refine br_not (br_d (fun h2 => ?_) (fun h2 => ?_))
    · walk_at "d"
      refine we_lcP (wi_any ?_)
      walk_at "d"
      refine ex_it rfl rfl ?_
      refine ⟨⟨trivial, trivial⟩, ?_, nkK lettersL, fun i d hd => ?_, fun a => ?_⟩
      · unfold signsD
        rw [List.length_map, ← len_tl]
        omega
      · obtain ⟨ch, rfl, _⟩ := signsD_get hd
        refine wgc_name (by simp) rfl ?_
        walk_at "d"
        refine br_n (fun h3 => ?_) (fun h3 => ?_)
        · walk_at "d"
          simp only [nkK]; exact if_neg h3
        · simp only [nkK]
          exact if_pos h3
      · walk_at "d"
        have e : nmOk z = (tl z).all fun ch => decide (ch ∈ lettersL) := by
          simp only [nmOk, show decide (1 ≤ z.length) = true from decide_eq_true (by omega), show decide (z.length ≤ 6) = true from decide_eq_true (by omega), Bool.true_and]
        refine eq_nkF hc (fun q => ?_) (fun q => ?_)
        · exact ⟨trivial, fin true (by rw [e, q]) id⟩
        · exact ⟨trivial, fin false (by rw [e, q]) id⟩
    · walk_at "d"
      exact ⟨trivial, fin false (by simp only [nmOk, show decide (z.length ≤ 6) = false from decide_eq_false (by omega), Bool.and_false, Bool.false_and]) id⟩
  · walk_at "d"
    exact ⟨trivial, fin false (by simp only [nmOk, show decide (1 ≤ z.length) = false from decide_eq_false (by omega), Bool.false_and]) id⟩
theorem occ_dig {ch : Nat} (h : 48 ≤ ch ∧ ch ≤ 57) : ∃ rest, Builtin.Str.occurrences (Str.ofString "0123456789") ⟨#[ch]⟩ 0 (Str.ofString "0123456789").length 1 = (ch - 48) :: rest := by
  have all : ∀ c ∈ figuresL, Builtin.Str.occurrences (Str.ofString "0123456789") ⟨#[c]⟩ 0 (Str.ofString "0123456789").length 1 = [c - 48] := by decide +kernel
  exact ⟨[], all ch (digits_mem.mpr h)⟩
theorem ws_l_number : WsC (Fx := XF) S_l_number t_l_number [.no, .no] := by
  rintro K cn as Φ fx ⟨z, rfl, hz, hc, h⟩
  unfold t_l_number
  walk_at "d0"
  walk_at "d"
  have bad : ∀ {P : Prop}, okNum z = false → (Φ (.d .non) [.d (.str z)] → P) → P := fun e k => k (by rw [e, if_neg Bool.false_ne_true] at h; exact h)
  refine br_d (fun h1 => ?_) (fun h1 => ?_)
  · walk_at "d"
    refine br_not (br_d (fun h2 => ?_) (fun h2 => ?_))
    · have d1 : decide (1 ≤ z.length) = true := decide_eq_true (by omega)
      have d2 : decide (z.length ≤ 30) = true := decide_eq_true (by omega)
      walk_at "d"
      refine we_lcP (wi_any ?_)
      walk_at "d"
      refine ex_it rfl rfl ?_
      refine ⟨⟨trivial, trivial⟩, ?_, nkK figuresL, fun i d hd => ?_, fun a => ?_⟩
      · unfold signsD
        rw [List.length_map, ← len_tl]
        omega
      · obtain ⟨ch, rfl, _⟩ := signsD_get hd
        refine wgc_name (by simp) rfl ?_
        walk_at "d"
        refine br_n (fun h3 => ?_) (fun h3 => ?_)
        · walk_at "d"
          simp only [nkK]; exact if_neg h3
        · simp only [nkK]
          exact if_pos h3
      · walk_at "d"
        refine eq_nkF hc (fun h5 => ?_) (fun h5 => ?_)
        · walk_at "d"
          obtain ⟨ch, hch, hh⟩ := head_atI (z := z) (by omega)
          have hh2 : (tl z).head? = some ch := hh
          refine dIxC_s (by omega) hch ?_
          walk_at "d"
          have go : okNum z = true → W (c0 K) (tSeq (tAsg (tC (.int 0)) (gName 2)) (tSeq (tFor (iAny K (tVar 0)) (gName 1) (tAsg (tOp rAddA (tOp rMulB (tC (.int 10)) (tVar 2)) (tBM K "str" rSIndex (tC (.str "0123456789")) (tCons (tVar 1) tNil))) (gName 2))) (tRet (tVar 2)))) [.d (.str z), .no, .no] (RetD [Sl.d (D.str z)] Φ (R.d D.non)) (RetD [Sl.d (D.str z)] Φ) (fun _ => False) (fun _ => False) := fun ok => by
            walk_at "d"
            refine w_for (wi_any ?_)
            walk_at "d"
            refine ex_it rfl rfl ?_
            refine ⟨fun i δ' => ∃ s1, δ' = [.d (.str z), s1, .d (.int ((NumText.digitsVal ((tl z).take i) : Nat) : Int))], ⟨_, rfl⟩, fun i d δ' hd ⟨s1, e⟩ => ?_, fun δ' ⟨s1, e⟩ => ?_⟩
            · obtain ⟨c, rfl, hcc⟩ := signsD_get hd
              subst e
              have tk : (tl z).take (i + 1) = (tl z).take i ++ [c] := take_get hcc
              have hm : c ∈ figuresL := of_decide_eq_true (List.all_eq_true.mp h5 c (List.mem_of_getElem? hcc))
              obtain ⟨rest, ho⟩ := occ_dig (digits_mem.mp hm)
              walk_at "d"
              refine ⟨_, _, _, _, rfl, rfl, ho, ?_⟩
              walk_at "d"
              have e : (10 : Int) * ((NumText.digitsVal ((tl z).take i) : Nat) : Int) + ((c - 48 : Nat) : Int) = ((NumText.digitsVal ((tl z).take (i + 1)) : Nat) : Int) := by
                rw [tk]
                unfold NumText.digitsVal
                rw [List.foldl_append]
                simp only [List.foldl_cons, List.foldl_nil]
                omega
              rw [e]
              exact ⟨_, rfl⟩
            · subst e
              have el : (signsD z).length = (tl z).length := by unfold signsD; rw [List.length_map]
              rw [el, List.take_length]
              walk_at "d"
              rw [ok, if_pos rfl] at h
              exact ⟨trivial, h⟩
          refine br_d (fun h6 => ?_) (fun h6 => ?_)
          · have hc48 := (one_zero ch).mp h6
            subst hc48
            walk_at "d"
            refine br_n (fun h7 => ?_) (fun h7 => ?_)
            · walk_at "d"
              rw [eq_zero hh, Decidable.not_not] at h7
              exact ⟨trivial, bad (by simp only [okNum, hh2, h7, decide_true, Bool.and_true, Bool.not_true, Bool.and_false]) id⟩
            · rw [eq_zero hh] at h7
              walk_at "x"
              exact go (by simp only [okNum, d1, d2, h5, show decide (1 < z.length) = false from decide_eq_false h7, Bool.and_false, Bool.not_false, Bool.true_and])
          · have h7 : ch ≠ 48 := fun q => h6 ((one_zero ch).mpr q)
            walk_at "x"
            exact go (by simp only [okNum, d1, d2, h5, hh2, show decide ((some ch) = some 48) = false from decide_eq_false (fun e => h7 (Option.some.inj e)), Bool.false_and, Bool.not_false, Bool.true_and])
        · walk_at "d"
          exact ⟨trivial, bad (by simp only [okNum, h5, Bool.and_false, Bool.false_and]) id⟩
    · walk_at "d"
      exact ⟨trivial, bad (by simp only [okNum, show decide (z.length ≤ 30) = false from decide_eq_false (by omega), Bool.and_false, Bool.false_and]) id⟩
  · walk_at "d"
    exact ⟨trivial, bad (by simp only [okNum, show decide (1 ≤ z.length) = false from decide_eq_false (by omega), Bool.false_and]) id⟩

theorem dig_lt : ∀ (L : List Nat) (a : Nat), (∀ c ∈ L, 48 ≤ c ∧ c ≤ 57) → L.foldl (fun n c => n * 10 + (c - 48)) a < (a + 1) * 10 ^ L.length
  | [], a, _ => by simp
  | c :: L, a, h => by
    have hc := h c List.mem_cons_self
    have ih := dig_lt L (a * 10 + (c - 48)) fun d hd => h d (List.mem_cons_of_mem _ hd)
    rw [List.foldl_cons, List.length_cons, Nat.pow_succ]
    refine Nat.lt_of_lt_of_le ih ?_
    rw [Nat.mul_comm (10 ^ L.length) 10, ← Nat.mul_assoc]
    exact Nat.mul_le_mul_right _ (by omega)
theorem num_most {z : Str} (h : okNum z = true) : 0 ≤ valOf z ∧ valOf z ≤ mostR := by
  have h1 : (tl z).length ≤ 30 ∧ ((tl z).all fun ch => decide (ch ∈ figuresL)) = true := by
    rw [show (tl z).length = z.length from len_tl z]
    simp only [okNum, Bool.and_eq_true, decide_eq_true_eq] at h
    exact ⟨h.1.1.2, h.1.2⟩
  have h2 := dig_lt (tl z) 0 fun c hc => digits_mem.mp (of_decide_eq_true (List.all_eq_true.mp h1.2 c hc))
  have h3 : (10 : Nat) ^ (tl z).length ≤ 10 ^ 30 := Nat.pow_le_pow_right (by decide) h1.1
  have h4 : NumText.digitsVal (tl z) < 10 ^ 30 := by
    refine Nat.lt_of_lt_of_le ?_ h3
    have := h2
    rw [Nat.zero_add, Nat.one_mul] at this
    exact this
  refine ⟨Int.natCast_nonneg _, ?_⟩
  show ((NumText.digitsVal (tl z) : Nat) : Int) ≤ 999999999999999999999999999999
  have : (10 : Nat) ^ 30 = 1000000000000000000000000000000 := by decide
  omega
theorem num_law (z : Str) : numIn (.str z) 0 mostR = if okNum z = true then .int (valOf z) else .non := by
  show (if okNum z = true ∧ 0 ≤ valOf z ∧ valOf z ≤ mostR then D.int (valOf z) else .non) = _
  by_cases h : okNum z = true
  · rw [if_pos h, if_pos ⟨h, num_most h⟩]
  · rw [if_neg h, if_neg fun q => h q.1]
section
variable {P : R → List Sl → Prop} {z : Str}
theorem use_l_name (h1 : z.length ≤ 16000000) (h2 : ∀ c ∈ tl z, c < 1114112) (q : P (.d (.bl (nmOk z))) [.d (.str z)]) :
    ∀ Ψ : R → List Sl → Prop, (∀ r as', ownOut r → P r as' → Ψ r as') → S_l_is_name [.d (.str z)] Ψ := fun Ψ k => ⟨z, rfl, h1, h2, k _ _ trivial q⟩
theorem use_l_number (h1 : z.length ≤ 16000000) (h2 : ∀ c ∈ tl z, c < 1114112) (q : P (.d (if okNum z = true then .int (valOf z) else .non)) [.d (.str z)]) :
    ∀ Ψ : R → List Sl → Prop, (∀ r as', ownOut r → P r as' → Ψ r as') → S_l_number [.d (.str z)] Ψ := fun Ψ k => ⟨z, rfl, h1, h2, k _ _ trivial q⟩
theorem use_l_tie (h1 : z.length < 100000) (h2 : ∀ c ∈ tl z, c < 1114112) (q : P (.d ((tieZ (Txt.split z (Str.ofString " "))).getD .non)) [.d (.str z)]) :
    ∀ Ψ : R → List Sl → Prop, (∀ r as', ownOut r → P r as' → Ψ r as') → S_l_tie [.d (.str z)] Ψ := fun Ψ k => ⟨z, rfl, h1, h2, k _ _ trivial q⟩
end
theorem words_of (z : Str) {y : Str} (hy : y.length = 1) : (Txt.split z y).length ≤ z.length + 1 ∧ ∀ w ∈ Txt.split z y, w.length ≤ z.length ∧ ∀ c ∈ tl w, c ∈ tl z := by
  have jn := PySem.StrLaws.join_split z y
  have n1 := many_len (y := y) (by omega) (Txt.split z y)
  rw [jn] at n1
  refine ⟨n1, fun w hw => ?_⟩
  have a := part_len (y := y) hw
  rw [jn] at a
  refine ⟨a, fun c hc => ?_⟩
  have b := part_in (y := y) hw hc
  rwa [jn] at b
theorem ws_l_tie : WsC (Fx := XF) S_l_tie t_l_tie [.no, .no] := by
  rintro K cn as Φ fx ⟨z, rfl, hz, hc, h⟩
  obtain ⟨hwl, hw⟩ := words_of z (y := Str.ofString " ") len_sp
  unfold t_l_tie
  walk_at "d0"
  walk_at "d"
  refine ⟨by decide +kernel, by omega, fun l => ?_⟩
  have h : Φ (.d ((tieZ (Txt.split z (Str.ofString " "))).getD .non)) [.d (.str z)] := h
  generalize Txt.split z (Str.ofString " ") = ws at hwl hw h l ⊢
  walk_at "d"
  rw [List.length_map]
  refine br_n (fun q => ?_) (fun q => ?_)
  · have e : tieZ ws = none := by
      unfold tieZ
      split
      · exact absurd rfl q
      · rfl
    rw [e] at h
    walk_at "d"
    exact ⟨trivial, h⟩
  · obtain ⟨a, b, c, rfl⟩ : ∃ a b c, ws = [a, b, c] := by
      match ws, q with
      | [a, b, c], _ => exact ⟨a, b, c, rfl⟩
    have ha := hw a (by simp)
    have hb := hw b (by simp)
    have hcc := hw c (by simp)
    have bad : ¬ (nmOk a = true ∧ nmOk b = true) → tieZ [a, b, c] = none := fun z => if_neg z
    walk_at "d"
    refine use_l_name (by omega) (fun x hx => hc x (ha.2 x hx)) ?_
    walk_at "d"
    refine br_not (br (fun h1 => ?_) (fun h1 => ?_))
    · walk_at "d"
      refine use_l_name (by omega) (fun x hx => hc x (hb.2 x hx)) ?_
      walk_at "d"
      refine br_not (br (fun h2 => ?_) (fun h2 => ?_))
      · walk_at "d"
        refine use_l_number (by omega) (fun x hx => hc x (hcc.2 x hx)) ?_
        have e : tieZ [a, b, c] = match numIn (.str c) 0 mostR with
          | .int n => some (.tup [.str a, .str b, .int n])
          | _ => none := if_pos ⟨h1, h2⟩
        rw [num_law] at e
        by_cases ok : okNum c = true
        · rw [if_pos ok] at e ⊢
          rw [e] at h
          walk_at "d"
          walk_at "ds"
          walk_at "d"
          exact ⟨trivial, h⟩
        · rw [if_neg ok] at e ⊢
          rw [e] at h
          walk_at "d"
          walk_at "ds"
          walk_at "d"
          exact ⟨trivial, h⟩
      · rw [bad (fun z => by rw [h2] at z; exact Bool.false_ne_true z.2)] at h
        walk_at "d"
        exact ⟨trivial, h⟩
    · rw [bad (fun z => by rw [h1] at z; exact Bool.false_ne_true z.1)] at h
      walk_at "d"
      exact ⟨trivial, h⟩

theorem cut_to {xs : List D} {j : Nat} : DL.cutD xs none (some ((j : Nat) : Int)) = xs.take j := by
  unfold DL.cutD
  rw [HT.sIx_none, HT.sIx_nat, Nat.sub_zero, List.drop_zero]
  by_cases h : j ≤ xs.length
  · rw [show min j xs.length = j by omega]
  · rw [show min j xs.length = xs.length by omega, List.take_length, List.take_of_length_le (by omega)]
theorem tied_mem {ns : List Str} (hn : ns.Nodup) {a b c d : Str} {i j k l : Nat} (ha : posN a ns = some i) (hb : posN b ns = some j) (hc : posN c ns = some k) (hd : posN d ns = some l) : mm k l = mm i j ↔ (c = a ∧ d = b) ∨ (c = b ∧ d = a) := by
  have inj : ∀ {x y : Str} {m : Nat}, posN x ns = some m → posN y ns = some m → x = y := fun h1 h2 => by
    have := posN_at h1
    rw [posN_at h2] at this
    exact (Option.some.inj this).symm
  have e1 : mm k l = mm i j ↔ (k = i ∧ l = j) ∨ (k = j ∧ l = i) := by
    unfold mm
    rw [Prod.mk.injEq]
    omega
  rw [e1]
  constructor
  · rintro (⟨rfl, rfl⟩ | ⟨rfl, rfl⟩)
    · exact .inl ⟨inj hc ha, inj hd hb⟩
    · exact .inr ⟨inj hc hb, inj hd ha⟩
  · rintro (⟨rfl, rfl⟩ | ⟨rfl, rfl⟩)
    · rw [ha] at hc; rw [hb] at hd
      exact .inl ⟨(Option.some.inj hc).symm, (Option.some.inj hd).symm⟩
    · rw [hb] at hc; rw [ha] at hd
      exact .inr ⟨(Option.some.inj hc).symm, (Option.some.inj hd).symm⟩
/-- what a tie that is taken is -/
theorem tieR_ok {ns : List Str} {L L' : List Tie} {d : D} (h : tieR ns L d = .inr L') : ∃ a b i j, ∃ n : Int, d = .tup [.str a, .str b, .int n] ∧ posN a ns = some i ∧ posN b ns = some j ∧ i ≠ j ∧ 1 ≤ n ∧ n ≤ 1000000 ∧ mm i j ∉ L.map Prod.fst ∧ L' = L ++ [(mm i j, n.toNat)] := by
  unfold tieR at h
  split at h
  · rename_i a b l
    cases a <;> first | (cases h; done) | skip
    rename_i a
    cases b <;> first | (split at h <;> cases h; done) | skip
    rename_i b
    cases e1 : spotN ns (.str a) with
    | none => rw [e1] at h; cases h
    | some i =>
      rw [e1] at h
      cases e2 : spotN ns (.str b) with
      | none => rw [e2] at h; cases h
      | some j =>
        rw [e2] at h
        dsimp only at h
        split at h
        · cases h
        · split at h
          · split at h
            · split at h
              · cases h
              · rename_i hij _ n hn hm
                exact ⟨a, b, i, j, n, rfl, e1, e2, hij, hn.1, hn.2, hm, (Sum.inr.inj h).symm⟩
            · cases h
          · cases h
  · cases h
theorem scan_cons (ns : List Str) (acc : List Tie) (e : D) (es : List D) : scanT ns acc (e :: es) = match tieR ns acc e with
    | .inl z => .inl z
    | .inr acc' => scanT ns acc' es := rfl
theorem scan_split {ns : List Str} : ∀ {es fs : List D} {acc L : List Tie}, scanT ns acc es = .inr L → scanT ns acc (es ++ fs) = scanT ns L fs
  | [], fs, acc, L, h => by cases h; rfl
  | e :: es, fs, acc, L, h => by
    rw [List.cons_append, scan_cons]
    rw [scan_cons] at h
    cases q : tieR ns acc e with
    | inl z => rw [q] at h; cases h
    | inr acc' =>
      rw [q] at h
      exact scan_split h
theorem scan_one {ns : List Str} {L : List Tie} {d : D} : scanT ns L [d] = match tieR ns L d with
    | .inl e => .inl e
    | .inr L' => .inr L' := by
  rw [scan_cons]
  cases tieR ns L d with
  | inl e => rfl
  | inr L' => rfl
/-- what the ties are that are taken -/
theorem scan_mem {ns : List Str} : ∀ {es : List D} {acc L : List Tie}, scanT ns acc es = .inr L → L.length = acc.length + es.length ∧ (∀ k, k < acc.length → L[k]? = acc[k]?) ∧ ∀ (k : Nat) (d : D), es[k]? = some d → ∃ a b i j, ∃ n : Int, d = .tup [.str a, .str b, .int n] ∧ posN a ns = some i ∧ posN b ns = some j ∧ i ≠ j ∧ 1 ≤ n ∧ n ≤ 1000000 ∧ L[acc.length + k]? = some (mm i j, n.toNat)
  | [], acc, L, h => by
    cases h
    exact ⟨rfl, fun k _ => rfl, fun k d hd => by cases hd⟩
  | e :: es, acc, L, h => by
    rw [scan_cons] at h
    cases q : tieR ns acc e with
    | inl z => rw [q] at h; cases h
    | inr acc' =>
      rw [q] at h
      obtain ⟨a, b, i, j, n, rfl, h1, h2, h3, h4, h5, h6, e2⟩ := tieR_ok q
      obtain ⟨g1, g2, g3⟩ := scan_mem h
      have hl : acc'.length = acc.length + 1 := by rw [e2, List.length_append]; rfl
      refine ⟨by rw [g1, hl, List.length_cons]; omega, fun k hk => ?_, fun k d hd => ?_⟩
      · rw [g2 k (by omega), e2, List.getElem?_append_left hk]
      · cases k with
        | zero =>
          cases hd
          refine ⟨a, b, i, j, n, rfl, h1, h2, h3, h4, h5, ?_⟩
          rw [Nat.add_zero, g2 _ (by omega), e2, List.getElem?_append_right (Nat.le_refl _), Nat.sub_self]
          rfl
        | succ k =>
          obtain ⟨a', b', i', j', n', q1, q2, q3, q4, q5, q6, q7⟩ := g3 k d hd
          exact ⟨a', b', i', j', n', q1, q2, q3, q4, q5, q6, by rw [← q7]; congr 1; omega⟩
theorem enc_names {ns : List Str} (hn : NmOk ns) : pure0s (ns.map D.str) = true := pure0s_map fun x hx => by unfold pure0; exact nm_lay (hn.ok x hx)
section
variable {P : R → List Sl → Prop}
theorem use_tie_due {ns : List Str} {ds : List D} {j : Nat} {L : List Tie} {d : D} (h1 : NmOk ns) (h2 : ∀ e ∈ ds, TieD e) (h3 : ds.length ≤ 40) (h4 : ds[j]? = some d) (h5 : scanT ns [] (ds.take j) = .inr L) (q : match tieR ns L d with
    | .inl (n, y) => ∀ b, P (.own b (refR n y)) [.d (.lst (ns.map .str)), .d (.lst ds), .d (.int (j : Nat))]
    | .inr _ => P (.d .non) [.d (.lst (ns.map .str)), .d (.lst ds), .d (.int (j : Nat))]) :
    ∀ Ψ : R → List Sl → Prop, (∀ r as', ownOut r → P r as' → Ψ r as') → S_l_tie_due [.d (.lst (ns.map .str)), .d (.lst ds), .d (.int (j : Nat))] Ψ := fun Ψ k => ⟨ns, ds, j, L, d, rfl, h1, h2, h3, h4, h5, by
  cases e : tieR ns L d with
  | inl z =>
    obtain ⟨n, y⟩ := z
    rw [e] at q
    exact fun b => k _ _ trivial (q b)
  | inr L' =>
    rw [e] at q
    exact k _ _ trivial q⟩
theorem use_web_due {ns : List Str} {ds : List D} (h1 : ∀ x ∈ ns, nmOk x = true) (h2 : 1 ≤ ns.length) (h3 : ns.length < 100000) (h4 : ∀ e ∈ ds, TieD e) (h5 : ds.length < 100000) (q : ∀ b, P (.own b (webDue ns ds)) [.d (.lst (ns.map .str)), .d (.lst ds)]) :
    ∀ Ψ : R → List Sl → Prop, (∀ r as', ownOut r → P r as' → Ψ r as') → S_l_web_due [.d (.lst (ns.map .str)), .d (.lst ds)] Ψ := fun Ψ k => ⟨ns, ds, rfl, h1, h2, h3, h4, h5, fun b => k _ _ trivial (q b)⟩
end
theorem ws_l_tie_due : WsC (Fx := XF) S_l_tie_due t_l_tie_due [.no, .no, .no, .no, .no] := by
  rintro K cn as Φ fx ⟨ns, ds, j, L, d, rfl, hn, hds, h40, hj, hs, h⟩
  obtain ⟨a, b, n, rfl, ha, hb⟩ := hds d (List.mem_of_getElem? hj)
  have hjl := (List.getElem?_eq_some_iff.mp hj).1
  have hn12 := hn.l2
  unfold t_l_tie_due
  walk_at "d0"
  walk_at "d"
  refine dIxC_l (atI_nat hj) ?_
  walk_at "d"
  have hpn := enc_names hn
  have pstr : ∀ {x : Str}, nmOk x = true → pure0 (.str x) = true := fun hx => by unfold pure0; exact nm_lay hx
  have mem_str : ∀ x : Str, D.str x ∈ ns.map D.str ↔ x ∈ ns := fun x => by
    rw [List.mem_map]
    exact ⟨fun ⟨y, hy, e⟩ => (by cases e; exact hy), fun hx => ⟨x, hx, rfl⟩⟩
  refine w_for (wi_any ?_)
  walk_at "d"
  refine ⟨_, _, rfl, rfl, fun k δ' => ∃ s6, (0 < k → a ∈ ns) ∧ (1 < k → b ∈ ns) ∧ δ' = [.d (.lst (ns.map .str)), .d (.lst ds), .d (.int (j : Nat)), .d (.str a), .d (.str b), .d (.int (n : Nat)), s6, .no], ⟨_, fun z => absurd z (by omega), fun z => absurd z (by omega), rfl⟩, fun k d δ' hd ⟨s6, k1, k2, e⟩ => ?_, fun δ' ⟨s6, k1, k2, e⟩ => ?_⟩
  · subst e
    match k, hd with
    | 0, hd =>
      cases hd
      refine wg_nameN rfl rfl ?_
      walk_at "k"
      walk_at "d"
      refine ⟨_, .inl rfl, pstr ha, hpn, by show 0 ≤ 60; omega, fun m => ?_, fun m => ?_⟩
      · walk_at "d"
        walk_at "x"
        exact ⟨_, fun _ => (mem_str a).mp m, fun z => absurd z (by omega), rfl⟩
      · walk_at "d"
        have e : tieR ns L (.tup [.str a, .str b, .int (n : Nat)]) = .inl (XNoPlace, .str a) := by
          show (match posN a ns with
            | none => _
            | some i => _) = _
          rw [posN_none.mpr fun q => m ((mem_str a).mpr q)]
        rw [e] at h
        exact ⟨trivial, h _⟩
    | 1, hd =>
      cases hd
      refine wg_nameN rfl rfl ?_
      walk_at "k"
      walk_at "d"
      refine ⟨_, .inl rfl, pstr hb, hpn, by show 0 ≤ 60; omega, fun m => ?_, fun m => ?_⟩
      · walk_at "d"
        walk_at "x"
        exact ⟨_, fun _ => k1 (by omega), fun _ => (mem_str b).mp m, rfl⟩
      · walk_at "d"
        obtain ⟨i, hi⟩ : ∃ i, posN a ns = some i := by
          cases q : posN a ns with
          | none => exact absurd (k1 (by omega)) (posN_none.mp q)
          | some i => exact ⟨i, rfl⟩
        have e : tieR ns L (.tup [.str a, .str b, .int (n : Nat)]) = .inl (XNoPlace, .str b) := by
          show (match posN a ns with
            | none => _
            | some i => match posN b ns with
              | none => _
              | some j => _) = _
          rw [hi, posN_none.mpr fun q => m ((mem_str b).mpr q)]
        rw [e] at h
        exact ⟨trivial, h _⟩
  · subst e
    have pos : ∀ {x : Str}, x ∈ ns → ∃ i, posN x ns = some i := fun {x} hx => by
      cases q : posN x ns with
      | none => exact absurd hx (posN_none.mp q)
      | some i => exact ⟨i, rfl⟩
    obtain ⟨i, hi⟩ := pos (k1 (show 0 < 2 by omega))
    obtain ⟨j', hj'⟩ := pos (k2 (show 1 < 2 by omega))
    have e : tieR ns L (.tup [.str a, .str b, .int (n : Nat)]) = if i = j' then .inl (XLoop, .tup [.str a, .str b, .int (n : Nat)]) else if 1 ≤ (n : Int) ∧ (n : Int) ≤ 1000000 then (if mm i j' ∈ L.map Prod.fst then .inl (XTied, .tup [.str a, .str b]) else .inr (L ++ [(mm i j', (n : Int).toNat)])) else .inl (XNoLength, .int (n : Nat)) := by
      show (match posN a ns with
        | none => _
        | some i => match posN b ns with
          | none => _
          | some j => _) = _
      rw [hi, hj']
    rw [e] at h
    have iff1 : a = b ↔ i = j' := ⟨fun q => by subst q; rw [hi] at hj'; exact Option.some.inj hj', fun q => by
      subst q
      have := posN_at hi
      rw [posN_at hj'] at this
      exact (Option.some.inj this).symm⟩
    walk_at "d"
    refine br_d (fun q1 => ?_) (fun q1 => ?_)
    · walk_at "d"
      refine dIxC_l (atI_nat hj) ?_
      walk_at "d"
      rw [if_pos (iff1.mp q1)] at h
      exact ⟨trivial, h _⟩
    · rw [if_neg fun z => q1 (iff1.mpr z)] at h
      walk_at "d"
      refine br_d (fun q2 => ?_) (fun q2 => ?_)
      · walk_at "d"
        refine br_not (br_d (fun q3 => ?_) (fun q3 => ?_))
        · have q23 : 1 ≤ (n : Int) ∧ (n : Int) ≤ 1000000 := ⟨by omega, by omega⟩
          rw [if_pos q23] at h
          walk_at "d"
          refine w_for (wi_any ?_)
          walk_at "d"
          rw [cut_to]
          refine ⟨_, _, rfl, rfl, fun k δ' => ∃ s7, (∀ (m : Nat) (c e : Str) (x : Nat), m < k → ds[m]? = some (.tup [.str c, .str e, .int (x : Nat)]) → ¬ ((c = a ∧ e = b) ∨ (c = b ∧ e = a))) ∧ δ' = [.d (.lst (ns.map .str)), .d (.lst ds), .d (.int (j : Nat)), .d (.str a), .d (.str b), .d (.int (n : Nat)), s6, s7], ⟨_, fun m _ _ _ hm => absurd hm (by omega), rfl⟩, fun k d δ' hd ⟨s7, no, e⟩ => ?_, fun δ' ⟨s7, no, e⟩ => ?_⟩
          · subst e
            have hkj : k < j := by
              have := (List.getElem?_eq_some_iff.mp hd).1
              rw [List.length_take] at this
              omega
            have hd0 : ds[k]? = some d := by rwa [List.getElem?_take_of_lt hkj] at hd
            obtain ⟨_, _, sm⟩ := scan_mem hs
            obtain ⟨a', b', i2, j2, n2, e2, p1, p2, _, _, _, p3⟩ := sm k d hd
            obtain ⟨a2, b2, n3, e3, ha2, hb2⟩ := hds d (List.mem_of_getElem? hd0)
            rw [e2] at e3
            cases e3
            subst e2
            refine wg_nameN rfl rfl ?_
            walk_at "k"
            walk_at "d"
            refine ⟨_, rfl, (show ¬ (HT.sIx 3 0 none = 0 ∧ HT.sIx 3 3 (some 2) = 3) by decide), ?_⟩
            rw [show DL.cutD [D.str a', D.str b', D.int (n3 : Nat)] none (some 2) = [D.str a', D.str b'] from rfl]
            walk_at "d"
            have pp : ∀ {x y : Str}, nmOk x = true → nmOk y = true → pure0 (.tup [.str x, .str y]) = true := fun h1 h2 => by simp [pure0, pure0s, nm_lay h1, nm_lay h2]
            refine ⟨_, .inr rfl, pp ha2 hb2, by unfold pure0s; rw [pp ha hb]; unfold pure0s; rw [pp hb ha]; rfl, by simp [dpt, dpts], fun m => ?_, fun m => ?_⟩
            · have hor : (a' = a ∧ b' = b) ∨ (a' = b ∧ b' = a) := by
                rcases List.mem_cons.mp m with e | m
                · cases e; exact .inl ⟨rfl, rfl⟩
                · have e := List.mem_singleton.mp m
                  cases e; exact .inr ⟨rfl, rfl⟩
              have hm : mm i j' ∈ L.map Prod.fst := by
                rw [← (tied_mem hn.nd hi hj' p1 p2).mpr hor]
                exact List.mem_map_of_mem (f := Prod.fst) (List.mem_of_getElem? p3)
              rw [if_pos hm] at h
              dsimp only [id]
              walk_at "d"
              exact ⟨trivial, h _⟩
            · have hor : ¬ ((a' = a ∧ b' = b) ∨ (a' = b ∧ b' = a)) := fun q => m (by
                rcases q with ⟨rfl, rfl⟩ | ⟨rfl, rfl⟩
                · exact List.mem_cons_self
                · exact List.mem_cons_of_mem _ List.mem_cons_self)
              dsimp only [id]
              walk_at "d"
              walk_at "x"
              refine ⟨_, fun m c e x hm hx => ?_, rfl⟩
              by_cases hmk : m = k
              · subst hmk
                rw [hd0] at hx
                cases hx
                exact hor
              · exact no m c e x (by omega) hx
          · subst e
            walk_at "d"
            have hm : mm i j' ∉ L.map Prod.fst := fun hm => by
              obtain ⟨t, ht, e⟩ := List.mem_map.mp hm
              obtain ⟨k, hk⟩ := List.mem_iff_getElem?.mp ht
              obtain ⟨s1, _, sm⟩ := scan_mem hs
              have hkl := (List.getElem?_eq_some_iff.mp hk).1
              rw [s1, List.length_nil, Nat.zero_add] at hkl
              have hd := List.getElem?_eq_getElem hkl
              obtain ⟨a', b', i2, j2, n2, e2, p1, p2, _, _, _, p3⟩ := sm k _ hd
              rw [List.length_nil, Nat.zero_add, hk] at p3
              rw [Option.some.inj p3] at e
              have hor := (tied_mem hn.nd hi hj' p1 p2).mp e
              have hkj : k < j := by rw [List.length_take] at hkl; omega
              rw [List.getElem?_take_of_lt hkj] at hd
              rw [e2] at hd
              obtain ⟨a2, b2, n3, e3, _, _⟩ := hds _ (List.mem_of_getElem? hd)
              cases e3
              refine no k a' b' n3 ?_ hd hor
              rw [List.length_take]
              rw [List.length_take] at hkl
              exact hkl
            rw [if_neg hm] at h
            exact ⟨trivial, h⟩
        · walk_at "d"
          rw [if_neg fun z => q3 z.2] at h
          exact ⟨trivial, h _⟩
      · walk_at "d"
        rw [if_neg fun z => q2 (by omega)] at h
        exact ⟨trivial, h _⟩

def enc3 (t : Tie) : D := .tup [.int (t.1.1 : Nat), .int (t.1.2 : Nat), .int (t.2 : Nat)]
def pyT (t : Tie) : PyData := .tuple [.int (t.1.1 : Nat), .int (t.1.2 : Nat), .int (t.2 : Nat)]
theorem lt3 (x y z x' y' z' : Int) : PySem.W.dataLt (.tuple [.int x, .int y, .int z]) (.tuple [.int x', .int y', .int z']) = decide (x < x' ∨ (x = x' ∧ (y < y' ∨ (y = y' ∧ z < z')))) := by
  rw [PySem.W.dataLt_tuple, PySem.W.dataLt_cons (by simp [PySem.W.alike]), PySem.W.dataLt_cons (by simp [PySem.W.alike]), PySem.W.dataLt_cons (by simp [PySem.W.alike])]
  have e : PyProof.Rows.lexLt PyProof.Rows.itemOrd (PySem.W.keyToksAll []) (PySem.W.keyToksAll []) = false := PyProof.Rows.lex_irrefl _
  rw [e, PySem.W.dataLt_int, PySem.W.dataLt_int, PySem.W.dataLt_int]
  simp only [PyData.eqv, beq_iff_eq]
  by_cases h1 : x = x' <;> by_cases h2 : y = y' <;> by_cases h3 : z = z' <;> simp [h1, h2, h3]
theorem fst_inj {L : List Tie} (hn : (L.map Prod.fst).Nodup) {s t : Tie} (hs : s ∈ L) (ht : t ∈ L) (e : s.1 = t.1) : s = t := by
  have h1 := look_mem hn hs
  have h2 := look_mem hn ht
  rw [e, h2] at h1
  exact Prod.ext e (Option.some.inj h1).symm
theorem sort3 {L : List Tie} (hn : (L.map Prod.fst).Nodup) : (L.map enc3).mergeSort leD = (sortT L).map enc3 := by
  unfold sortT
  refine (List.map_mergeSort fun s hs t ht => ?_).symm
  unfold leD
  rw [PySem.W.dataLe_eq]
  show lexN s.1 t.1 = !PySem.W.dataLt (pyT t) (pyT s)
  have hi := fst_inj hn hs ht
  have hi2 : s.1.1 = t.1.1 → s.1.2 = t.1.2 → s.2 = t.2 := fun e1 e2 => by rw [hi (Prod.ext e1 e2)]
  unfold pyT lexN
  rw [lt3, ← decide_not, decide_eq_decide]
  omega
theorem le_int (i j : Int) : leD (.int i) (.int j) = decide (i ≤ j) := by
  unfold leD
  rw [PySem.W.dataLe_eq]
  show (!PySem.W.dataLt (.int j) (.int i)) = _
  rw [PySem.W.dataLt_int, ← decide_not, decide_eq_decide]
  omega
theorem sort2 (i j : Nat) : [D.int (i : Nat), .int (j : Nat)].mergeSort leD = [.int ((mm i j).1 : Nat), .int ((mm i j).2 : Nat)] := by
  have h1 := le_int (i : Nat) (j : Nat)
  unfold mm
  by_cases h : i ≤ j
  · rw [decide_eq_true (by omega)] at h1
    rw [show min i j = i by omega, show max i j = j by omega]
    simp [List.mergeSort, List.MergeSort.Internal.splitInTwo, List.merge, h1]
  · rw [decide_eq_false (by omega)] at h1
    rw [show min i j = j by omega, show max i j = i by omega]
    simp [List.mergeSort, List.MergeSort.Internal.splitInTwo, List.merge, h1]
theorem sortable_int (l : List Int) : PySem.W.Sortable (l.map PyData.int) := .others fun b => ⟨fun e => (by cases e), fun xs e => (by cases e)⟩
theorem sortable_3 (L : List Tie) : PySem.W.Sortable (L.map pyT) := .tuples fun b => ⟨_, _, rfl⟩
theorem alike_int (l : List Int) : PySem.W.AllAlike (l.map PyData.int) := .of fun b b' => by simp [PySem.W.alike]
theorem alike_3 (L : List Tie) : PySem.W.AllAlike (L.map pyT) := .of fun b b' => by simp [pyT, PySem.W.alike, PySem.W.alikeAll]
theorem pyAs_3 : ∀ L : List Tie, pyAs (L.map enc3) = some (L.map pyT)
  | [] => by rw [List.map_nil]; unfold pyAs; rfl
  | t :: L => by
    rw [List.map_cons]
    unfold pyAs
    rw [show pyA (enc3 t) = some (pyT t) from rfl, pyAs_3 L]
    rfl
theorem dep_3 (t : Tie) : (pyT t).depth ≤ 50 := by simp [pyT, PyData.depth, PyData.depthAll]
theorem scanN_step : ∀ (ns : List Str) (acc : List Str), (∀ x ∈ ns, nmOk x = true) → (∀ k x, ns[k]? = some x → x ∉ acc → x ∉ ns.take k → True) → scanN acc (ns.map .str) = match ns with
    | [] => .inr acc
    | x :: r => if x ∈ acc then .inl (XTwice, .str x) else scanN (acc ++ [x]) (r.map .str)
  | [], acc, _, _ => rfl
  | x :: r, acc, h, _ => by
    rw [List.map_cons]
    show (if nmOk x = true then (if x ∈ acc then _ else _) else _) = _
    rw [if_pos (h x List.mem_cons_self)]
/-- the first name that stands ahead -/
theorem scanN_bad {ns : List Str} (h : ∀ x ∈ ns, nmOk x = true) : ∀ (m : Nat) {k : Nat} {x : Str} {acc : List Str}, m + k ≤ ns.length → acc = ns.take m → (ns.take (m + k)).Nodup → ns[m + k]? = some x → x ∈ ns.take (m + k) → scanN acc ((ns.drop m).map .str) = .inl (XTwice, .str x) := by
  intro m k
  induction k generalizing m with
  | zero =>
    intro x acc hk ha hn hx hm
    rw [Nat.add_zero] at *
    have hd : ns.drop m = x :: ns.drop (m + 1) := by
      have hl := (List.getElem?_eq_some_iff.mp hx)
      rw [List.drop_eq_getElem_cons hl.1, hl.2]
    rw [hd, scanN_step _ _ (fun y hy => h y (List.mem_of_mem_drop (i := m) (by rw [hd]; exact hy))) fun _ _ _ _ _ => trivial]
    dsimp only
    rw [if_pos (by rw [ha]; exact hm)]
  | succ k ih =>
    intro x acc hk ha hn hx hm
    have hml : m < ns.length := by omega
    have hd : ns.drop m = ns[m] :: ns.drop (m + 1) := List.drop_eq_getElem_cons hml
    rw [hd, scanN_step _ _ (fun y hy => h y (List.mem_of_mem_drop (i := m) (by rw [hd]; exact hy))) fun _ _ _ _ _ => trivial]
    dsimp only
    have hno : ns[m] ∉ ns.take m := nodup_take (ns := ns.take (m + (k + 1))) (i := m) hn (by rw [List.getElem?_take_of_lt (by omega)]; exact List.getElem?_eq_getElem hml) |> fun q z => q (by
      rw [List.take_take, show min m (m + (k + 1)) = m by omega]
      exact z)
    rw [if_neg (by rw [ha]; exact hno)]
    refine ih (m + 1) (by omega) (by rw [ha, List.take_add_one, List.getElem?_eq_getElem hml]; rfl) (by rw [show m + 1 + k = m + (k + 1) by omega]; exact hn) (by rw [show m + 1 + k = m + (k + 1) by omega]; exact hx) (by rw [show m + 1 + k = m + (k + 1) by omega]; exact hm)
theorem scanN_good {ns : List Str} (h : ∀ x ∈ ns, nmOk x = true) (hn : ns.Nodup) : scanN [] (ns.map .str) = .inr ns := by
  have : ∀ (r acc : List Str), (∀ x ∈ r, nmOk x = true) → (acc ++ r).Nodup → scanN acc (r.map .str) = .inr (acc ++ r) := by
    intro r
    induction r with
    | nil => intro acc _ _; rw [List.append_nil]; rfl
    | cons x r ih =>
      intro acc hr hnd
      rw [scanN_step _ _ hr fun _ _ _ _ _ => trivial]
      dsimp only
      have hx : x ∉ acc := fun z => (List.nodup_append.mp hnd).2.2 x z x List.mem_cons_self rfl
      rw [if_neg hx, ih (acc ++ [x]) (fun y hy => hr y (List.mem_cons_of_mem _ hy)) (by rw [List.append_assoc]; exact hnd), List.append_assoc]
      rfl
  exact this ns [] h hn
def Kind (nm : Nat) (t : D) : Prop := nm = XNoText ∨ nm = XBadLine ∨ nm = XNoPlaces ∨ nm = XTwice ∨ nm = XNoTies ∨ nm = XNoPlace ∨ nm = XLoop ∨ nm = XNoLength ∨ (nm = XTied ∧ ∃ a b, t = .tup [a, b])
theorem ref_lst {n : Nat} {y : D} (h : Kind n y) : ∃ l, refR n y = .lst l := by
  unfold refR
  by_cases e : n = XTied
  · rw [if_pos e]
    rcases h with h | h | h | h | h | h | h | h | ⟨_, a, b, rfl⟩
    all_goals first | exact ⟨_, rfl⟩ | (rw [h] at e; exact absurd e (by decide))
  · rw [if_neg e]
    exact ⟨_, rfl⟩
theorem kind_tie {ns : List Str} {L : List Tie} {d : D} {n : Nat} {y : D} (hd : TieD d) (h : tieR ns L d = .inl (n, y)) : Kind n y := by
  obtain ⟨a, b, m, rfl, _, _⟩ := hd
  have h : (match posN a ns with
    | none => .inl (XNoPlace, D.str a)
    | some i => match posN b ns with
      | none => .inl (XNoPlace, D.str b)
      | some j => if i = j then .inl (XLoop, .tup [.str a, .str b, .int (m : Nat)]) else if 1 ≤ (m : Int) ∧ (m : Int) ≤ 1000000 then (if mm i j ∈ L.map Prod.fst then .inl (XTied, .tup [.str a, .str b]) else .inr (L ++ [(mm i j, (m : Int).toNat)])) else .inl (XNoLength, .int (m : Nat)) : (Nat × D) ⊕ List Tie) = .inl (n, y) := h
  unfold Kind
  split at h
  · cases h; simp
  · split at h
    · cases h; simp
    · split at h
      · cases h; simp
      · split at h
        · split at h
          · cases h
            exact .inr (.inr (.inr (.inr (.inr (.inr (.inr (.inr ⟨rfl, _, _, rfl⟩)))))))
          · cases h
        · cases h; simp
theorem scan_nd {ns : List Str} : ∀ {es : List D} {acc L : List Tie}, scanT ns acc es = .inr L → (acc.map Prod.fst).Nodup → (L.map Prod.fst).Nodup
  | [], acc, L, h, hn => by cases h; exact hn
  | e :: es, acc, L, h, hn => by
    rw [scan_cons] at h
    cases q : tieR ns acc e with
    | inl z => rw [q] at h; cases h
    | inr acc' =>
      rw [q] at h
      obtain ⟨a, b, i, j, n, _, _, _, _, _, _, h6, e2⟩ := tieR_ok q
      refine scan_nd h ?_
      rw [e2, List.map_append, List.map_singleton]
      refine List.nodup_append.mpr ⟨hn, by simp, fun x hx y hy e => ?_⟩
      rw [List.mem_singleton.mp hy] at e
      subst e
      exact h6 hx
theorem wb_scan {ns : List Str} {ds : List D} {L : List Tie} (hn : NmOk ns) (h : scanT ns [] ds = .inr L) (hl : ds.length ≤ 40) : WbOk ns L := by
  obtain ⟨g1, _, sm⟩ := scan_mem h
  rw [List.length_nil, Nat.zero_add] at g1
  refine ⟨hn, fun t ht => ?_, scan_nd h (by simp), by omega⟩
  obtain ⟨k, hk⟩ := List.mem_iff_getElem?.mp ht
  have hkl := (List.getElem?_eq_some_iff.mp hk).1
  obtain ⟨a, b, i, j, n, _, p1, p2, p3, p4, p5, p6⟩ := sm k _ (List.getElem?_eq_getElem (by omega))
  rw [List.length_nil, Nat.zero_add, hk] at p6
  rw [Option.some.inj p6]
  have h1 := posN_lt p1
  have h2 := posN_lt p2
  refine ⟨?_, ?_, ?_, ?_⟩
  · show min i j < max i j; omega
  · show max i j < ns.length; omega
  · show 1 ≤ n.toNat; omega
  · show n.toNat ≤ 1000000; omega

theorem ws_l_web_due : WsC (Fx := XF) S_l_web_due t_l_web_due [.no, .no, .no, .no, .no, .no, .no, .no, .no] := by
  rintro K cn as Φ fx ⟨ns, ds, rfl, hok, hl1, hl2, hds, hdl, h⟩
  have hpn : pure0s (ns.map D.str) = true := pure0s_map fun x hx => by unfold pure0; exact nm_lay (hok x hx)
  unfold t_l_web_due
  walk_at "d0"
  walk_at "d"
  rw [List.length_map]
  have eseq : seqD (.lst (ns.map D.str)) = some (ns.map D.str) := rfl
  refine br_d (fun q1 => ?_) (fun q1 => ?_)
  · have e : webDue ns ds = .lst [.str "places", .lst (ns.map .str)] := by
      unfold webDue placesR
      rw [eseq]
      dsimp only
      rw [if_neg (by rw [List.length_map]; omega)]
      rfl
    rw [e] at h
    walk_at "d"
    exact ⟨trivial, h _⟩
  have hpl : placesR (.lst (ns.map .str)) = scanN [] (ns.map .str) := by
    unfold placesR
    rw [eseq]
    dsimp only
    rw [if_pos (by rw [List.length_map]; omega)]
  walk_at "x"
  walk_at "d"
  refine w_for (wi_enum ?_)
  walk_at "d"
  refine ⟨_, rfl, ?_⟩
  refine ⟨fun k δ' => ∃ s2 s3, (ns.take k).Nodup ∧ δ' = [.d (.lst (ns.map .str)), .d (.lst ds), s2, s3, .no, .no, .no, .no, .no, .no, .no], ⟨_, _, by simp, rfl⟩, fun k d δ' hd ⟨s2, s3, nd, e⟩ => ?_, fun δ' ⟨s2, s3, nd, e⟩ => ?_⟩
  · obtain ⟨y, rfl, hy⟩ := enum_anyT hd
    obtain ⟨x, rfl, hx⟩ := strs_get hy
    subst e
    have hxo := hok x (List.mem_of_getElem? hx)
    walk_at "d"
    rw [cut_to, ← List.map_take]
    walk_at "d"
    refine ⟨_, .inl rfl, by unfold pure0; exact nm_lay hxo, pure0s_map fun y hy => (by unfold pure0; exact nm_lay (hok y (List.mem_of_mem_take hy))), by show 0 ≤ 60; omega, fun m => ?_, fun m => ?_⟩
    · obtain ⟨y, hy2, e⟩ := List.mem_map.mp m
      cases e
      have e : webDue ns ds = .lst [.str "twice", .str x] := by
        unfold webDue
        rw [hpl]
        have := scanN_bad hok 0 (k := k) (x := x) (acc := []) (by have := (List.getElem?_eq_some_iff.mp hx).1; omega) rfl (by rw [Nat.zero_add]; exact nd) (by rw [Nat.zero_add]; exact hx) (by rw [Nat.zero_add]; exact hy2)
        rw [List.drop_zero] at this
        rw [this]
        rfl
      rw [e] at h
      dsimp only [id]
      walk_at "d"
      exact ⟨trivial, h _⟩
    · dsimp only [id]
      walk_at "d"
      walk_at "x"
      refine ⟨_, _, ?_, rfl⟩
      rw [List.take_add_one, hx]
      refine List.nodup_append.mpr ⟨nd, by simp, fun a ha b hb e => ?_⟩
      rw [Option.toList_some] at hb
      rw [List.mem_singleton.mp hb] at e
      subst e
      exact m (List.mem_map_of_mem ha)
  · subst e
    have nd : ns.Nodup := by
      have : ns.take ((enumD (ns.map D.str)).length) = ns := List.take_of_length_le (by rw [enum_len, List.length_map]; exact Nat.le_refl _)
      rw [this] at nd
      exact nd
    have hn : NmOk ns := ⟨hl1, by omega, nd, hok⟩
    have ew : webDue ns ds = match tiesR ns (.lst ds) with
      | .inl (n, y) => refR n y
      | .inr M => .lst [.str "told", toldD ns M] := by
      unfold webDue
      rw [hpl, scanN_good hok nd]
      try rfl
    rw [ew] at h
    clear ew
    walk_at "d"
    refine br_d (fun q2 => ?_) (fun q2 => ?_)
    · have e : tiesR ns (.lst ds) = .inl (XNoTies, .lst ds) := by
        show (if ds.length ≤ 40 then _ else _) = _
        rw [if_neg (by omega)]
      rw [e] at h
      walk_at "d"
      exact ⟨trivial, h _⟩
    have et : tiesR ns (.lst ds) = scanT ns [] ds := by
      show (if ds.length ≤ 40 then _ else _) = _
      rw [if_pos (by omega)]
    rw [et] at h
    walk_at "x"
    walk_at "d"
    refine w_for (wi_range1 ?_)
    walk_at "d"
    refine ⟨_, rfl, by omega, by omega, ?_⟩
    refine ⟨fun k δ' => ∃ s2 s4 L, scanT ns [] (ds.take k) = .inr L ∧ δ' = [.d (.lst (ns.map .str)), .d (.lst ds), s2, s3, s4, .no, .no, .no, .no, .no, .no], ⟨_, _, [], rfl, rfl⟩, fun k d δ' hd ⟨s2, s4, L, hs, e⟩ => ?_, fun δ' ⟨s2, s4, L, hs, e⟩ => ?_⟩
    · obtain ⟨hk, rfl⟩ := rangeD_get hd
      have hk : k < ds.length := by omega
      have hdk := List.getElem?_eq_getElem hk
      have hds2 : ds = ds.take k ++ ds[k] :: ds.drop (k + 1) := by rw [← List.drop_eq_getElem_cons hk, List.take_append_drop]
      subst e
      rw [Int.zero_add]
      walk_at "d"
      refine use_tie_due hn hds (by omega) hdk hs ?_
      cases e : tieR ns L ds[k] with
      | inl z =>
        obtain ⟨n, y⟩ := z
        intro b
        have e2 : scanT ns [] ds = .inl (n, y) := by
          have e3 : scanT ns [] ds = scanT ns [] (ds.take k ++ ds[k] :: ds.drop (k + 1)) := congrArg _ hds2
          rw [e3, scan_split hs, scan_cons, e]
        rw [e2] at h
        obtain ⟨l, el⟩ := ref_lst (kind_tie (hds _ (List.getElem_mem hk)) e)
        dsimp only at h ⊢
        rw [el] at h ⊢
        walk_at "d"
        walk_at "ds"
        walk_at "d"
        exact ⟨trivial, Nat.le_of_ble_eq_true rfl, _, rfl, h _⟩
      | inr L' =>
        walk_at "d"
        walk_at "ds"
        walk_at "d"
        walk_at "x"
        refine ⟨_, _, L', ?_, rfl⟩
        rw [List.take_add_one, hdk]
        show scanT ns [] (ds.take k ++ [ds[k]]) = _
        rw [scan_split hs, scan_one, e]
    · subst e
      have hs : scanT ns [] ds = .inr L := by
        have : ds.take ((rangeD 0 (ds.length : Int).toNat).length) = ds := List.take_of_length_le (by rw [rangeD_len]; omega)
        rw [this] at hs
        exact hs
      rw [hs] at h
      dsimp only at h
      obtain ⟨hLl, _, sm⟩ := scan_mem hs
      rw [List.length_nil, Nat.zero_add] at hLl
      have idx : ∀ {y : Str} {i : Nat}, posN y ns = some i → (ns.map D.str)[i]? = some (.str y) ∧ ∀ m, m < i → (ns.map D.str)[m]? ≠ some (.str y) := fun {y i} hp => by
        refine ⟨by rw [List.getElem?_map, posN_at hp]; rfl, fun m hm e => ?_⟩
        rw [List.getElem?_map] at e
        cases q : ns[m]? with
        | none => rw [q] at e; cases e
        | some z =>
          rw [q] at e
          have e := D.str.inj (Option.some.inj e)
          subst e
          have := posN_of nd q
          rw [hp] at this
          have := Option.some.inj this
          omega
      walk_at "d"
      refine w_for (wi_any ?_)
      walk_at "d"
      rename_i b5
      refine ⟨_, _, rfl, rfl, fun k δ' => ∃ s6 s7 s8 s9, nonOwn [.no, .no, .no, .no, .no, .no, s6, s7, s8] [6, 7, 8] ∧ δ' = [.d (.lst (ns.map .str)), .d (.lst ds), s2, s3, s4, .own b5 (.lst ((L.take k).map enc3)), s6, s7, s8, s9, .no], ⟨_, _, _, _, ⟨trivial, trivial, trivial, trivial⟩, rfl⟩, fun k d δ' hd ⟨s6, s7, s8, s9, hno, e⟩ => ?_, fun δ' ⟨s6, s7, s8, s9, hno, e⟩ => ?_⟩
      · obtain ⟨a, b, i, j, n, e2, p1, p2, _, p4, p5, p3⟩ := sm k d hd
        obtain ⟨a2, b2, n3, e3, ha2, hb2⟩ := hds d (List.mem_of_getElem? hd)
        rw [e2] at e3
        cases e3
        subst e2 e
        rw [List.length_nil, Nat.zero_add] at p3
        have hkl := (List.getElem?_eq_some_iff.mp p3).1
        walk_at "d"
        refine ⟨_, _, _, rfl, rfl, by unfold pure0; exact nm_lay ha2, hpn, by show 0 ≤ 60; omega, (idx p1).1, (idx p1).2, ?_⟩
        walk_at "d"
        refine ⟨_, _, _, rfl, rfl, by unfold pure0; exact nm_lay hb2, hpn, by show 0 ≤ 60; omega, (idx p2).1, (idx p2).2, ?_⟩
        walk_at "d"
        refine ⟨_, [(i : Int), (j : Int)].map PyData.int, rfl, rfl, alike_int _, sortable_int _, Nat.le_of_ble_eq_true rfl, fun b hb => ?_, fun a1 => ?_⟩
        · obtain ⟨z, _, rfl⟩ := List.mem_map.mp hb
          exact Nat.zero_le _
        rw [sort2]
        walk_at "d"
        refine ⟨_, _, rfl, rfl, by rw [List.length_map, List.length_take]; omega, fun δ3 e => ?_⟩
        subst e
        have e3 : (L.take (k + 1)).map enc3 = (L.take k).map enc3 ++ [.tup [.int ((mm i j).1 : Nat), .int ((mm i j).2 : Nat), .int (n3 : Nat)]] := by
          rw [List.take_add_one, p3, List.map_append]
          rfl
        rw [← e3]
        exact ⟨_, _, _, _, ⟨trivial, trivial, trivial, trivial⟩, rfl⟩
      · subst e
        have hwb := wb_scan hn hs (by omega)
        rw [show L.take ds.length = L from List.take_of_length_le (by omega)]
        walk_at "d"
        refine we_lc (wi_any ?_)
        walk_at "d"
        refine ⟨_, L.map pyT, rfl, pyAs_3 L, alike_3 L, sortable_3 L, by rw [List.length_map]; omega, fun b hb => ?_, fun a1 => ?_⟩
        · obtain ⟨z, _, rfl⟩ := List.mem_map.mp hb
          exact dep_3 z
        rw [sort3 hwb.nd]
        have hsl := (sortT_perm L).length_eq
        have h40 := hwb.le
        refine ⟨_, _, rfl, rfl, by rw [List.length_map]; omega, fun k acc δ' => acc = ((sortT L).take k).map (tieD ns) ∧ δ' = [.d (.lst (ns.map .str)), .d (.lst ds), s2, s3, s4, .own b5 (.lst (L.map enc3)), s6, s7, s8, s9, .no], ⟨rfl, rfl⟩, hno, ?_, ?_⟩
        · rintro k d acc ε hd hal ⟨rfl, rfl⟩
          rw [List.getElem?_map] at hd
          cases e : (sortT L)[k]? with
          | none => rw [e] at hd; cases hd
          | some u =>
            rw [e] at hd
            have hd := Option.some.inj hd
            subst hd
            obtain ⟨t1, t2, t3, t4, t5⟩ := hwb.tie ((sortT_perm L).mem_iff.mp (List.mem_of_getElem? e))
            refine ⟨hno, ?_⟩
            rw [show enc3 u = .tup [.int (u.1.1 : Nat), .int (u.1.2 : Nat), .int (u.2 : Nat)] from rfl]
            refine wgc_s3 (wgc_name (by simp) rfl (wgc_name (by simp) rfl (wgc_name (by simp) rfl ?_)))
            walk_at "d"
            refine ix_nm t1 ?_
            walk_at "d"
            refine ix_nm t2 ?_
            walk_at "d"
            refine ⟨?_, rfl⟩
            rw [List.take_add_one, e, List.map_append]
            rfl
        rintro acc δ' hal ⟨rfl, rfl⟩ a2
        rw [List.length_map, List.take_length]
        walk_at "d"
        refine ⟨_, rfl, _, rfl, ?_⟩
        walk_at "d"
        refine ⟨_, rfl, _, rfl, ?_⟩
        walk_at "d"
        exact ⟨trivial, h _⟩

theorem bad_is : ∀ {L : List (List Str)} {j : Nat}, firstBad L = some j → (∃ ws, L[j]? = some ws ∧ tieZ ws = none) ∧ ∀ m ws, m < j → L[m]? = some ws → tieZ ws ≠ none
  | [], j, h => by cases h
  | ws :: L, j, h => by
    unfold firstBad at h
    cases e : tieZ ws with
    | none =>
      rw [e] at h
      cases h
      exact ⟨⟨ws, rfl, e⟩, fun m _ hm => absurd hm (by omega)⟩
    | some d =>
      rw [e] at h
      obtain ⟨i, hi, rfl⟩ := Option.map_eq_some_iff.mp h
      obtain ⟨⟨us, h1, h2⟩, h3⟩ := bad_is hi
      refine ⟨⟨us, h1, h2⟩, fun m vs hm hv => ?_⟩
      cases m with
      | zero => cases hv; rw [e]; exact fun z => nomatch z
      | succ m => exact h3 m vs (by omega) hv
theorem bad_no : ∀ {L : List (List Str)}, firstBad L = none → (∀ ws ∈ L, tieZ ws ≠ none) ∧ L.map tieZ = (L.filterMap tieZ).map some
  | [], _ => ⟨fun _ h => (nomatch h), rfl⟩
  | ws :: L, h => by
    unfold firstBad at h
    cases e : tieZ ws with
    | none => rw [e] at h; cases h
    | some d =>
      rw [e] at h
      obtain ⟨h1, h2⟩ := bad_no (Option.map_eq_none_iff.mp h)
      refine ⟨fun us hu => ?_, ?_⟩
      · rcases List.mem_cons.mp hu with rfl | hu
        · rw [e]; exact fun z => nomatch z
        · exact h1 us hu
      · rw [List.map_cons, List.filterMap_cons, e, h2]; rfl
theorem bad_least : ∀ {L : List (List Str)} {j : Nat} {ws : List Str}, L[j]? = some ws → tieZ ws = none → (∀ m us, m < j → L[m]? = some us → tieZ us ≠ none) → firstBad L = some j
  | [], j, ws, h, _, _ => by cases h
  | us :: L, j, ws, h, hz, hm => by
    unfold firstBad
    cases j with
    | zero => cases h; rw [hz]
    | succ j =>
      cases e : tieZ us with
      | none => exact absurd e (hm 0 us (by omega) rfl)
      | some d =>
        dsimp only
        rw [bad_least (L := L) h hz fun m vs hmj hv => hm (m + 1) vs (by omega) hv]
        rfl
theorem tieZ_ok {ws : List Str} {d : D} (h : tieZ ws = some d) : TieD d := by
  unfold tieZ at h
  split at h
  · split at h
    · rename_i a b l hn
      rw [num_law] at h
      by_cases ok : okNum l = true
      · rw [if_pos ok] at h
        cases h
        refine ⟨a, b, (valOf l).toNat, ?_, hn.1, hn.2⟩
        rw [Int.toNat_of_nonneg (num_most ok).1]
      · rw [if_neg ok] at h; cases h
    · cases h
  · cases h
theorem tieD_pure {d : D} (h : TieD d) : pure0 d = true := by
  obtain ⟨a, b, n, rfl, ha, hb⟩ := h
  simp [pure0, pure0s, nm_lay ha, nm_lay hb]
def tieG (ws : List Str) : D := (tieZ ws).getD .non
theorem tieG_pure (ws : List Str) : pure0 (tieG ws) = true := by
  unfold tieG
  cases e : tieZ ws with
  | none => rfl
  | some d => exact tieD_pure (tieZ_ok e)
theorem tieG_non {ws : List Str} : tieG ws = .non ↔ tieZ ws = none := by
  unfold tieG
  cases e : tieZ ws with
  | none => exact ⟨fun _ => rfl, fun _ => rfl⟩
  | some d =>
    obtain ⟨a, b, n, rfl, _, _⟩ := tieZ_ok e
    exact ⟨fun z => (nomatch z), fun z => (nomatch z)⟩
theorem ne_strs0 {f : Bool → Bool} {l : List Str} (ok : ∀ s ∈ l, PyData.strOk s = true) {k : R → Prop} (t : l = [] → k (.d (.bl (f true)))) (n : l ≠ [] → k (.d (.bl (f false)))) : dEqF f (.lst (l.map .str)) (.lst []) k := by
  have a := pure0s_map (f := D.str) (l := l) fun x hx => by unfold pure0; exact ok x hx
  have b : dpts (l.map D.str) ≤ 0 := dpts_map fun _ _ => Nat.le_refl _
  refine dEq_p (by simp [pure0, a]) (by simp [pure0, pure0s]) (by unfold dpt; omega) (by simp [dpt, dpts]) (fun e => t ?_) (fun e => n fun z => e (by rw [z]; rfl))
  exact List.map_eq_nil_iff.mp (D.lst.inj e)
theorem all_no {l : List Str} : l.filter (fun x => !nmOk x) = [] ↔ ∀ p ∈ l, nmOk p = true := by
  rw [List.filter_eq_nil_iff]
  refine forall_congr' fun p => ?_
  cases nmOk p <;> simp
theorem ws_l_due : WsC (Fx := XF) S_l_due t_l_due [.no, .no, .no, .no, .no, .no] := by
  rintro K cn as Φ fx ⟨x, rfl, ⟨hx, hz⟩, h⟩
  unfold t_l_due
  walk_at "d0"
  walk_at "d"
  cases x with
  | str z =>
    obtain ⟨hzl, hzc⟩ := hz z rfl
    obtain ⟨n1, hpl⟩ := words_of z (y := Str.ofString "\n") len_nl
    walk_at "d"
    refine ⟨by decide +kernel, by omega, fun l => ?_⟩
    cases ep : Txt.split z (Str.ofString "\n") with
    | nil => exact absurd ep (split_ne z (by rw [tl_nl]; exact List.cons_ne_nil _ _) kind_nl)
    | cons p0 ps =>
      have el : linesZ z = Txt.split p0 (Str.ofString " ") :: ps.map fun l => Txt.split l (Str.ofString " ") := by
        unfold linesZ
        show (Txt.split z (Str.ofString "\n")).map _ = _
        rw [ep]; rfl
      rw [ep] at n1 hpl
      have hp0 := hpl p0 List.mem_cons_self
      obtain ⟨n2, hwl⟩ := words_of p0 (y := Str.ofString " ") len_sp
      walk_at "d"
      refine dIxC_l (show atI ((p0 :: ps).map D.str) ((0 : Nat) : Int) = _ from atI_nat rfl) ?_
      walk_at "d"
      refine ⟨by decide +kernel, by omega, fun l2 => ?_⟩
      cases ew : Txt.split p0 (Str.ofString " ") with
      | nil => exact absurd ew (split_ne p0 (by rw [tl_sp]; exact List.cons_ne_nil _ _) kind_sp)
      | cons h0 ht =>
        rw [ew] at n2 hwl el
        have edue : dueD (.str z) = if headOk (h0 :: ht) then (match firstBad (ps.map fun l => Txt.split l (Str.ofString " ")) with
          | some j => .lst [.str "line", .int (j + 1 : Nat)]
          | none => webDue ht ((ps.map fun l => Txt.split l (Str.ofString " ")).filterMap tieZ)) else .lst [.str "line", .int 0] := by
          show dueZ z = _
          unfold dueZ
          rw [el]
          rfl
        have hok : ∀ s ∈ ht, PyData.strOk s = true := fun s hs => strOk_low fun c hc => hzc c (hp0.2 c ((hwl s (List.mem_cons_of_mem _ hs)).2 c hc))
        walk_at "q"
        refine w_frz 1 rfl ?_
        walk_at "k"
        refine w_frz 2 rfl ?_
        walk_at "k"
        refine w_seq ?_
        walk_at "q"
        rw [show DL.cutD ((h0 :: ht).map D.str) (some 1) none = ht.map D.str from cutD1 (n := 1) (by omega)]
        refine w_frz 3 rfl ?_
        walk_at "k"
        have hhl : ht.length ≤ 99999 := by rw [List.length_cons] at n2; omega
        have hps : ps.length ≤ 99999 := by rw [List.length_cons] at n1; omega
        refine w_seq ?_
        refine w_join (fun δ' => headOk (h0 :: ht) ∧ δ' = [.d (.str z), .d (.lst ((p0 :: ps).map .str)), .d (.lst ((h0 :: ht).map .str)), .d (.lst (ht.map .str)), .no, .no, .no]) ?_ ?_
        · have bad : ∀ {P : Prop}, ¬ headOk (h0 :: ht) → ((∀ b, Φ (.own b (.lst [.str "line", .int 0])) [.d (.str z)]) → P) → P := fun n k => k (by rw [edue, if_neg n] at h; exact h)
          walk_at "d"
          refine dIxC_l (show atI ((h0 :: ht).map D.str) ((0 : Nat) : Int) = _ from atI_nat rfl) ?_
          walk_at "d"
          refine br_n (fun q1 => ?_) (fun q1 => ?_)
          · walk_at "d"
            exact bad (fun n => q1 (Option.some.inj n.1)) fun h => ⟨trivial, h _⟩
          walk_at "d"
          refine ne_strs0 hok (fun q2 => ?_) (fun q2 => ?_)
          · dsimp only [id]
            walk_at "d"
            exact bad (fun n => n.2.1 q2) fun h => ⟨trivial, h _⟩
          dsimp only [id]
          walk_at "d"
          refine we_lc (wi_any ?_)
          walk_at "d"
          refine ⟨_, _, rfl, rfl, by rw [List.length_map]; omega, fun j acc δ' => acc = ((ht.take j).filter fun x => !nmOk x).map D.str ∧ δ' = [.d (.str z), .d (.lst ((p0 :: ps).map .str)), .d (.lst ((h0 :: ht).map .str)), .d (.lst (ht.map .str)), .no, .no, .no], ⟨rfl, rfl⟩, ⟨trivial, trivial⟩, ?_, ?_⟩
          · rintro j d acc ε hd hal ⟨rfl, rfl⟩
            obtain ⟨x, rfl, hx'⟩ := strs_get hd
            have hxw := hwl x (List.mem_cons_of_mem _ (List.mem_of_getElem? hx'))
            refine ⟨⟨trivial, trivial⟩, wgc_name (by simp) rfl ?_⟩
            walk_at "d"
            refine use_l_name (by have := hxw.1; have := hp0.1; omega) (fun c hc => hzc c (hp0.2 c (hxw.2 c hc))) ?_
            walk_at "d"
            refine br_not (br (fun q3 => ?_) (fun q3 => ?_))
            · intro ε4 e4
              subst e4
              refine ⟨?_, rfl⟩
              rw [List.take_add_one, hx', List.filter_append]
              simp [q3]
            · walk_at "d"
              refine ⟨?_, rfl⟩
              rw [List.take_add_one, hx', List.filter_append]
              simp [q3]
          rintro acc δ' hal ⟨rfl, rfl⟩ a4
          rw [List.length_map, List.take_length]
          walk_at "d"
          refine ne_strs0 (fun s hs => hok s (List.mem_filter.mp hs).1) (fun q3 => ?_) (fun q3 => ?_)
          · walk_at "d"
            walk_at "x"
            exact ⟨⟨by rw [q1]; rfl, q2, all_no.mp q3⟩, rfl⟩
          · walk_at "d"
            exact bad (fun n => q3 (all_no.mpr n.2.2)) fun h => ⟨trivial, h _⟩
        rintro δ' ⟨hgood, rfl⟩
        rw [edue, if_pos hgood] at h
        walk_at "d"
        refine we_lc (wi_any ?_)
        walk_at "d"
        rw [show DL.cutD ((p0 :: ps).map D.str) (some 1) none = ps.map D.str from cutD1 (n := 1) (by omega)]
        refine ⟨_, _, rfl, rfl, by rw [List.length_map]; omega, fun j acc δ' => acc = (ps.take j).map (fun l => tieG (Txt.split l (Str.ofString " "))) ∧ δ' = [.d (.str z), .d (.lst ((p0 :: ps).map .str)), .d (.lst ((h0 :: ht).map .str)), .d (.lst (ht.map .str)), .no, .no, .no], ⟨rfl, rfl⟩, ⟨trivial, trivial⟩, ?_, ?_⟩
        · rintro j d acc ε hd hal ⟨rfl, rfl⟩
          obtain ⟨x, rfl, hx'⟩ := strs_get hd
          have hxw := hpl x (List.mem_cons_of_mem _ (List.mem_of_getElem? hx'))
          refine ⟨⟨trivial, trivial⟩, wgc_name (by simp) rfl ?_⟩
          walk_at "d"
          refine use_l_tie (by have := hxw.1; omega) (fun c hc => hzc c (hxw.2 c hc)) ?_
          walk_at "d"
          refine ⟨?_, rfl⟩
          rw [List.take_add_one, hx', List.map_append]
          rfl
        rintro acc δ' hal ⟨rfl, rfl⟩ a5
        rw [List.length_map, List.take_length]
        refine wg_frz ?_
        walk_at "k"
        refine wg_nameN rfl rfl ?_
        walk_at "k"
        walk_at "d"
        have epg : (ps.map fun l => tieG (Txt.split l (Str.ofString " "))) = (ps.map fun l => Txt.split l (Str.ofString " ")).map tieG := by rw [List.map_map]; rfl
        rw [epg]
        generalize hL : (ps.map fun l => Txt.split l (Str.ofString " ")) = L at h
        have hLl : L.length ≤ 99999 := by rw [← hL, List.length_map]; exact hps
        have hpure : pure0s (L.map tieG) = true := pure0s_map fun ws _ => tieG_pure ws
        refine ⟨_, .inl rfl, rfl, hpure, Nat.zero_le _, fun m => ?_, fun m => ?_⟩
        · obtain ⟨ws, hws, e⟩ := List.mem_map.mp m
          have e := tieG_non.mp e
          cases eb : firstBad L with
          | none => exact absurd e ((bad_no eb).1 ws hws)
          | some j =>
            rw [eb] at h
            obtain ⟨⟨us, hu1, hu2⟩, hmin⟩ := bad_is eb
            dsimp only [id] at h ⊢
            walk_at "d"
            refine ⟨_, _, j, rfl, rfl, rfl, hpure, Nat.zero_le _, by rw [List.getElem?_map, hu1, Option.map_some, tieG_non.mpr hu2], fun m hm e => ?_, ?_⟩
            · rw [List.getElem?_map] at e
              cases ev : L[m]? with
              | none => rw [ev] at e; cases e
              | some vs =>
                rw [ev] at e
                exact hmin m vs hm ev (tieG_non.mp (Option.some.inj e))
            walk_at "d"
            rw [show (1 : Int) + (j : Nat) = ((j + 1 : Nat) : Int) by omega]
            exact ⟨trivial, h _⟩
        · have eb : firstBad L = none := by
            cases eb : firstBad L with
            | none => rfl
            | some j =>
              obtain ⟨⟨us, hu1, hu2⟩, _⟩ := bad_is eb
              exact absurd (List.mem_map.mpr ⟨us, List.mem_of_getElem? hu1, tieG_non.mpr hu2⟩) m
          rw [eb] at h
          have eg : L.map tieG = L.filterMap tieZ := by
            have := (bad_no eb).2
            have e2 : L.map tieG = (L.map tieZ).map fun o => o.getD .non := by rw [List.map_map]; rfl
            rw [e2, this, List.map_map]
            exact (List.map_congr_left fun d _ => rfl).trans (List.map_id _)
          rw [eg]
          dsimp only [id] at h ⊢
          walk_at "d"
          walk_at "x"
          walk_at "d"
          have hht : 1 ≤ ht.length := List.length_pos_iff.mpr hgood.2.1
          refine use_web_due (ns := ht) hgood.2.2 hht (Nat.lt_succ_of_le hhl) (fun d hd => ?_) (Nat.lt_of_le_of_lt (List.length_filterMap_le tieZ L) (Nat.lt_succ_of_le hLl)) fun b => ?_
          · obtain ⟨ws, _, e⟩ := List.mem_filterMap.mp hd
            exact tieZ_ok e
          walk_at "d"
          exact ⟨trivial, h _⟩
  | _ => first
    | (have := hx.1; cases this; done)
    | (walk_at "d"
       walk_at "ds"
       walk_at "d"
       exact ⟨trivial, h _⟩)

theorem kind_scan {ns : List Str} : ∀ {es : List D} {acc : List Tie} {n : Nat} {y : D}, (∀ e ∈ es, TieD e) → scanT ns acc es = .inl (n, y) → Kind n y
  | [], acc, n, y, _, h => by cases h
  | e :: es, acc, n, y, hd, h => by
    rw [scan_cons] at h
    cases q : tieR ns acc e with
    | inl z =>
      rw [q] at h
      cases h
      exact kind_tie (hd e List.mem_cons_self) q
    | inr acc' =>
      rw [q] at h
      exact kind_scan (fun d hd' => hd d (List.mem_cons_of_mem _ hd')) h
theorem kind_ties {ns : List Str} {ds : List D} {n : Nat} {y : D} (hd : ∀ e ∈ ds, TieD e) (h : tiesR ns (.lst ds) = .inl (n, y)) : Kind n y := by
  have h : (if ds.length ≤ 40 then scanT ns [] ds else .inl (XNoTies, .lst ds)) = .inl (n, y) := h
  split at h
  · exact kind_scan hd h
  · cases h; unfold Kind; simp
theorem kind_scanN : ∀ {ns acc : List Str} {n : Nat} {y : D}, (∀ x ∈ ns, nmOk x = true) → scanN acc (ns.map .str) = .inl (n, y) → Kind n y
  | [], acc, n, y, _, h => by cases h
  | x :: ns, acc, n, y, hx, h => by
    rw [scanN_step _ _ hx fun _ _ _ _ _ => trivial] at h
    dsimp only at h
    split at h
    · cases h; unfold Kind; simp
    · exact kind_scanN (fun z hz => hx z (List.mem_cons_of_mem _ hz)) h
theorem kind_places {ns : List Str} {n : Nat} {y : D} (hx : ∀ x ∈ ns, nmOk x = true) (h : placesR (.lst (ns.map .str)) = .inl (n, y)) : Kind n y := by
  have h : (if 1 ≤ (ns.map D.str).length ∧ (ns.map D.str).length ≤ 12 then scanN [] (ns.map .str) else .inl (XNoPlaces, .lst (ns.map .str))) = .inl (n, y) := h
  split at h
  · exact kind_scanN hx h
  · cases h; unfold Kind; simp
theorem ties_wb {ns : List Str} {ds : List D} {M : List Tie} (hn : NmOk ns) (h : tiesR ns (.lst ds) = .inr M) : WbOk ns M := by
  have h : (if ds.length ≤ 40 then scanT ns [] ds else .inl (XNoTies, .lst ds)) = .inr M := h
  split at h
  · exact wb_scan hn h (by assumption)
  · cases h
theorem use_read_due {P : R → List Sl → Prop} {Y : Nat → D → Prop} {cn : Cn} {x : D} (hx : inpD x) (bad : ∀ nm t, Kind nm t → dueD x = refR nm t → Y nm t) (good : ∀ ns M b, WbOk ns M → dueD x = .lst [.str "told", toldD ns M] → P (.own b (webD (cn.ad CWeb) ns M)) [.d x]) : S_read_web cn [.d x] P Y := by
  refine ⟨x, rfl, hx.1, hx.2, fun hno => bad XNoText x (.inl rfl) (by cases x <;> first | rfl | exact absurd rfl (hno _)), fun z h L ex el => ?_⟩
  subst ex
  have edue : dueD (.str z) = if headOk h then (match firstBad L with
    | some j => .lst [.str "line", .int (j + 1 : Nat)]
    | none => webDue h.tail (L.filterMap tieZ)) else .lst [.str "line", .int 0] := by
    show dueZ z = _
    unfold dueZ
    rw [el]
    try rfl
  refine ⟨fun hb => bad XBadLine (.int 0) (.inr (.inl rfl)) (by rw [edue, if_neg (show ¬ headOk h from hb)]; rfl), fun hg => ⟨fun j ws hj hz hmin => ?_, fun ds hds => ?_⟩⟩
  · refine bad XBadLine (.int (j + 1 : Nat)) (.inr (.inl rfl)) ?_
    rw [edue, if_pos (show headOk h from hg), bad_least hj hz fun m us hm hu => hmin m us hm hu]
    rfl
  · have e1 : ds = L.filterMap tieZ := by
      have e2 : L.filterMap tieZ = (L.map tieZ).filterMap id := by rw [List.filterMap_map]; rfl
      rw [e2, hds]
      simp
    have eb : firstBad L = none := by
      cases eb : firstBad L with
      | none => rfl
      | some j =>
        obtain ⟨⟨us, hu1, hu2⟩, _⟩ := bad_is eb
        have := congrArg (fun l => l[j]?) hds
        simp only [List.getElem?_map, hu1, Option.map_some, hu2] at this
        cases hds2 : ds[j]? with
        | none => rw [hds2] at this; cases this
        | some y => rw [hds2] at this; cases this
    rw [eb] at edue
    rw [if_pos (show headOk h from hg)] at edue
    dsimp only at edue
    rw [← e1] at edue
    have htd : ∀ e ∈ ds, TieD e := fun e he => by
      rw [e1] at he
      obtain ⟨ws, _, q⟩ := List.mem_filterMap.mp he
      exact tieZ_ok q
    unfold webDue at edue
    cases ep : placesR (.lst (h.tail.map .str)) with
    | inl e =>
      obtain ⟨n, y⟩ := e
      rw [ep] at edue
      exact bad n y (kind_places hg.2.2 ep) edue
    | inr ns =>
      rw [ep] at edue
      dsimp only at edue ⊢
      cases et : tiesR ns (.lst ds) with
      | inl e =>
        obtain ⟨n, y⟩ := e
        rw [et] at edue
        exact bad n y (kind_ties htd et) edue
      | inr M =>
        rw [et] at edue
        exact fun b => good ns M b (ties_wb (places_ok ep) et) edue

theorem ws_l_tried (cn0 : Cn) : WsC (Fx := fun K cn => XF K cn ∧ cn = cn0) (S_l_tried cn0) t_l_tried [.no, .no] := by
  rintro K cn as Φ ⟨fx, rfl⟩ ⟨x, rfl, hx, hown, hd⟩
  unfold t_l_tried
  walk_at "d0"
  walk_at "d"
  refine w_join (fun δ2 => ∃ a s, δ2 = [.d x, .own a (.lst [dueD x]), s]) ?_ (fun δ2 ⟨a, s, e⟩ => ?_)
  · refine w_try (cn := cn) (fun nm t δ' => (∃ a, δ' = [.d x, .own a (.lst []), .no]) ∧ Kind nm t ∧ dueD x = refR nm t) (fun Wx => ?_) (fun nm t δ' ⟨⟨a, e⟩, hk, q⟩ => ?_)
    · walk_at "d"
      refine we_meth ?_
      walk_at "d"
      refine we_callX ?_
      walk_at "d"
      refine ⟨[x], rfl, fun P Y' k1 k2 => use_read_due hx (fun nm t hk q => k2 nm t ⟨⟨_, rfl⟩, hk, q⟩) fun ns M b hw q => k1 _ _ trivial ?_⟩
      walk_at "k"
      walk_at "d"
      refine web_m (by decide +kernel) (by decide +kernel) (by decide +kernel) ?_
      walk_at "d"
      refine ⟨_, toAs_d toAs_nil, List.nodup_nil, use_told hw ?_⟩
      walk_at "k"
      walk_at "d"
      rw [← q]
      exact ⟨trivial, hown _⟩
    · subst e
      rcases hk with rfl | rfl | rfl | rfl | rfl | rfl | rfl | rfl | ⟨rfl, ta, tb, rfl⟩
      · have T : ExcAll K (cn.ad XNoText) ["found"] := by have z := fx.all_NoText; rw [fx.fl_NoText] at z; exact z
        refine ⟨fx.ex_NoText, fun a d => ?_⟩
        rw [fx.fl_NoText]
        walk_at "d"
        refine we_isGp T fx.kit_NoText_NoText ?_
        walk_at "d"
        refine ⟨rfl, ?_⟩
        walk_at "d"
        refine we_xfX (f := "found") T (by simp) (show (xfs [("found" : Str)] t).lookup ("found" : Str) = some t by simp [xfs, List.lookup, show ((Str.ofString "one") == (Str.ofString "other")) = false by decide +kernel]) ?_
        walk_at "d"
        refine ⟨rfl, ?_⟩
        walk_at "d"
        refine we_isGp T fx.kit_NoText_BadLine ?_
        walk_at "d"
        refine ⟨rfl, ?_⟩
        walk_at "d"
        refine we_isGp T fx.kit_NoText_NoPlaces ?_
        walk_at "d"
        refine ⟨rfl, ?_⟩
        walk_at "d"
        refine we_isGp T fx.kit_NoText_Twice ?_
        walk_at "d"
        refine ⟨rfl, ?_⟩
        walk_at "d"
        refine we_isGp T fx.kit_NoText_NoTies ?_
        walk_at "d"
        refine ⟨rfl, ?_⟩
        walk_at "d"
        refine we_isGp T fx.kit_NoText_NoPlace ?_
        walk_at "d"
        refine ⟨rfl, ?_⟩
        walk_at "d"
        refine we_isGp T fx.kit_NoText_Loop ?_
        walk_at "d"
        refine ⟨rfl, ?_⟩
        walk_at "d"
        refine we_isGp T fx.kit_NoText_NoLength ?_
        walk_at "d"
        refine ⟨rfl, ?_⟩
        walk_at "d"
        refine we_isGp T fx.kit_NoText_Tied ?_
        walk_at "d"
        refine ⟨rfl, ?_⟩
        walk_at "d"
        rw [q]
        exact ⟨_, _, rfl⟩
      · have T : ExcAll K (cn.ad XBadLine) ["at"] := by have z := fx.all_BadLine; rw [fx.fl_BadLine] at z; exact z
        refine ⟨fx.ex_BadLine, fun a d => ?_⟩
        rw [fx.fl_BadLine]
        walk_at "d"
        refine we_isGp T fx.kit_BadLine_NoText ?_
        walk_at "d"
        refine ⟨rfl, ?_⟩
        walk_at "d"
        refine we_isGp T fx.kit_BadLine_BadLine ?_
        walk_at "d"
        refine ⟨rfl, ?_⟩
        walk_at "d"
        refine we_xfX (f := "at") T (by simp) (show (xfs [("at" : Str)] t).lookup ("at" : Str) = some t by simp [xfs, List.lookup, show ((Str.ofString "one") == (Str.ofString "other")) = false by decide +kernel]) ?_
        walk_at "d"
        refine ⟨rfl, ?_⟩
        walk_at "d"
        refine we_isGp T fx.kit_BadLine_NoPlaces ?_
        walk_at "d"
        refine ⟨rfl, ?_⟩
        walk_at "d"
        refine we_isGp T fx.kit_BadLine_Twice ?_
        walk_at "d"
        refine ⟨rfl, ?_⟩
        walk_at "d"
        refine we_isGp T fx.kit_BadLine_NoTies ?_
        walk_at "d"
        refine ⟨rfl, ?_⟩
        walk_at "d"
        refine we_isGp T fx.kit_BadLine_NoPlace ?_
        walk_at "d"
        refine ⟨rfl, ?_⟩
        walk_at "d"
        refine we_isGp T fx.kit_BadLine_Loop ?_
        walk_at "d"
        refine ⟨rfl, ?_⟩
        walk_at "d"
        refine we_isGp T fx.kit_BadLine_NoLength ?_
        walk_at "d"
        refine ⟨rfl, ?_⟩
        walk_at "d"
        refine we_isGp T fx.kit_BadLine_Tied ?_
        walk_at "d"
        refine ⟨rfl, ?_⟩
        walk_at "d"
        rw [q]
        exact ⟨_, _, rfl⟩
      · have T : ExcAll K (cn.ad XNoPlaces) ["found"] := by have z := fx.all_NoPlaces; rw [fx.fl_NoPlaces] at z; exact z
        refine ⟨fx.ex_NoPlaces, fun a d => ?_⟩
        rw [fx.fl_NoPlaces]
        walk_at "d"
        refine we_isGp T fx.kit_NoPlaces_NoText ?_
        walk_at "d"
        refine ⟨rfl, ?_⟩
        walk_at "d"
        refine we_isGp T fx.kit_NoPlaces_BadLine ?_
        walk_at "d"
        refine ⟨rfl, ?_⟩
        walk_at "d"
        refine we_isGp T fx.kit_NoPlaces_NoPlaces ?_
        walk_at "d"
        refine ⟨rfl, ?_⟩
        walk_at "d"
        refine we_xfX (f := "found") T (by simp) (show (xfs [("found" : Str)] t).lookup ("found" : Str) = some t by simp [xfs, List.lookup, show ((Str.ofString "one") == (Str.ofString "other")) = false by decide +kernel]) ?_
        walk_at "d"
        refine ⟨rfl, ?_⟩
        walk_at "d"
        refine we_isGp T fx.kit_NoPlaces_Twice ?_
        walk_at "d"
        refine ⟨rfl, ?_⟩
        walk_at "d"
        refine we_isGp T fx.kit_NoPlaces_NoTies ?_
        walk_at "d"
        refine ⟨rfl, ?_⟩
        walk_at "d"
        refine we_isGp T fx.kit_NoPlaces_NoPlace ?_
        walk_at "d"
        refine ⟨rfl, ?_⟩
        walk_at "d"
        refine we_isGp T fx.kit_NoPlaces_Loop ?_
        walk_at "d"
        refine ⟨rfl, ?_⟩
        walk_at "d"
        refine we_isGp T fx.kit_NoPlaces_NoLength ?_
        walk_at "d"
        refine ⟨rfl, ?_⟩
        walk_at "d"
        refine we_isGp T fx.kit_NoPlaces_Tied ?_
        walk_at "d"
        refine ⟨rfl, ?_⟩
        walk_at "d"
        rw [q]
        exact ⟨_, _, rfl⟩
      · have T : ExcAll K (cn.ad XTwice) ["found"] := by have z := fx.all_Twice; rw [fx.fl_Twice] at z; exact z
        refine ⟨fx.ex_Twice, fun a d => ?_⟩
        rw [fx.fl_Twice]
        walk_at "d"
        refine we_isGp T fx.kit_Twice_NoText ?_
        walk_at "d"
        refine ⟨rfl, ?_⟩
        walk_at "d"
        refine we_isGp T fx.kit_Twice_BadLine ?_
        walk_at "d"
        refine ⟨rfl, ?_⟩
        walk_at "d"
        refine we_isGp T fx.kit_Twice_NoPlaces ?_
        walk_at "d"
        refine ⟨rfl, ?_⟩
        walk_at "d"
        refine we_isGp T fx.kit_Twice_Twice ?_
        walk_at "d"
        refine ⟨rfl, ?_⟩
        walk_at "d"
        refine we_xfX (f := "found") T (by simp) (show (xfs [("found" : Str)] t).lookup ("found" : Str) = some t by simp [xfs, List.lookup, show ((Str.ofString "one") == (Str.ofString "other")) = false by decide +kernel]) ?_
        walk_at "d"
        refine ⟨rfl, ?_⟩
        walk_at "d"
        refine we_isGp T fx.kit_Twice_NoTies ?_
        walk_at "d"
        refine ⟨rfl, ?_⟩
        walk_at "d"
        refine we_isGp T fx.kit_Twice_NoPlace ?_
        walk_at "d"
        refine ⟨rfl, ?_⟩
        walk_at "d"
        refine we_isGp T fx.kit_Twice_Loop ?_
        walk_at "d"
        refine ⟨rfl, ?_⟩
        walk_at "d"
        refine we_isGp T fx.kit_Twice_NoLength ?_
        walk_at "d"
        refine ⟨rfl, ?_⟩
        walk_at "d"
        refine we_isGp T fx.kit_Twice_Tied ?_
        walk_at "d"
        refine ⟨rfl, ?_⟩
        walk_at "d"
        rw [q]
        exact ⟨_, _, rfl⟩
      · have T : ExcAll K (cn.ad XNoTies) ["found"] := by have z := fx.all_NoTies; rw [fx.fl_NoTies] at z; exact z
        refine ⟨fx.ex_NoTies, fun a d => ?_⟩
        rw [fx.fl_NoTies]
        walk_at "d"
        refine we_isGp T fx.kit_NoTies_NoText ?_
        walk_at "d"
        refine ⟨rfl, ?_⟩
        walk_at "d"
        refine we_isGp T fx.kit_NoTies_BadLine ?_
        walk_at "d"
        refine ⟨rfl, ?_⟩
        walk_at "d"
        refine we_isGp T fx.kit_NoTies_NoPlaces ?_
        walk_at "d"
        refine ⟨rfl, ?_⟩
        walk_at "d"
        refine we_isGp T fx.kit_NoTies_Twice ?_
        walk_at "d"
        refine ⟨rfl, ?_⟩
        walk_at "d"
        refine we_isGp T fx.kit_NoTies_NoTies ?_
        walk_at "d"
        refine ⟨rfl, ?_⟩
        walk_at "d"
        refine we_xfX (f := "found") T (by simp) (show (xfs [("found" : Str)] t).lookup ("found" : Str) = some t by simp [xfs, List.lookup, show ((Str.ofString "one") == (Str.ofString "other")) = false by decide +kernel]) ?_
        walk_at "d"
        refine ⟨rfl, ?_⟩
        walk_at "d"
        refine we_isGp T fx.kit_NoTies_NoPlace ?_
        walk_at "d"
        refine ⟨rfl, ?_⟩
        walk_at "d"
        refine we_isGp T fx.kit_NoTies_Loop ?_
        walk_at "d"
        refine ⟨rfl, ?_⟩
        walk_at "d"
        refine we_isGp T fx.kit_NoTies_NoLength ?_
        walk_at "d"
        refine ⟨rfl, ?_⟩
        walk_at "d"
        refine we_isGp T fx.kit_NoTies_Tied ?_
        walk_at "d"
        refine ⟨rfl, ?_⟩
        walk_at "d"
        rw [q]
        exact ⟨_, _, rfl⟩
      · have T : ExcAll K (cn.ad XNoPlace) ["found"] := by have z := fx.all_NoPlace; rw [fx.fl_NoPlace] at z; exact z
        refine ⟨fx.ex_NoPlace, fun a d => ?_⟩
        rw [fx.fl_NoPlace]
        walk_at "d"
        refine we_isGp T fx.kit_NoPlace_NoText ?_
        walk_at "d"
        refine ⟨rfl, ?_⟩
        walk_at "d"
        refine we_isGp T fx.kit_NoPlace_BadLine ?_
        walk_at "d"
        refine ⟨rfl, ?_⟩
        walk_at "d"
        refine we_isGp T fx.kit_NoPlace_NoPlaces ?_
        walk_at "d"
        refine ⟨rfl, ?_⟩
        walk_at "d"
        refine we_isGp T fx.kit_NoPlace_Twice ?_
        walk_at "d"
        refine ⟨rfl, ?_⟩
        walk_at "d"
        refine we_isGp T fx.kit_NoPlace_NoTies ?_
        walk_at "d"
        refine ⟨rfl, ?_⟩
        walk_at "d"
        refine we_isGp T fx.kit_NoPlace_NoPlace ?_
        walk_at "d"
        refine ⟨rfl, ?_⟩
        walk_at "d"
        refine we_xfX (f := "found") T (by simp) (show (xfs [("found" : Str)] t).lookup ("found" : Str) = some t by simp [xfs, List.lookup, show ((Str.ofString "one") == (Str.ofString "other")) = false by decide +kernel]) ?_
        walk_at "d"
        refine ⟨rfl, ?_⟩
        walk_at "d"
        refine we_isGp T fx.kit_NoPlace_Loop ?_
        walk_at "d"
        refine ⟨rfl, ?_⟩
        walk_at "d"
        refine we_isGp T fx.kit_NoPlace_NoLength ?_
        walk_at "d"
        refine ⟨rfl, ?_⟩
        walk_at "d"
        refine we_isGp T fx.kit_NoPlace_Tied ?_
        walk_at "d"
        refine ⟨rfl, ?_⟩
        walk_at "d"
        rw [q]
        exact ⟨_, _, rfl⟩
      · have T : ExcAll K (cn.ad XLoop) ["found"] := by have z := fx.all_Loop; rw [fx.fl_Loop] at z; exact z
        refine ⟨fx.ex_Loop, fun a d => ?_⟩
        rw [fx.fl_Loop]
        walk_at "d"
        refine we_isGp T fx.kit_Loop_NoText ?_
        walk_at "d"
        refine ⟨rfl, ?_⟩
        walk_at "d"
        refine we_isGp T fx.kit_Loop_BadLine ?_
        walk_at "d"
        refine ⟨rfl, ?_⟩
        walk_at "d"
        refine we_isGp T fx.kit_Loop_NoPlaces ?_
        walk_at "d"
        refine ⟨rfl, ?_⟩
        walk_at "d"
        refine we_isGp T fx.kit_Loop_Twice ?_
        walk_at "d"
        refine ⟨rfl, ?_⟩
        walk_at "d"
        refine we_isGp T fx.kit_Loop_NoTies ?_
        walk_at "d"
        refine ⟨rfl, ?_⟩
        walk_at "d"
        refine we_isGp T fx.kit_Loop_NoPlace ?_
        walk_at "d"
        refine ⟨rfl, ?_⟩
        walk_at "d"
        refine we_isGp T fx.kit_Loop_Loop ?_
        walk_at "d"
        refine ⟨rfl, ?_⟩
        walk_at "d"
        refine we_xfX (f := "found") T (by simp) (show (xfs [("found" : Str)] t).lookup ("found" : Str) = some t by simp [xfs, List.lookup, show ((Str.ofString "one") == (Str.ofString "other")) = false by decide +kernel]) ?_
        walk_at "d"
        refine ⟨rfl, ?_⟩
        walk_at "d"
        refine we_isGp T fx.kit_Loop_NoLength ?_
        walk_at "d"
        refine ⟨rfl, ?_⟩
        walk_at "d"
        refine we_isGp T fx.kit_Loop_Tied ?_
        walk_at "d"
        refine ⟨rfl, ?_⟩
        walk_at "d"
        rw [q]
        exact ⟨_, _, rfl⟩
      · have T : ExcAll K (cn.ad XNoLength) ["found"] := by have z := fx.all_NoLength; rw [fx.fl_NoLength] at z; exact z
        refine ⟨fx.ex_NoLength, fun a d => ?_⟩
        rw [fx.fl_NoLength]
        walk_at "d"
        refine we_isGp T fx.kit_NoLength_NoText ?_
        walk_at "d"
        refine ⟨rfl, ?_⟩
        walk_at "d"
        refine we_isGp T fx.kit_NoLength_BadLine ?_
        walk_at "d"
        refine ⟨rfl, ?_⟩
        walk_at "d"
        refine we_isGp T fx.kit_NoLength_NoPlaces ?_
        walk_at "d"
        refine ⟨rfl, ?_⟩
        walk_at "d"
        refine we_isGp T fx.kit_NoLength_Twice ?_
        walk_at "d"
        refine ⟨rfl, ?_⟩
        walk_at "d"
        refine we_isGp T fx.kit_NoLength_NoTies ?_
        walk_at "d"
        refine ⟨rfl, ?_⟩
        walk_at "d"
        refine we_isGp T fx.kit_NoLength_NoPlace ?_
        walk_at "d"
        refine ⟨rfl, ?_⟩
        walk_at "d"
        refine we_isGp T fx.kit_NoLength_Loop ?_
        walk_at "d"
        refine ⟨rfl, ?_⟩
        walk_at "d"
        refine we_isGp T fx.kit_NoLength_NoLength ?_
        walk_at "d"
        refine ⟨rfl, ?_⟩
        walk_at "d"
        refine we_xfX (f := "found") T (by simp) (show (xfs [("found" : Str)] t).lookup ("found" : Str) = some t by simp [xfs, List.lookup, show ((Str.ofString "one") == (Str.ofString "other")) = false by decide +kernel]) ?_
        walk_at "d"
        refine ⟨rfl, ?_⟩
        walk_at "d"
        refine we_isGp T fx.kit_NoLength_Tied ?_
        walk_at "d"
        refine ⟨rfl, ?_⟩
        walk_at "d"
        rw [q]
        exact ⟨_, _, rfl⟩
      · have T : ExcAll K (cn.ad XTied) ["other", "one"] := by have z := fx.all_Tied; rw [fx.fl_Tied] at z; exact z
        refine ⟨fx.ex_Tied, fun a d => ?_⟩
        rw [fx.fl_Tied]
        walk_at "d"
        refine we_isGp T fx.kit_Tied_NoText ?_
        walk_at "d"
        refine ⟨rfl, ?_⟩
        walk_at "d"
        refine we_isGp T fx.kit_Tied_BadLine ?_
        walk_at "d"
        refine ⟨rfl, ?_⟩
        walk_at "d"
        refine we_isGp T fx.kit_Tied_NoPlaces ?_
        walk_at "d"
        refine ⟨rfl, ?_⟩
        walk_at "d"
        refine we_isGp T fx.kit_Tied_Twice ?_
        walk_at "d"
        refine ⟨rfl, ?_⟩
        walk_at "d"
        refine we_isGp T fx.kit_Tied_NoTies ?_
        walk_at "d"
        refine ⟨rfl, ?_⟩
        walk_at "d"
        refine we_isGp T fx.kit_Tied_NoPlace ?_
        walk_at "d"
        refine ⟨rfl, ?_⟩
        walk_at "d"
        refine we_isGp T fx.kit_Tied_Loop ?_
        walk_at "d"
        refine ⟨rfl, ?_⟩
        walk_at "d"
        refine we_isGp T fx.kit_Tied_NoLength ?_
        walk_at "d"
        refine ⟨rfl, ?_⟩
        walk_at "d"
        refine we_isGp T fx.kit_Tied_Tied ?_
        walk_at "d"
        refine ⟨rfl, ?_⟩
        walk_at "d"
        refine we_xfX (f := "one") T (by simp) (show (xfs [("other" : Str), ("one" : Str)] (.tup [ta, tb])).lookup ("one" : Str) = some ta by simp [xfs, List.lookup, show ((Str.ofString "one") == (Str.ofString "other")) = false by decide +kernel]) ?_
        walk_at "d"
        refine ⟨rfl, ?_⟩
        walk_at "d"
        refine we_xfX (f := "other") T (by simp) (show (xfs [("other" : Str), ("one" : Str)] (.tup [ta, tb])).lookup ("other" : Str) = some tb by simp [xfs, List.lookup, show ((Str.ofString "one") == (Str.ofString "other")) = false by decide +kernel]) ?_
        walk_at "d"
        refine ⟨rfl, ?_⟩
        walk_at "d"
        rw [q]
        exact ⟨_, _, rfl⟩
  · subst e
    walk_at "d"
    refine br_t ?_
    walk_at "d"
    exact ⟨trivial, hd⟩

theorem bnds_ok : ∀ t ≤ 3, ∀ q ∈ bnds t, q.1 ≤ 5000 ∧ q.2 < 100000 := by decide +kernel
theorem mb_len {m : Nat} {l : List Nat} (h : l.length ≤ m) : MB m l := fun a x b e _ => by
  have := congrArg List.length e
  rw [List.length_append, List.length_append] at this
  omega
theorem mb_mono {m m' : Nat} {l : List Nat} (h : MB m l) (hm : m ≤ m') : MB m' l := fun a x b e hx => Nat.le_trans (h a x b e hx) hm
theorem mb_in {m : Nat} {a x b : List Nat} (h : MB m (a ++ x ++ b)) : MB m x := fun a' x' b' e hx => h (a ++ a') x' (b' ++ b) (by rw [e]; simp) hx
theorem mb_pre {m : Nat} {a b : List Nat} (h : MB m (a ++ b)) : MB m a := mb_in (a := []) (b := b) (by simpa using h)
theorem mb_suf {m : Nat} {a b : List Nat} (h : MB m (a ++ b)) : MB m b := mb_in (a := a) (b := []) (by simpa using h)
theorem mb_app {m m' : Nat} {u v : List Nat} (h : MB m u) (h' : MB m' v) : MB (m + m') (u ++ v) := fun a x b e hx => by
  rcases List.append_eq_append_iff.mp (show u ++ v = a ++ (x ++ b) by rw [e, List.append_assoc]) with ⟨w, e1, e2⟩ | ⟨w, e1, e2⟩
  · have := h' w x b (by rw [e2, List.append_assoc]) hx
    omega
  · rcases List.append_eq_append_iff.mp e2 with ⟨w2, e3, e4⟩ | ⟨w2, e3, e4⟩
    · have := h a x w2 (by rw [e1, e3, List.append_assoc]) hx
      omega
    · have hx1 : w.length ≤ m := h a w [] (by rw [e1]; simp) (fun z => hx (by rw [e3]; exact List.mem_append_left _ z))
      have hx2 : w2.length ≤ m' := h' [] w2 b (by rw [e4]; simp) (fun z => hx (by rw [e3]; exact List.mem_append_right _ z))
      rw [e3, List.length_append]
      omega
theorem mb_nl {m : Nat} {u v : List Nat} (h : MB m u) (h' : MB m v) : MB m (u ++ 10 :: v) := fun a x b e hx => by
  rcases List.append_eq_append_iff.mp (show u ++ 10 :: v = a ++ (x ++ b) by rw [e, List.append_assoc]) with ⟨w, e1, e2⟩ | ⟨w, e1, e2⟩
  · cases w with
    | nil =>
      cases x with
      | nil => exact Nat.zero_le _
      | cons c x =>
        rw [List.nil_append, List.cons_append] at e2
        cases e2
        exact absurd List.mem_cons_self hx
    | cons c w =>
      rw [List.cons_append] at e2
      have e3 := (List.cons.inj e2).2
      exact h' w x b (by rw [e3, List.append_assoc]) hx
  · rcases List.append_eq_append_iff.mp e2 with ⟨w2, e3, e4⟩ | ⟨w2, e3, e4⟩
    · exact h a x w2 (by rw [e1, e3, List.append_assoc]) hx
    · cases w2 with
      | nil =>
        rw [List.append_nil] at e3
        subst e3
        exact h a x [] (by rw [e1]; simp) hx
      | cons c w2 =>
        rw [List.cons_append] at e4
        have := (List.cons.inj e4).1
        subst this
        exact absurd (by rw [e3]; exact List.mem_append_right _ List.mem_cons_self) hx
theorem spl_no : ∀ (L acc : List Nat), 10 ∉ acc → ∀ p ∈ spl [10] 0 acc L, 10 ∉ p
  | [], acc, h, p, hp => by
    rw [spl_nil] at hp
    rw [List.mem_singleton.mp hp]
    exact h
  | c :: r, acc, h, p, hp => by
    have hp : p ∈ (if pre [10] (c :: r) = true then acc :: spl [10] ([10].length - 1) [] r else spl [10] 0 (acc ++ [c]) r) := hp
    split at hp
    · rcases List.mem_cons.mp hp with e | hp
      · rw [e]; exact h
      · exact spl_no r [] (by simp) p hp
    · rename_i hc
      refine spl_no r (acc ++ [c]) (fun q => ?_) p hp
      rcases List.mem_append.mp q with q | q
      · exact h q
      · have := List.mem_singleton.mp q
        subst this
        exact hc rfl
theorem line_no {z p : Str} (h : p ∈ lnsZ z) : 10 ∉ tl p := by
  have e := split_spl z (Str.ofString "\n") (by rw [tl_nl]; exact List.cons_ne_nil _ _) (kind_ok kind_nl)
  have hm : tl p ∈ (Txt.split z (Str.ofString "\n")).map tl := List.mem_map_of_mem h
  rw [e, tl_nl] at hm
  exact spl_no _ [] (by simp) _ hm
theorem join_in {y : Str} : ∀ {ps : List Str} {p : Str}, p ∈ ps → ∃ a b, tl (Str.join y ps) = a ++ tl p ++ b
  | [q], p, h => ⟨[], [], by rw [List.mem_singleton.mp h]; simp [Str.join]⟩
  | q :: r :: s, p, h => by
    have e : tl (Str.join y (q :: r :: s)) = tl q ++ tl y ++ tl (Str.join y (r :: s)) := by
      show tl (q ++ y ++ Str.join y (r :: s)) = _
      rw [tl_append, tl_append]
    rcases List.mem_cons.mp h with e2 | h
    · exact ⟨[], tl y ++ tl (Str.join y (r :: s)), by rw [e, e2]; simp⟩
    · obtain ⟨a, b, e3⟩ := join_in (y := y) h
      exact ⟨tl q ++ tl y ++ a, b, by rw [e, e3]; simp⟩
theorem split_in {z y p : Str} (h : p ∈ Txt.split z y) : ∃ a b, tl z = a ++ tl p ++ b := by
  have := join_in (y := y) h
  rwa [PySem.StrLaws.join_split] at this
theorem line_le {m l n : Nat} {z p : Str} (hz : TxB m l n z) (h : p ∈ lnsZ z) : p.length ≤ m := by
  obtain ⟨a, b, e⟩ := split_in h
  have := hz.m a (tl p) b e (line_no h)
  rwa [← len_tl] at this
theorem mb_join {m : Nat} : ∀ {ps : List Str}, (∀ p ∈ ps, MB m (tl p)) → MB m (tl (Str.join (Str.ofString "\n") ps))
  | [], _ => mb_len (Nat.zero_le _)
  | [p], h => h p (List.mem_singleton.mpr rfl)
  | p :: q :: r, h => by
    have e : tl (Str.join (Str.ofString "\n") (p :: q :: r)) = tl p ++ 10 :: tl (Str.join (Str.ofString "\n") (q :: r)) := by
      show tl (p ++ Str.ofString "\n" ++ Str.join (Str.ofString "\n") (q :: r)) = _
      rw [tl_append, tl_append, tl_nl, List.append_assoc]
      rfl
    rw [e]
    exact mb_nl (h p List.mem_cons_self) (mb_join fun s hs => h s (List.mem_cons_of_mem _ hs))
theorem cnt_join : ∀ {ps : List Str}, (∀ p ∈ ps, 10 ∉ tl p) → ps ≠ [] → (tl (Str.join (Str.ofString "\n") ps)).count 10 + 1 = ps.length
  | [p], h, _ => by
    show (tl p).count 10 + 1 = 1
    rw [List.count_eq_zero.mpr (h p (List.mem_singleton.mpr rfl))]
  | p :: q :: r, h, _ => by
    have e : tl (Str.join (Str.ofString "\n") (p :: q :: r)) = tl p ++ 10 :: tl (Str.join (Str.ofString "\n") (q :: r)) := by
      show tl (p ++ Str.ofString "\n" ++ Str.join (Str.ofString "\n") (q :: r)) = _
      rw [tl_append, tl_append, tl_nl, List.append_assoc]
      rfl
    rw [e, List.count_append, List.count_cons_self, List.count_eq_zero.mpr (h p List.mem_cons_self)]
    have := cnt_join (ps := q :: r) (fun s hs => h s (List.mem_cons_of_mem _ hs)) (List.cons_ne_nil _ _)
    rw [List.length_cons]
    omega
theorem lns_ne (z : Str) : lnsZ z ≠ [] := split_ne z (by rw [tl_nl]; exact List.cons_ne_nil _ _) kind_nl
theorem lns_len {m l n : Nat} {z : Str} (hz : TxB m l n z) : (lnsZ z).length ≤ n := by
  have := cnt_join (ps := lnsZ z) (fun p hp => line_no hp) (lns_ne z)
  have e : Str.join (Str.ofString "\n") (lnsZ z) = z := PySem.StrLaws.join_split z _
  rw [e] at this
  have := hz.n
  omega
theorem line_low {m l n : Nat} {z p : Str} (hz : TxB m l n z) (h : p ∈ lnsZ z) : ∀ c ∈ tl p, c < 128 := fun c hc => by
  obtain ⟨a, b, e⟩ := split_in h
  exact hz.low c (by rw [e]; exact List.mem_append_left _ (List.mem_append_right _ hc))
/-- lines joined -/
theorem tx_join {m l n : Nat} {ps : List Str} (h0 : ps ≠ []) (h : ∀ p ∈ ps, 10 ∉ tl p ∧ p.length ≤ m ∧ ∀ c ∈ tl p, c < 128) (hl : (ps.map (·.length)).sum + ps.length ≤ l + 1) (hn : ps.length ≤ n) : TxB m l n (Str.join (Str.ofString "\n") ps) := by
  refine ⟨mb_join fun p hp => mb_len (by rw [← len_tl]; exact (h p hp).2.1), ?_, by rw [cnt_join (fun p hp => (h p hp).1) h0]; exact hn, fun c hc => ?_⟩
  · have : ∀ ps : List Str, ps ≠ [] → (Str.join (Str.ofString "\n") ps).length + 1 = (ps.map (·.length)).sum + ps.length := by
      intro ps
      induction ps with
      | nil => intro h; exact absurd rfl h
      | cons p r ih =>
        intro _
        cases r with
        | nil => show p.length + 1 = p.length + 0 + 1; omega
        | cons q r =>
          have := ih (List.cons_ne_nil _ _)
          show (p ++ Str.ofString "\n" ++ Str.join (Str.ofString "\n") (q :: r)).length + 1 = _
          rw [len_app, len_app, len_nl, List.map_cons, List.sum_cons, List.length_cons]
          omega
    have := this ps h0
    omega
  · have hc : c ∈ tl (Str.join (Str.ofString "\n") ps) := hc
    rw [tl_join, tl_nl] at hc
    rcases mem_joinL hc with z | ⟨p, hp, z⟩
    · simp at z; omega
    · obtain ⟨q, hq, e⟩ := List.mem_map.mp hp
      subst e
      exact (h q hq).2.2 c z
theorem lns_sum (z : Str) : ((lnsZ z).map (·.length)).sum + (lnsZ z).length = z.length + 1 := by
  have e : Str.join (Str.ofString "\n") (lnsZ z) = z := PySem.StrLaws.join_split z _
  have : ∀ ps : List Str, ps ≠ [] → (Str.join (Str.ofString "\n") ps).length + 1 = (ps.map (·.length)).sum + ps.length := by
    intro ps
    induction ps with
    | nil => intro h; exact absurd rfl h
    | cons p r ih =>
      intro _
      cases r with
      | nil => show p.length + 1 = p.length + 0 + 1; omega
      | cons q r =>
        have := ih (List.cons_ne_nil _ _)
        show (p ++ Str.ofString "\n" ++ Str.join (Str.ofString "\n") (q :: r)).length + 1 = _
        rw [len_app, len_app, len_nl, List.map_cons, List.sum_cons, List.length_cons]
        omega
  have := this (lnsZ z) (lns_ne z)
  rw [e] at this
  omega
theorem len_head91 {ns : List Str} (hn : NmOk ns) : (headS ns).length ≤ 91 := by
  have a := join_len (Str.ofString " ") (("places" : Str) :: ns)
  have b := sum_le (l := (("places" : Str) :: ns)) (m := 6) fun x hx => by
    rcases List.mem_cons.mp hx with e | e
    · subst e; decide +kernel
    · exact (nm_is (hn.ok x e)).2.1
  have c := hn.l2
  rw [len_sp] at a
  rw [List.length_cons] at a b
  show (Str.join (Str.ofString " ") (("places" : Str) :: ns)).length ≤ 91
  omega
theorem line_low' {ws : List Str} (h : ∀ w ∈ ws, ∀ c ∈ tl w, c < 128) : ∀ c ∈ tl (Str.join (Str.ofString " ") ws), c < 128 := fun c hc => by
  rw [tl_join, tl_sp] at hc
  rcases mem_joinL hc with z | ⟨p, hp, z⟩
  · simp at z; omega
  · obtain ⟨w, hw, e⟩ := List.mem_map.mp hp
    subst e
    exact h w hw c z
theorem tx_text {ns : List Str} {T : List Tri} (hn : NmOk ns) (hT : TriOk ns.length T) (hl : T.length ≤ 40) : TxI 0 (wtext ns T) := by
  have hT' : ∀ q ∈ T, q.1 < ns.length ∧ q.2.1 < ns.length := fun q hq => ⟨(hT.ok q hq).1, (hT.ok q hq).2.1⟩
  have hlen := (len_wtext hn hT hl)
  have hsum := hlen.2
  refine ⟨(91, 3000), List.mem_singleton.mpr rfl, ?_⟩
  have nl : (headS ns :: T.map (lineS ns)).length ≤ 41 := by rw [List.length_cons, List.length_map]; omega
  have key := tx_join (m := 91) (l := 40000000) (n := 41) (ps := headS ns :: T.map (lineS ns)) (List.cons_ne_nil _ _) (fun p hp => ?_) ?_ nl
  · exact ⟨key.m, hlen.1, key.n, key.low⟩
  · rcases List.mem_cons.mp hp with e | e
    · subst e
      refine ⟨join_noline (head_ok hn.ok), len_head91 hn, line_low' fun w hw c hc => ?_⟩
      rcases List.mem_cons.mp hw with e | e
      · subst e
        rw [show tl ("places" : Str) = _ from tl_pl] at hc
        simp only [List.mem_cons, List.not_mem_nil, or_false] at hc
        omega
      · have := nm_signs (hn.ok w e) hc; omega
    · obtain ⟨q, hq, e⟩ := List.mem_map.mp e
      subst e
      obtain ⟨h1, h2, _, _, h5⟩ := hT.ok q hq
      refine ⟨join_noline (words_ok hn h1 h2), by have := len_lineS hn h1 h2 h5; omega, line_low' (ws := wordsQ ns q) fun w hw c hc => ?_⟩
      simp only [wordsQ, List.mem_cons, List.not_mem_nil, or_false] at hw
      rcases hw with e | e | e <;> subst e
      · have := nm_signs (nm_at_ok hn h1) hc; omega
      · have := nm_signs (nm_at_ok hn h2) hc; omega
      · have := num_signs hc; omega
  · rw [len_nl, Nat.mul_one] at hsum
    omega

theorem mm_lt {i j : Nat} (h : i < j) : mm j i = (i, j) := Prod.ext (by show min j i = i; omega) (by show max j i = j; omega)
theorem hand_tri {ns : List Str} {L : List Tie} {ds : List D} (hw : WbOk ns L) (h : HandOk ns L ds) : ∃ T : List Tri, ds = T.map (triD ns) ∧ TriOk ns.length T ∧ (T.map triT).Perm L ∧ T.length ≤ 40 := by
  obtain ⟨M, hp, rfl⟩ := h
  let f : Bool × Tie → Tri := fun q => if q.1 = true then (q.2.1.1, q.2.1.2, q.2.2) else (q.2.1.2, q.2.1.1, q.2.2)
  have hM : ∀ q ∈ M, q.2 ∈ L := fun q hq => hp.mem_iff.mp (List.mem_map_of_mem hq)
  have e1 : M.map (fun q => tieW ns q.1 q.2) = (M.map f).map (triD ns) := by
    rw [List.map_map]
    refine List.map_congr_left fun q _ => ?_
    obtain ⟨b, t⟩ := q
    cases b <;> rfl
  have e2 : (M.map f).map triT = M.map Prod.snd := by
    rw [List.map_map]
    refine List.map_congr_left fun q hq => ?_
    obtain ⟨t1, t2, t3, t4, t5⟩ := hw.tie (hM q hq)
    obtain ⟨b, t⟩ := q
    dsimp only at t1 t2 t3
    cases b
    · show (mm t.1.2 t.1.1, t.2) = t
      rw [mm_lt t3]
    · show (mm t.1.1 t.1.2, t.2) = t
      have : mm t.1.1 t.1.2 = t.1 := Prod.ext (by show min t.1.1 t.1.2 = _; omega) (by show max t.1.1 t.1.2 = _; omega)
      rw [this]
  refine ⟨M.map f, e1, ⟨fun q hq => ?_, ?_⟩, by rw [e2]; exact hp, ?_⟩
  · obtain ⟨u, hu, e⟩ := List.mem_map.mp hq
    obtain ⟨t1, t2, t3, t4, t5⟩ := hw.tie (hM u hu)
    subst e
    obtain ⟨b, t⟩ := u
    dsimp only at t1 t2 t3 t4 t5
    cases b
    · exact ⟨t2, t1, fun z => by have z : t.1.2 = t.1.1 := z; omega, t4, t5⟩
    · exact ⟨t1, t2, fun z => by have z : t.1.1 = t.1.2 := z; omega, t4, t5⟩
  · have : ((M.map f).map fun q => (triT q).1) = ((M.map f).map triT).map Prod.fst := by
      generalize M.map f = N
      rw [List.map_map]; rfl
    rw [this, e2]
    exact (hp.map Prod.fst).nodup_iff.mpr hw.nd
  · have := hp.length_eq
    rw [List.length_map] at this ⊢
    rw [this]
    exact hw.le


theorem ws_l_text : WsC (Fx := XF) S_l_text t_l_text [.no, .no, .no, .no] := by
  rintro K cn as Φ fx ⟨b, x, n, nms, L, rfl, hb, hn, hw, h⟩
  have hwo := hw.w
  have hnm := hwo.nm
  have hn12 := hnm.l2
  unfold t_l_text
  walk_at "d0"
  walk_at "d"
  refine ixW_n ?_
  walk_at "d"
  rw [cutDm1, dl_map]
  refine dAdd_l (by rw [List.length_map]; show 1 + _ ≤ _; omega) fun b1 => ?_
  rw [show [D.str (Str.ofString "places")] ++ nms.dropLast.map D.str = (("places" : Str) :: nms.dropLast).map D.str from rfl]
  walk_at "d"
  have hs := sum_le (l := (("places" : Str) :: nms.dropLast)) (m := 6) fun x hx => by
    rcases List.mem_cons.mp hx with e | e
    · subst e; decide +kernel
    · exact (nm_is (hnm.ok x e)).2.1
  rw [List.length_cons] at hs
  refine ex_join (strsD_map _) (by rw [len_sp, List.length_cons]; omega) ?_
  walk_at "d"
  refine we_lc (wi_any ?_)
  walk_at "d"
  refine use_handed hb (by omega) hw fun b3 ds x1 hds hb1 => ?_
  obtain ⟨U, rfl, hU, hUp, hUl⟩ := hand_tri hwo hds
  clear hds
  walk_at "d"
  rename_i b2
  refine ⟨_, _, rfl, rfl, by rw [List.length_map]; omega, fun j acc δ' => acc = ((U.take j).map (lineS nms.dropLast)).map D.str ∧ δ' = [.own b x1, .d (worldD nms L), .own b2 (.lst [.str (headS nms.dropLast)]), .no, .no, .no], ⟨rfl, rfl⟩, ⟨trivial, trivial, trivial, trivial⟩, ?_, ?_⟩
  · rintro j d acc ε hd hal ⟨rfl, rfl⟩
    rw [List.getElem?_map] at hd
    cases e : U[j]? with
    | none => rw [e] at hd; cases hd
    | some q =>
      rw [e] at hd
      have hd := Option.some.inj hd
      subst hd
      obtain ⟨h1, h2, h3, h4, h5⟩ := hU.ok q (List.mem_of_getElem? e)
      have l1 := (nm_is (nm_at_ok hnm h1)).2.1
      have l2 := (nm_is (nm_at_ok hnm h2)).2.1
      have l3 := len_numT h5
      refine ⟨⟨trivial, trivial, trivial, trivial⟩, ?_⟩
      unfold triD
      refine wgc_s3 (wgc_name (by simp) rfl (wgc_name (by simp) rfl (wgc_name (by simp) rfl ?_)))
      walk_at "d"
      refine ⟨_, rfl, _, rfl, log_nat h5, ?_⟩
      rw [show (toString ((q.2.2 : Nat) : Int) : Str) = numT q.2.2 from rfl]
      walk_at "d"
      refine ex_join (ys := wordsQ nms.dropLast q) rfl (by
        show (nmAt nms.dropLast q.1).length + ((nmAt nms.dropLast q.2.1).length + ((numT q.2.2).length + 0)) + 3 * (Str.ofString " ").length ≤ _
        rw [len_sp]; omega) ?_
      walk_at "d"
      refine ⟨?_, rfl⟩
      rw [List.take_add_one, e, List.map_append, List.map_append]
      rfl
  rintro acc δ' hal ⟨rfl, rfl⟩ a3
  rw [List.length_map, List.take_length]
  walk_at "d"
  refine dAdd_l (by rw [List.length_map, List.length_map]; show 1 + _ ≤ _; omega) fun b4 => ?_
  rw [show [D.str (headS nms.dropLast)] ++ (U.map (lineS nms.dropLast)).map D.str = (headS nms.dropLast :: U.map (lineS nms.dropLast)).map D.str from rfl]
  walk_at "d"
  refine ex_join (strsD_map _) (len_wtext hnm hU hUl).2 ?_
  walk_at "d"
  exact ⟨⟨rfl, trivial⟩, h _ _ (tx_text hnm hU hUl) (hb1.mono (by omega))⟩
theorem ws_l_sign : WsC (Fx := XF) S_l_sign t_l_sign [.no] := by
  rintro K cn as Φ fx ⟨b, x, n, rfl, hb, hn, h⟩
  unfold t_l_sign
  walk_at "d0"
  walk_at "d"
  refine use_take hb (by omega) (by omega) (by omega) fun r1 x1 g1 g2 hb1 => ?_
  walk_at "d"
  obtain ⟨w, rfl⟩ := Int.eq_ofNat_of_zero_le g1
  have hw : w < 95 := by omega
  have all : ∀ c ∈ tl (Str.ofString " !\"#$&'()*+,-./0123456789:;<=>?@ABCDEFGHIJKLMNOPQRSTUVWXYZ[\\]^_`abcdefghijklmnopqrstuvwxyz{|}~\n"), c < 128 := by decide +kernel
  have hlen : (tl (Str.ofString " !\"#$&'()*+,-./0123456789:;<=>?@ABCDEFGHIJKLMNOPQRSTUVWXYZ[\\]^_`abcdefghijklmnopqrstuvwxyz{|}~\n")).length = 95 := by decide +kernel
  generalize (Str.ofString " !\"#$&'()*+,-./0123456789:;<=>?@ABCDEFGHIJKLMNOPQRSTUVWXYZ[\\]^_`abcdefghijklmnopqrstuvwxyz{|}~\n") = SG at all hlen ⊢
  have hg : (tl SG)[w]? = some (tl SG)[w] := List.getElem?_eq_getElem (by omega)
  refine dIxC_s (by rw [len_tl]; omega) (atI_nat hg) ?_
  walk_at "d"
  exact ⟨⟨rfl, trivial⟩, h _ _ rfl (fun c hc => by
    have hc : c ∈ [(tl SG)[w]] := hc
    rw [List.mem_singleton.mp hc]
    exact all _ (List.getElem_mem _)) hb1⟩

theorem tl_cutT {z : Str} {n : Nat} : tl (cutS z (some (n : Int)) none) = (tl z).drop n := by
  show (cutS z (some (n : Int)) none).cps.toList = z.cps.toList.drop n
  rw [cut1 (by omega), Int.toNat_natCast]
theorem len_emp : (Str.ofString "").length = 0 := by decide +kernel
theorem tl_emp : tl (Str.ofString "") = [] := by decide +kernel
theorem tx_cut {m l n : Nat} {z s : Str} {k d : Nat} (hz : TxB m l n z) (hs : s.length ≤ 1) (hl : ∀ c ∈ tl s, c < 128) {z' : Str} (e : tl z' = (tl z).take k ++ tl s ++ (tl z).drop (k + d)) : TxS m l n z' := by
  have hs' : (tl s).length ≤ 1 := by rw [← len_tl]; exact hs
  have e1 : tl z = (tl z).take k ++ (tl z).drop k := (List.take_append_drop k _).symm
  have p1 : MB m ((tl z).take k) := mb_pre (b := (tl z).drop k) (by rw [← e1]; exact hz.m)
  have e2 : tl z = (tl z).take (k + d) ++ (tl z).drop (k + d) := (List.take_append_drop (k + d) _).symm
  have p2 : MB m ((tl z).drop (k + d)) := mb_suf (a := (tl z).take (k + d)) (by rw [← e2]; exact hz.m)
  have hlz := hz.l
  have hnz := hz.n
  rw [len_tl] at hlz
  refine .inl ⟨?_, ?_, ?_, fun c hc => ?_⟩
  · rw [e]
    exact mb_mono (mb_app (mb_app p1 (mb_len hs')) p2) (by omega)
  · rw [len_tl, e, List.length_append, List.length_append, List.length_take, List.length_drop]
    omega
  · rw [e, List.count_append, List.count_append]
    have c1 : (tl s).count 10 ≤ 1 := Nat.le_trans List.count_le_length hs'
    have c2 : ((tl z).take k).count 10 + ((tl z).drop k).count 10 = (tl z).count 10 := by rw [← List.count_append, List.take_append_drop]
    have c3 : ((tl z).drop (k + d)).count 10 ≤ ((tl z).drop k).count 10 := by
      rw [← List.drop_drop]
      exact (List.drop_sublist _ _).count_le _
    omega
  · rw [e] at hc
    rcases List.mem_append.mp hc with hc | hc
    · rcases List.mem_append.mp hc with hc | hc
      · exact hz.low c (List.mem_of_mem_take hc)
      · exact hl c hc
    · exact hz.low c (List.mem_of_mem_drop hc)
section
variable {P : R → List Sl → Prop} {b : Addr} {x : D} {k m l n : Nat} {z sp : Str}
theorem use_lines_sp (hb : BoxD k x) (hk : k + 4 < 1000000) (hz : TxB m l n z) (h1 : m ≤ 5000) (h2 : l ≤ 100000) (h3 : n ≤ 200) (hs : nmOk sp = true) (q : ∀ z' x', TxS m l n z' → BoxD (k + 4) x' → P (.d (.str z')) [.own b x', .d (.str z), .d (.str sp)]) :
    ∀ Ψ : R → List Sl → Prop, (∀ r as', ownOut r → P r as' → Ψ r as') → S_l_lines_spoilt [.own b x, .d (.str z), .d (.str sp)] Ψ := fun Ψ kk => ⟨b, x, k, z, sp, m, l, n, rfl, hb, hk, hz, h1, h2, h3, hs, fun z' x' g1 g2 => kk _ _ trivial (q z' x' g1 g2)⟩
theorem use_words_sp (hb : BoxD k x) (hk : k + 4 < 1000000) (hz : TxB m l n z) (h1 : m ≤ 5000) (h2 : l ≤ 100000) (h3 : n ≤ 200) (hs : nmOk sp = true) (q : ∀ z' x', TxS m l n z' → BoxD (k + 4) x' → P (.d (.str z')) [.own b x', .d (.str z), .d (.str sp)]) :
    ∀ Ψ : R → List Sl → Prop, (∀ r as', ownOut r → P r as' → Ψ r as') → S_l_words_spoilt [.own b x, .d (.str z), .d (.str sp)] Ψ := fun Ψ kk => ⟨b, x, k, z, sp, m, l, n, rfl, hb, hk, hz, h1, h2, h3, hs, fun z' x' g1 g2 => kk _ _ trivial (q z' x' g1 g2)⟩
theorem use_sp (hb : BoxD k x) (hk : k + 5 < 1000000) (hz : TxB m l n z) (h1 : m ≤ 5000) (h2 : l ≤ 100000) (h3 : n ≤ 200) (hs : nmOk sp = true) (q : ∀ z' x', TxS m l n z' → BoxD (k + 5) x' → P (.d (.str z')) [.own b x', .d (.str z), .d (.str sp)]) :
    ∀ Ψ : R → List Sl → Prop, (∀ r as', ownOut r → P r as' → Ψ r as') → S_l_spoilt [.own b x, .d (.str z), .d (.str sp)] Ψ := fun Ψ kk => ⟨b, x, k, z, sp, m, l, n, rfl, hb, hk, hz, h1, h2, h3, hs, fun z' x' g1 g2 => kk _ _ trivial (q z' x' g1 g2)⟩
theorem use_sign (hb : BoxD k x) (hk : k + 1 < 1000000) (q : ∀ s x', s.length = 1 → (∀ c ∈ tl s, c < 128) → BoxD (k + 1) x' → P (.d (.str s)) [.own b x']) :
    ∀ Ψ : R → List Sl → Prop, (∀ r as', ownOut r → P r as' → Ψ r as') → S_l_sign [.own b x] Ψ := fun Ψ kk => ⟨b, x, k, rfl, hb, hk, fun s x' g1 g2 g3 => kk _ _ trivial (q s x' g1 g2 g3)⟩
end
theorem ws_l_spoilt : WsC (Fx := XF) S_l_spoilt t_l_spoilt [.no, .no, .no, .no] := by
  rintro K cn as Φ fx ⟨b, x, k, z, sp, m, l, n, rfl, hb, hk, hz, h1, h2, h3, hs, h⟩
  have hzl := hz.l
  unfold t_l_spoilt
  walk_at "d0"
  walk_at "d"
  refine use_take hb (by omega) (by omega) (by omega) fun r1 x1 g1 g2 hb1 => ?_
  walk_at "d"
  refine br_d (fun q1 => ?_) (fun q1 => ?_)
  · walk_at "d"
    refine use_lines_sp hb1 (by omega) hz h1 h2 h3 hs fun z' x' g5 g6 => ?_
    walk_at "d"
    exact ⟨⟨rfl, trivial⟩, h _ _ g5 (g6.mono (by omega))⟩
  walk_at "x"
  walk_at "d"
  refine br_d (fun q2 => ?_) (fun q2 => ?_)
  · walk_at "d"
    refine use_words_sp hb1 (by omega) hz h1 h2 h3 hs fun z' x' g5 g6 => ?_
    walk_at "d"
    exact ⟨⟨rfl, trivial⟩, h _ _ g5 (g6.mono (by omega))⟩
  walk_at "x"
  walk_at "d"
  refine use_take hb1 (by omega) (by omega) (by omega) fun r2 x2 g3 g4 hb2 => ?_
  walk_at "d"
  refine use_take hb2 (by omega) (by omega) (by omega) fun r3 x3 g5 g6 hb3 => ?_
  walk_at "d"
  refine use_sign hb3 (by omega) fun s x4 g7 g8 hb4 => ?_
  walk_at "d"
  obtain ⟨k2, rfl⟩ := Int.eq_ofNat_of_zero_le g3
  have hr3 : r3 = 0 ∨ r3 = 1 ∨ r3 = 2 := by omega
  have hs1 : ∀ c ∈ tl s, c < 128 := g8
  have hz16 : z.length ≤ 100000 := by omega
  refine dSl_s (by omega) ?_
  rcases hr3 with rfl | rfl | rfl
  · walk_at "d"
    refine dAdd_s (by have := cutS_length z none (some (k2 : Int)); omega) ?_
    walk_at "d"
    refine dSl_s (by omega) ?_
    walk_at "d"
    refine dAdd_s (by
      have c1 := cutS_length z none (some (k2 : Int))
      have c2 := cutS_length z (some ((k2 : Int) + 0)) none
      rw [len_app]
      omega) ?_
    walk_at "d"
    refine ⟨⟨rfl, trivial⟩, h _ _ (tx_cut (k := k2) (d := 0) (s := s) hz (by omega) hs1 ?_) (hb4.mono (by omega))⟩
    rw [tl_append, tl_append, cut_h, tl_strL, show ((k2 : Int) + 0) = ((k2 + 0 : Nat) : Int) by omega, tl_cutT]
  · walk_at "d"
    refine dAdd_s (by have := cutS_length z none (some (k2 : Int)); omega) ?_
    walk_at "d"
    refine dSl_s (by omega) ?_
    walk_at "d"
    refine dAdd_s (by
      have c1 := cutS_length z none (some (k2 : Int))
      have c2 := cutS_length z (some ((k2 : Int) + 1)) none
      rw [len_app]
      omega) ?_
    walk_at "d"
    refine ⟨⟨rfl, trivial⟩, h _ _ (tx_cut (k := k2) (d := 1) (s := s) hz (by omega) hs1 ?_) (hb4.mono (by omega))⟩
    rw [tl_append, tl_append, cut_h, tl_strL, show ((k2 : Int) + 1) = ((k2 + 1 : Nat) : Int) by omega, tl_cutT]
  · walk_at "d"
    refine dAdd_s (by have := cutS_length z none (some (k2 : Int)); rw [len_emp]; omega) ?_
    walk_at "d"
    refine dSl_s (by omega) ?_
    walk_at "d"
    refine dAdd_s (by
      have c1 := cutS_length z none (some (k2 : Int))
      have c2 := cutS_length z (some ((k2 : Int) + 1)) none
      rw [len_app]
      rw [len_emp]; omega) ?_
    walk_at "d"
    refine ⟨⟨rfl, trivial⟩, h _ _ (tx_cut (k := k2) (d := 1) (s := (Str.ofString "")) hz (by rw [len_emp]; omega) (fun c hc => by rw [tl_emp] at hc; cases hc) ?_) (hb4.mono (by omega))⟩
    rw [tl_append, tl_append, cut_h, tl_strL, show ((k2 : Int) + 1) = ((k2 + 1 : Nat) : Int) by omega, tl_cutT]

theorem atI_end {xs : List D} {x : D} (h1 : 0 < xs.length) (h : xs[xs.length - 1]? = some x) : atI xs (-1) = some x := by
  obtain ⟨y, ys, e⟩ : ∃ y ys, xs = ys ++ [y] := ⟨xs.getLast (List.ne_nil_of_length_pos h1), xs.dropLast, (List.dropLast_concat_getLast _).symm⟩
  subst e
  rw [List.length_append, List.length_singleton, Nat.add_sub_cancel, List.getElem?_append_right (Nat.le_refl _), Nat.sub_self] at h
  rw [← Option.some.inj h]
  exact atI_last ys y
/-- houses: a web and its world -/
theorem sum_take_drop (L : List Nat) (k : Nat) : (L.take k).sum + (L.drop k).sum = L.sum := by rw [← List.sum_append, List.take_append_drop]
/-- a line put otherwise -/
theorem tx_line {m l n a : Nat} {z p p' : Str} (hz : TxB m l n z) (ha : (lnsZ z)[a]? = some p) (h10 : 10 ∉ tl p') (hl : p'.length ≤ p.length + 10 + max 1001 m) (hlow : ∀ c ∈ tl p', c < 128) : TxS m l n (Str.join (Str.ofString "\n") ((lnsZ z).take a ++ [p'] ++ (lnsZ z).drop (a + 1))) := by
  have hal := (List.getElem?_eq_some_iff.mp ha).1
  have hp := List.mem_of_getElem? ha
  have hpm := line_le hz hp
  have hsum := lns_sum z
  have hn := lns_len hz
  have hzl := hz.l
  have hd : (lnsZ z).drop a = p :: (lnsZ z).drop (a + 1) := by
    have := (List.getElem?_eq_some_iff.mp ha).2
    rw [List.drop_eq_getElem_cons hal, this]
  have s1 := sum_take_drop ((lnsZ z).map (·.length)) a
  rw [← List.map_take, ← List.map_drop, hd, List.map_cons, List.sum_cons] at s1
  have hlen : ((lnsZ z).take a ++ [p'] ++ (lnsZ z).drop (a + 1)).length = (lnsZ z).length := by
    rw [List.length_append, List.length_append, List.length_take, List.length_drop, List.length_singleton]
    omega
  refine .inl (tx_join (by intro e; have := congrArg List.length e; rw [hlen] at this; simp only [List.length_nil] at this; omega) (fun q hq => ?_) ?_ (by rw [hlen]; omega))
  · rcases List.mem_append.mp hq with hq | hq
    · rcases List.mem_append.mp hq with hq | hq
      · have hq := List.mem_of_mem_take hq
        exact ⟨line_no hq, by have := line_le hz hq; omega, line_low hz hq⟩
      · rw [List.mem_singleton.mp hq]
        exact ⟨h10, by omega, hlow⟩
    · have hq := List.mem_of_mem_drop hq
      exact ⟨line_no hq, by have := line_le hz hq; omega, line_low hz hq⟩
  · rw [hlen, List.map_append, List.map_append, List.sum_append, List.sum_append, List.map_singleton, List.sum_singleton]
    omega
theorem words_sum (p : Str) : ((Txt.split p (Str.ofString " ")).map (·.length)).sum + (Txt.split p (Str.ofString " ")).length = p.length + 1 := by
  have e : Str.join (Str.ofString " ") (Txt.split p (Str.ofString " ")) = p := PySem.StrLaws.join_split p _
  have : ∀ ps : List Str, ps ≠ [] → (Str.join (Str.ofString " ") ps).length + 1 = (ps.map (·.length)).sum + ps.length := by
    intro ps
    induction ps with
    | nil => intro h; exact absurd rfl h
    | cons p r ih =>
      intro _
      cases r with
      | nil => show p.length + 1 = p.length + 0 + 1; omega
      | cons q r =>
        have := ih (List.cons_ne_nil _ _)
        show (p ++ Str.ofString " " ++ Str.join (Str.ofString " ") (q :: r)).length + 1 = _
        rw [len_app, len_app, len_sp, List.map_cons, List.sum_cons, List.length_cons]
        omega
  have := this _ (split_ne p (by rw [tl_sp]; exact List.cons_ne_nil _ _) kind_sp)
  rw [e] at this
  omega
/-- words put otherwise -/
theorem words_line {p : Str} {ws : List Str} {q k j : Nat} (hkj : k ≤ j) (hw : ∀ w ∈ ws, w.length ≤ q) (hl : ws.length ≤ 1) : (Str.join (Str.ofString " ") ((Txt.split p (Str.ofString " ")).take k ++ ws ++ (Txt.split p (Str.ofString " ")).drop j)).length ≤ p.length + q + 2 := by
  have a := join_len (Str.ofString " ") ((Txt.split p (Str.ofString " ")).take k ++ ws ++ (Txt.split p (Str.ofString " ")).drop j)
  rw [len_sp, Nat.mul_one] at a
  have b := words_sum p
  generalize Txt.split p (Str.ofString " ") = W at a b ⊢
  have s1 := sum_take_drop (W.map (·.length)) k
  have s2 := sum_take_drop ((W.map (·.length)).drop k) (j - k)
  rw [List.drop_drop, show k + (j - k) = j by omega] at s2
  rw [List.map_append, List.map_append, List.sum_append, List.sum_append, List.map_take, List.map_drop, List.length_append, List.length_append, List.length_take, List.length_drop] at a
  have e : (ws.map (·.length)).sum ≤ q := by
    match ws, hl with
    | [], _ => exact Nat.zero_le _
    | [w], _ => have := hw w (List.mem_singleton.mpr rfl); show w.length + 0 ≤ q; omega
  omega
theorem ws_l_words_spoilt : WsC (Fx := XF) S_l_words_spoilt t_l_words_spoilt [.no, .no, .no, .no, .no, .no, .no, .no] := by
  rintro K cn as Φ fx ⟨b, x, k, z, sp, m, l, n, rfl, hb, hk, hz, h1, h2, h3, hs, h⟩
  have hzl := hz.l
  have hll := lns_len hz
  have hl0 : 1 ≤ (lnsZ z).length := List.length_pos_iff.mpr (lns_ne z)
  unfold t_l_words_spoilt
  walk_at "d0"
  walk_at "d"
  refine use_take hb (by omega) (by omega) (by omega) fun r1 x1 g1 g2 hb1 => ?_
  walk_at "d"
  refine ⟨by decide +kernel, by omega, fun l4 => ?_⟩
  rw [show Txt.split z (Str.ofString "\n") = lnsZ z from rfl]
  walk_at "q"
  refine w_frz 4 rfl ?_
  walk_at "k"
  walk_at "d"
  rw [List.length_map]
  refine use_take hb1 (by omega) (by omega) (by omega) fun r2 x2 g3 g4 hb2 => ?_
  obtain ⟨a, rfl⟩ := Int.eq_ofNat_of_zero_le g3
  have ha : (lnsZ z)[a]? = some (lnsZ z)[a] := List.getElem?_eq_getElem (by omega)
  have hpm := List.mem_of_getElem? ha
  generalize (lnsZ z)[a] = p at ha hpm
  have hpl := line_le hz hpm
  have hp10 := line_no hpm
  have hplo := line_low hz hpm
  obtain ⟨hwn, hww⟩ := words_of p (y := Str.ofString " ") len_sp
  have hwne := split_ne p (y := Str.ofString " ") (by rw [tl_sp]; exact List.cons_ne_nil _ _) kind_sp
  have hw0 : 1 ≤ (Txt.split p (Str.ofString " ")).length := List.length_pos_iff.mpr hwne
  walk_at "d"
  refine dIxC_l (atI_nat (by rw [List.getElem?_map, ha]; rfl)) ?_
  walk_at "d"
  refine ⟨by decide +kernel, by omega, fun l6 => ?_⟩
  walk_at "q"
  refine w_frz 6 rfl ?_
  walk_at "k"
  walk_at "d"
  rw [List.length_map]
  refine use_take hb2 (by omega) (by omega) (by omega) fun r3 x3 g5 g6 hb3 => ?_
  obtain ⟨w, rfl⟩ := Int.eq_ofNat_of_zero_le g5
  walk_at "d"
  refine dMul_s ⟨by decide +kernel, by omega, by omega⟩ ?_
  have m30 : (Txt.mul (Str.ofString "1") 30).length ≤ 31 ∧ ∀ c ∈ tl (Txt.mul (Str.ofString "1") 30), c = 49 := by decide +kernel
  generalize Txt.mul (Str.ofString "1") 30 = u30 at m30 ⊢
  walk_at "d"
  refine dMul_s ⟨by decide +kernel, by omega, by omega⟩ ?_
  have m31 : (Txt.mul (Str.ofString "1") 31).length ≤ 31 ∧ ∀ c ∈ tl (Txt.mul (Str.ofString "1") 31), c = 49 := by decide +kernel
  generalize Txt.mul (Str.ofString "1") 31 = u31 at m31 ⊢
  walk_at "d"
  have hW : ∀ v ∈ Txt.split p (Str.ofString " "), v.length ≤ m ∧ 10 ∉ tl v ∧ ∀ c ∈ tl v, c < 128 := fun v hv => by
    have q := hww v hv
    exact ⟨by omega, fun z => hp10 (q.2 _ z), fun c hc => hplo c (q.2 c hc)⟩
  have hline := fun (ws : List Str) (q k j : Nat) => words_line (p := p) (ws := ws) (q := q) (k := k) (j := j)
  generalize hWe : Txt.split p (Str.ofString " ") = W at hwn hww hwne hw0 hW hline g6 ⊢
  have hg0 : W[0]? = some W[0] := List.getElem?_eq_getElem (by omega)
  refine dIxC_l (atI_nat (j := 0) (by rw [List.getElem?_map, hg0]; rfl)) ?_
  have hW0 := hW _ (List.getElem_mem (l := W) (n := 0) (by omega))
  generalize W[0] = w0 at hW0 ⊢
  walk_at "q"
  refine w_frz 8 rfl ?_
  walk_at "k"
  walk_at "d"
  refine use_take hb3 (by omega) (by omega) (by omega) fun r4 x4 g7 g8 hb4 => ?_
  obtain ⟨e4, rfl⟩ := Int.eq_ofNat_of_zero_le g7
  walk_at "d"
  have he4 : e4 < 14 := by omega
  have okc : ∀ {y : Str}, (y.length ≤ 31 ∧ 10 ∉ tl y ∧ ∀ c ∈ tl y, c < 128) → (y.length ≤ max 31 m ∧ 10 ∉ tl y ∧ ∀ c ∈ tl y, c < 128) := fun h => ⟨by omega, h.2⟩
  have hsp : sp.length ≤ 31 ∧ 10 ∉ tl sp ∧ ∀ c ∈ tl sp, c < 128 := ⟨by have := (nm_is hs).2.1; omega, fun c => by have := nm_signs hs c; omega, fun c hc => by have := nm_signs hs hc; omega⟩
  have all : ∀ d ∈ [D.str (Str.ofString "0"), D.str (Str.ofString "07"), D.str (Str.ofString "-1"), D.str u30, D.str u31, D.str (Str.ofString "1000001"), D.str (Str.ofString "1.0"), D.str (Str.ofString ""), D.str (Str.ofString "places"), D.str (Str.ofString "abcdefg"), D.str (Str.ofString "A"), D.str sp, D.str w0, D.str (Str.ofString "+5")], ∃ y, d = .str y ∧ (y.length ≤ max 31 m ∧ 10 ∉ tl y ∧ ∀ c ∈ tl y, c < 128) := by
    intro d hd
    simp only [List.mem_cons, List.not_mem_nil, or_false] at hd
    rcases hd with rfl | rfl | rfl | rfl | rfl | rfl | rfl | rfl | rfl | rfl | rfl | rfl | rfl | rfl
    · exact ⟨_, rfl, okc (by decide +kernel)⟩
    · exact ⟨_, rfl, okc (by decide +kernel)⟩
    · exact ⟨_, rfl, okc (by decide +kernel)⟩
    · exact ⟨_, rfl, okc ⟨m30.1, fun z => absurd (m30.2 _ z) (by omega), fun c hc => by rw [m30.2 c hc]; omega⟩⟩
    · exact ⟨_, rfl, okc ⟨m31.1, fun z => absurd (m31.2 _ z) (by omega), fun c hc => by rw [m31.2 c hc]; omega⟩⟩
    · exact ⟨_, rfl, okc (by decide +kernel)⟩
    · exact ⟨_, rfl, okc (by decide +kernel)⟩
    · exact ⟨_, rfl, okc (by decide +kernel)⟩
    · exact ⟨_, rfl, okc (by decide +kernel)⟩
    · exact ⟨_, rfl, okc (by decide +kernel)⟩
    · exact ⟨_, rfl, okc (by decide +kernel)⟩
    · exact ⟨_, rfl, okc hsp⟩
    · exact ⟨_, rfl, by omega, hW0.2⟩
    · exact ⟨_, rfl, okc (by decide +kernel)⟩
  have hlen14 : [D.str (Str.ofString "0"), D.str (Str.ofString "07"), D.str (Str.ofString "-1"), D.str u30, D.str u31, D.str (Str.ofString "1000001"), D.str (Str.ofString "1.0"), D.str (Str.ofString ""), D.str (Str.ofString "places"), D.str (Str.ofString "abcdefg"), D.str (Str.ofString "A"), D.str sp, D.str w0, D.str (Str.ofString "+5")].length = 14 := rfl
  generalize [D.str (Str.ofString "0"), D.str (Str.ofString "07"), D.str (Str.ofString "-1"), D.str u30, D.str u31, D.str (Str.ofString "1000001"), D.str (Str.ofString "1.0"), D.str (Str.ofString ""), D.str (Str.ofString "places"), D.str (Str.ofString "abcdefg"), D.str (Str.ofString "A"), D.str sp, D.str w0, D.str (Str.ofString "+5")] = SL at all hlen14 ⊢
  obtain ⟨y, hy, hyo⟩ : ∃ y, SL[e4]? = some (.str y) ∧ (y.length ≤ max 31 m ∧ 10 ∉ tl y ∧ ∀ c ∈ tl y, c < 128) := by
    obtain ⟨y, e, q⟩ := all _ (List.getElem_mem (l := SL) (n := e4) (by omega))
    exact ⟨y, by rw [List.getElem?_eq_getElem (by omega), e], q⟩
  refine dIxC_l (atI_nat hy) ?_
  walk_at "d"
  have hwl : w < W.length := by omega
  have hW16 : W.length ≤ 5001 := by omega
  have E1 : DL.cutD (W.map D.str) none (some (w : Int)) = (W.take w).map D.str := by rw [cut_to, List.map_take]
  have E2 : DL.cutD (W.map D.str) (some ((w : Int) + 1)) none = (W.drop (w + 1)).map D.str := by
    rw [cutD1 (by omega), List.map_drop, show ((w : Int) + 1).toNat = w + 1 by omega]
  have E3 : DL.cutD (W.map D.str) (some (w : Int)) none = (W.drop w).map D.str := by
    rw [cutD1 (by omega), List.map_drop, Int.toNat_natCast]
  have lt : ∀ j : Nat, (W.take j).length ≤ 5001 := fun j => by rw [List.length_take]; omega
  have ld : ∀ j : Nat, (W.drop j).length ≤ 5001 := fun j => by rw [List.length_drop]; omega
  rw [E1]
  refine dAdd_l (by rw [List.length_map]; have := lt w; show _ + 1 ≤ _; omega) fun c1 => ?_
  walk_at "d"
  rw [E2]
  refine dAdd_l (by rw [List.length_append, List.length_map, List.length_map]; have := lt w; have := ld (w + 1); show _ + 1 + _ ≤ _; omega) fun c2 => ?_
  walk_at "d"
  rw [E1]
  refine dAdd_l (by rw [List.length_map]; have := lt w; show _ + 1 ≤ _; omega) fun c3 => ?_
  walk_at "d"
  rw [E3]
  refine dAdd_l (by rw [List.length_append, List.length_map, List.length_map]; have := lt w; have := ld w; show _ + 1 + _ ≤ _; omega) fun c4 => ?_
  walk_at "d"
  rw [E1]
  rw [E2]
  refine dAdd_l (by rw [List.length_map, List.length_map]; have := lt w; have := ld (w + 1); omega) fun c5 => ?_
  walk_at "d"
  rw [E1]
  have hgl : (W.map D.str)[W.length - 1]? = some (.str W[W.length - 1]) := by rw [List.getElem?_map, List.getElem?_eq_getElem (by omega)]; rfl
  have hWl := hW _ (List.getElem_mem (l := W) (n := W.length - 1) (by omega))
  generalize W[W.length - 1] = yl at hgl hWl
  refine dIxC_l (x := .str yl) (atI_end (by rw [List.length_map]; omega) (by rw [List.length_map]; exact hgl)) ?_
  walk_at "d"
  refine dAdd_l (by rw [List.length_map]; have := lt w; show _ + 1 ≤ _; omega) fun c6 => ?_
  walk_at "d"
  rw [E2]
  refine dAdd_l (by rw [List.length_append, List.length_map, List.length_map]; have := lt w; have := ld (w + 1); show _ + 1 + _ ≤ _; omega) fun c7 => ?_
  walk_at "d"
  refine dAdd_l (Nat.le_of_ble_eq_true rfl) fun c8 => ?_
  refine wg_frz ?_
  walk_at "k"
  refine wg_nameN rfl rfl ?_
  walk_at "k"
  have F : ∀ d ∈ [D.lst (List.map D.str (List.take w W) ++ [D.str y] ++ List.map D.str (List.drop (w + 1) W)), D.lst (List.map D.str (List.take w W) ++ [D.str y] ++ List.map D.str (List.drop w W))] ++ [D.lst (List.map D.str (List.take w W) ++ List.map D.str (List.drop (w + 1) W)), D.lst (List.map D.str (List.take w W) ++ [D.str yl] ++ List.map D.str (List.drop (w + 1) W))],
      ∃ (ws : List Str) (j : Nat), w ≤ j ∧ ws.length ≤ 1 ∧ (∀ v ∈ ws, v.length ≤ max 31 m ∧ 10 ∉ tl v ∧ ∀ c ∈ tl v, c < 128) ∧ d = .lst ((W.take w ++ ws ++ W.drop j).map .str) := by
    intro d hd
    simp only [List.mem_append, List.mem_cons, List.not_mem_nil, or_false] at hd
    rcases hd with (rfl | rfl) | (rfl | rfl)
    · exact ⟨[y], w + 1, by omega, Nat.le_refl _, fun v hv => (by rw [List.mem_singleton.mp hv]; exact hyo), by rw [List.map_append, List.map_append]; rfl⟩
    · exact ⟨[y], w, by omega, Nat.le_refl _, fun v hv => (by rw [List.mem_singleton.mp hv]; exact hyo), by rw [List.map_append, List.map_append]; rfl⟩
    · exact ⟨[], w + 1, by omega, Nat.zero_le _, fun v hv => (nomatch hv), by rw [List.append_nil, List.map_append]⟩
    · exact ⟨[yl], w + 1, by omega, Nat.le_refl _, fun v hv => (by rw [List.mem_singleton.mp hv]; exact ⟨by omega, hWl.2⟩), by rw [List.map_append, List.map_append]; rfl⟩
  generalize hFL : [D.lst (List.map D.str (List.take w W) ++ [D.str y] ++ List.map D.str (List.drop (w + 1) W)), D.lst (List.map D.str (List.take w W) ++ [D.str y] ++ List.map D.str (List.drop w W))] ++ [D.lst (List.map D.str (List.take w W) ++ List.map D.str (List.drop (w + 1) W)), D.lst (List.map D.str (List.take w W) ++ [D.str yl] ++ List.map D.str (List.drop (w + 1) W))] = FL at F ⊢
  have hFl : FL.length = 4 := by rw [← hFL]; rfl
  clear hFL
  obtain ⟨e1, rfl⟩ := Int.eq_ofNat_of_zero_le g1
  have he1 : e1 < FL.length := by omega
  obtain ⟨ws, j, hj, hwsl, hws, hfd⟩ := F _ (List.getElem_mem he1)
  have hfg : FL[e1]? = some (.lst ((W.take w ++ ws ++ W.drop j).map .str)) := by rw [List.getElem?_eq_getElem he1, hfd]
  walk_at "d"
  refine dIxC_l (atI_nat hfg) ?_
  walk_at "d"
  have hsumW := words_sum p
  rw [hWe] at hsumW
  have hb1' : ((W.take w ++ ws ++ W.drop j).map (·.length)).sum + (W.take w ++ ws ++ W.drop j).length ≤ p.length + 1 + 5000 + 1 := by
    have s1 := sum_take_drop (W.map (·.length)) w
    have s2 := sum_take_drop ((W.map (·.length)).drop w) (j - w)
    rw [List.drop_drop, show w + (j - w) = j by omega] at s2
    have e : (ws.map (·.length)).sum ≤ 5000 := by
      match ws, hwsl, hws with
      | [], _, _ => exact Nat.zero_le _
      | [v], _, hws => have := (hws v (List.mem_singleton.mpr rfl)).1; show v.length + 0 ≤ 5000; omega
    rw [List.map_append, List.map_append, List.sum_append, List.sum_append, List.map_take, List.map_drop, List.length_append, List.length_append, List.length_take, List.length_drop]
    omega
  refine ex_join (strsD_map _) (by rw [len_sp]; omega) ?_
  have hpj := hline ws (max 31 m) w j hj (fun v hv => (hws v hv).1) hwsl
  have hpm' : ∀ v ∈ W.take w ++ ws ++ W.drop j, 10 ∉ tl v ∧ ∀ c ∈ tl v, c < 128 := fun v hv => by
    rcases List.mem_append.mp hv with hv | hv
    · rcases List.mem_append.mp hv with hv | hv
      · exact (hW v (List.mem_of_mem_take hv)).2
      · exact (hws v hv).2
    · exact (hW v (List.mem_of_mem_drop hv)).2
  have hp10' : 10 ∉ tl (Str.join (Str.ofString " ") (W.take w ++ ws ++ W.drop j)) := fun hc => by
    rw [tl_join, tl_sp] at hc
    rcases mem_joinL hc with z | ⟨q, hq, z⟩
    · simp at z
    · obtain ⟨v, hv, e⟩ := List.mem_map.mp hq
      subst e
      exact (hpm' v hv).1 z
  have hplo' := line_low' (ws := W.take w ++ ws ++ W.drop j) fun v hv => (hpm' v hv).2
  generalize Str.join (Str.ofString " ") (W.take w ++ ws ++ W.drop j) = p' at hpj hp10' hplo' ⊢
  have hres := tx_line (p' := p') hz ha hp10' (by omega) hplo'
  have G1 : DL.cutD ((lnsZ z).map D.str) none (some (a : Int)) = ((lnsZ z).take a).map D.str := by rw [cut_to, List.map_take]
  have G2 : DL.cutD ((lnsZ z).map D.str) (some ((a : Int) + 1)) none = ((lnsZ z).drop (a + 1)).map D.str := by
    rw [cutD1 (by omega), List.map_drop, show ((a : Int) + 1).toNat = a + 1 by omega]
  have hls := lns_sum z
  walk_at "d"
  rw [G1]
  refine dAdd_l (by rw [List.length_map, List.length_take]; show _ + 1 ≤ _; omega) fun c9 => ?_
  walk_at "d"
  rw [G2]
  refine dAdd_l (by rw [List.length_append, List.length_map, List.length_map, List.length_take, List.length_drop]; show _ + 1 + _ ≤ _; omega) fun c10 => ?_
  walk_at "d"
  rw [show ((lnsZ z).take a).map D.str ++ [D.str p'] ++ ((lnsZ z).drop (a + 1)).map D.str = ((lnsZ z).take a ++ [p'] ++ (lnsZ z).drop (a + 1)).map D.str by rw [List.map_append, List.map_append]; rfl]
  refine ex_join (strsD_map _) ?_ ?_
  · have s1 := sum_take_drop ((lnsZ z).map (·.length)) a
    have s2 := sum_take_drop (((lnsZ z).map (·.length)).drop a) 1
    rw [List.drop_drop] at s2
    rw [len_nl, List.map_append, List.map_append, List.sum_append, List.sum_append, List.map_take, List.map_drop, List.length_append, List.length_append, List.length_take, List.length_drop, List.map_singleton, List.sum_singleton, List.length_singleton]
    omega
  walk_at "d"
  exact ⟨⟨rfl, trivial⟩, h _ _ hres (hb4.mono (by omega))⟩

theorem tx_lines {m l n M L N : Nat} {z q : Str} {ps : List Str} (hz : TxB m l n z) (hm : m ≤ M) (h0 : ps ≠ []) (hq : 10 ∉ tl q ∧ q.length ≤ M ∧ ∀ c ∈ tl q, c < 128) (h : ∀ p ∈ ps, p ∈ lnsZ z ∨ p = q) (hl : (ps.map (·.length)).sum + ps.length ≤ L + 1) (hn : ps.length ≤ N) : TxB M L N (Str.join (Str.ofString "\n") ps) := tx_join h0 (fun p hp => by
  rcases h p hp with h | h
  · exact ⟨line_no h, Nat.le_trans (line_le hz h) hm, line_low hz h⟩
  · rw [h]; exact hq) hl hn
theorem tx_emp {m l n : Nat} (hn : 1 ≤ n) : TxB m l n (Str.ofString "") := by
  refine ⟨?_, ?_, ?_, fun c hc => ?_⟩
  · rw [tl_emp]; exact mb_len (Nat.zero_le _)
  · rw [len_emp]; exact Nat.zero_le _
  · rw [tl_emp]; exact hn
  · rw [tl_emp] at hc; cases hc
theorem emp_ok {m : Nat} : 10 ∉ tl (Str.ofString "") ∧ (Str.ofString "").length ≤ m ∧ ∀ c ∈ tl (Str.ofString ""), c < 128 := by
  refine ⟨?_, ?_, fun c hc => ?_⟩
  · rw [tl_emp]; exact fun z => nomatch z
  · rw [len_emp]; exact Nat.zero_le _
  · rw [tl_emp] at hc; cases hc
/-- a line left out -/
theorem tx_del {m l n a : Nat} {z : Str} (hz : TxB m l n z) : TxS m l n (Str.join (Str.ofString "\n") ((lnsZ z).take a ++ (lnsZ z).drop (a + 1))) := by
  have hn := lns_len hz
  have hsum := lns_sum z
  have hzl := hz.l
  by_cases h0 : (lnsZ z).take a ++ (lnsZ z).drop (a + 1) = []
  · rw [h0]
    exact .inl (tx_emp (by have := hz.n; omega))
  · have s1 := sum_take_drop ((lnsZ z).map (·.length)) a
    have s2 := sum_take_drop (((lnsZ z).map (·.length)).drop a) 1
    rw [List.drop_drop] at s2
    refine .inl (tx_lines (q := Str.ofString "") hz (by omega) h0 emp_ok (fun p hp => .inl ?_) ?_ ?_)
    · rcases List.mem_append.mp hp with hp | hp
      · exact List.mem_of_mem_take hp
      · exact List.mem_of_mem_drop hp
    · rw [List.map_append, List.sum_append, List.map_take, List.map_drop, List.length_append, List.length_take, List.length_drop]
      omega
    · rw [List.length_append, List.length_take, List.length_drop]
      omega
/-- a line put in -/
theorem tx_ins {m l n a : Nat} {z q : Str} (hz : TxB m l n z) (hq : 10 ∉ tl q ∧ q.length ≤ 9 + max 1001 m ∧ ∀ c ∈ tl q, c < 128) : TxS m l n (Str.join (Str.ofString "\n") ((lnsZ z).take a ++ [q] ++ (lnsZ z).drop a)) := by
  have hn := lns_len hz
  have hsum := lns_sum z
  have hzl := hz.l
  have hql := hq.2.1
  · have s1 := sum_take_drop ((lnsZ z).map (·.length)) a
    refine .inl (tx_lines (q := q) hz (by omega) (by simp) ⟨hq.1, by omega, hq.2.2⟩ (fun p hp => ?_) ?_ ?_)
    · rcases List.mem_append.mp hp with hp | hp
      · rcases List.mem_append.mp hp with hp | hp
        · exact .inl (List.mem_of_mem_take hp)
        · exact .inr (List.mem_singleton.mp hp)
      · exact .inl (List.mem_of_mem_drop hp)
    · rw [List.map_append, List.map_append, List.sum_append, List.sum_append, List.map_take, List.map_drop, List.map_singleton, List.sum_singleton, List.length_append, List.length_append, List.length_singleton, List.length_take, List.length_drop]
      omega
    · rw [List.length_append, List.length_append, List.length_singleton, List.length_take, List.length_drop]
      omega
theorem sum_perm {l l' : List Nat} (h : l.Perm l') : l.sum = l'.sum := by
  induction h with
  | nil => rfl
  | cons x _ ih => rw [List.sum_cons, List.sum_cons, ih]
  | swap x y l => rw [List.sum_cons, List.sum_cons, List.sum_cons, List.sum_cons]; omega
  | trans _ _ h1 h2 => rw [h1, h2]
/-- the lines in another order, one more among them -/
theorem tx_put {m l n : Nat} {z q : Str} {ps : List Str} (hz : TxB m l n z) (hq : 10 ∉ tl q ∧ q.length ≤ 9 + max 1001 m ∧ ∀ c ∈ tl q, c < 128) (hp : ps.Perm (q :: lnsZ z)) : TxS m l n (Str.join (Str.ofString "\n") ps) := by
  have hn := lns_len hz
  have hsum := lns_sum z
  have hzl := hz.l
  have hql := hq.2.1
  have hs := sum_perm (hp.map (·.length))
  have hl := hp.length_eq
  rw [List.map_cons, List.sum_cons] at hs
  rw [List.length_cons] at hl
  refine .inl (tx_lines (q := q) hz (by omega) (fun e => by rw [e] at hl; simp at hl) ⟨hq.1, by omega, hq.2.2⟩ (fun p h => ?_) (by omega) (by omega))
  rcases List.mem_cons.mp (hp.mem_iff.mp h) with e | e
  · exact .inr e
  · exact .inl e
/-- the lines in another order -/
theorem tx_perm {m l n : Nat} {z : Str} {ps : List Str} (hz : TxB m l n z) (hp : ps.Perm (lnsZ z)) : TxS m l n (Str.join (Str.ofString "\n") ps) := by
  have hn := lns_len hz
  have hsum := lns_sum z
  have hzl := hz.l
  have hs := sum_perm (hp.map (·.length))
  have hl := hp.length_eq
  have h0 : 1 ≤ (lnsZ z).length := List.length_pos_iff.mpr (lns_ne z)
  exact .inl (tx_lines (q := Str.ofString "") hz (by omega) (fun e => by rw [e] at hl; simp at hl; omega) emp_ok (fun p h => .inl (hp.mem_iff.mp h)) (by omega) (by omega))
/-- the second line some times behind -/
theorem tx_mul {m l n r : Nat} {z : Str} (hz : TxB m l n z) (hr : r ≤ 41) : TxS m l n (Str.join (Str.ofString "\n") (lnsZ z ++ (List.replicate r (((lnsZ z).drop 1).take 1)).flatten)) := by
  have hn := lns_len hz
  have hsum := lns_sum z
  have hzl := hz.l
  have h1 : (((lnsZ z).drop 1).take 1).length ≤ 1 := by rw [List.length_take]; omega
  have hin : ∀ p ∈ ((lnsZ z).drop 1).take 1, p ∈ lnsZ z := fun p hp => List.mem_of_mem_drop (List.mem_of_mem_take hp)
  have hle : ∀ p ∈ ((lnsZ z).drop 1).take 1, p.length ≤ m := fun p hp => line_le hz (hin p hp)
  generalize ((lnsZ z).drop 1).take 1 = t at h1 hin hle ⊢
  have key : ∀ k : Nat, ((List.replicate k t).flatten.map (·.length)).sum ≤ k * m ∧ (List.replicate k t).flatten.length ≤ k ∧ ∀ p ∈ (List.replicate k t).flatten, p ∈ lnsZ z := by
    intro k
    induction k with
    | zero => exact ⟨Nat.zero_le _, Nat.le_refl _, fun p hp => nomatch hp⟩
    | succ k ih =>
      obtain ⟨i1, i2, i3⟩ := ih
      have e : (t.map (·.length)).sum ≤ m := by
        match t, h1, hle with
        | [], _, _ => exact Nat.zero_le _
        | [p], _, hle => have := hle p (List.mem_singleton.mpr rfl); show p.length + 0 ≤ m; omega
      rw [List.replicate_succ, List.flatten_cons]
      refine ⟨?_, ?_, fun p hp => ?_⟩
      · rw [List.map_append, List.sum_append, Nat.add_mul, Nat.one_mul]
        omega
      · rw [List.length_append]
        omega
      · rcases List.mem_append.mp hp with hp | hp
        · exact hin p hp
        · exact i3 p hp
  obtain ⟨k1, k2, k3⟩ := key r
  have k4 : r * m ≤ 41 * m := Nat.mul_le_mul_right _ hr
  refine .inr (tx_lines (q := Str.ofString "") hz (Nat.le_refl _) (fun e => lns_ne z (List.append_eq_nil_iff.mp e).1) emp_ok (fun p hp => .inl ?_) ?_ ?_)
  · rcases List.mem_append.mp hp with hp | hp
    · exact hp
    · exact k3 p hp
  · rw [List.map_append, List.sum_append, List.length_append, Nat.mul_add, Nat.mul_one]
    omega
  · rw [List.length_append]
    omega
theorem sortS (ss : List Str) : (ss.map D.str).mergeSort leD = (ss.mergeSort fun a b => leD (.str a) (.str b)).map D.str := (List.map_mergeSort (f := D.str) (r := fun a b => leD (.str a) (.str b)) (s := leD) (l := ss) fun _ _ _ _ => rfl).symm
theorem pyAs_s : ∀ ss : List Str, pyAs (ss.map D.str) = some (ss.map PyData.str)
  | [] => by rw [List.map_nil]; unfold pyAs; rfl
  | s :: ss => by
    rw [List.map_cons]
    unfold pyAs
    rw [show pyA (.str s) = some (.str s) from rfl, pyAs_s ss]
    rfl
theorem alike_s (ss : List Str) : PySem.W.AllAlike (ss.map PyData.str) := .of fun b b' => by simp [PySem.W.alike]
theorem sortable_s (ss : List Str) : PySem.W.Sortable (ss.map PyData.str) := .others fun b => ⟨fun e => (by cases e), fun xs e => (by cases e)⟩
/-- the first line put otherwise, as the text is cut behind it -/
theorem head_put {z p0 p' : Str} {r : List Str} (e : lnsZ z = p0 :: r) : tl (Str.join (Str.ofString "\n") (p' :: r)) = tl p' ++ (tl z).drop p0.length := by
  have e2 : Str.join (Str.ofString "\n") (p0 :: r) = z := by rw [← e]; exact PySem.StrLaws.join_split z _
  cases r with
  | nil =>
    have e3 : z = p0 := e2.symm
    subst e3
    rw [List.drop_of_length_le (by rw [← len_tl]; exact Nat.le_refl _), List.append_nil]
    rfl
  | cons q s =>
    have e3 : ∀ p : Str, tl (Str.join (Str.ofString "\n") (p :: q :: s)) = tl p ++ (tl (Str.ofString "\n") ++ tl (Str.join (Str.ofString "\n") (q :: s))) := fun p => by
      show tl (p ++ Str.ofString "\n" ++ Str.join (Str.ofString "\n") (q :: s)) = _
      rw [tl_append, tl_append, List.append_assoc]
    rw [← e2, e3 p0, e3 p', len_tl p0, List.drop_left]
theorem tx_head {m l n : Nat} {z p0 p' z' : Str} (hz : TxB m l n z) (ha : (lnsZ z)[0]? = some p0) (h10 : 10 ∉ tl p') (hl : p'.length ≤ p0.length + 10 + max 1001 m) (hlow : ∀ c ∈ tl p', c < 128) (e : tl z' = tl p' ++ (tl z).drop p0.length) : TxS m l n z' := by
  have h := tx_line hz ha h10 hl hlow
  cases hq : lnsZ z with
  | nil => rw [hq] at ha; cases ha
  | cons q r =>
    rw [hq] at ha h
    cases ha
    have e2 : Str.join (Str.ofString "\n") ((p0 :: r).take 0 ++ [p'] ++ (p0 :: r).drop (0 + 1)) = z' := str_eq (by
      show tl _ = tl _
      rw [e]
      exact head_put hq)
    rw [e2] at h
    exact h
def wideS (w : Int) : Str := Txt.mul (Str.ofString "q ") w ++ Str.ofString "q"
theorem wide_ok : ∀ w : Int, w = 0 ∨ w = 500 → (wideS w).length ≤ 1001 ∧ 10 ∉ tl (wideS w) ∧ ∀ c ∈ tl (wideS w), c < 128 := by
  intro w h
  rcases h with rfl | rfl <;> decide +kernel
theorem cut_mid {xs : List D} {i j : Nat} : DL.cutD xs (some ((i : Nat) : Int)) (some ((j : Nat) : Int)) = (xs.drop i).take (j - i) := by
  unfold DL.cutD
  rw [HT.sIx_nat, HT.sIx_nat]
  by_cases h : i ≤ xs.length
  · rw [show min i xs.length = i by omega, List.take_eq_take_iff, List.length_drop]
    omega
  · rw [List.drop_eq_nil_of_le (by omega), List.drop_eq_nil_of_le (by omega), List.take_nil, List.take_nil]

theorem ixN_nat {n j : Nat} (h : j < n) : ixN n (j : Int) = some j := by
  unfold ixN
  rw [if_pos (by omega), if_pos (by omega), Int.toNat_natCast]
theorem ws_l_lines_spoilt : WsC (Fx := XF) S_l_lines_spoilt t_l_lines_spoilt [.no, .no, .no, .no, .no, .no] := by
  rintro K cn as Φ fx ⟨b, x, k, z, sp, m, l, n, rfl, hb, hk, hz, h1, h2, h3, hs, h⟩
  have hzl := hz.l
  have hll := lns_len hz
  have hl0 : 1 ≤ (lnsZ z).length := List.length_pos_iff.mpr (lns_ne z)
  have hls := lns_sum z
  unfold t_l_lines_spoilt
  walk_at "d0"
  walk_at "d"
  refine use_take hb (by omega) (by omega) (by omega) fun r1 x1 g1 g2 hb1 => ?_
  walk_at "d"
  refine ⟨by decide +kernel, by omega, fun l4 => ?_⟩
  rw [show Txt.split z (Str.ofString "\n") = lnsZ z from rfl]
  walk_at "d"
  rw [List.length_map]
  refine use_take hb1 (by omega) (by omega) (by omega) fun r2 x2 g3 g4 hb2 => ?_
  obtain ⟨a, rfl⟩ := Int.eq_ofNat_of_zero_le g3
  walk_at "d"
  rw [List.length_map]
  refine use_take hb2 (by omega) (by omega) (by omega) fun r3 x3 g5 g6 hb3 => ?_
  obtain ⟨c, rfl⟩ := Int.eq_ofNat_of_zero_le g5
  have hc : (lnsZ z)[c]? = some (lnsZ z)[c] := List.getElem?_eq_getElem (by omega)
  have hcm := List.mem_of_getElem? hc
  generalize (lnsZ z)[c] = pc at hc hcm
  have G1 : DL.cutD ((lnsZ z).map D.str) none (some (a : Int)) = ((lnsZ z).take a).map D.str := by rw [cut_to, List.map_take]
  have G2 : DL.cutD ((lnsZ z).map D.str) (some ((a : Int) + 1)) none = ((lnsZ z).drop (a + 1)).map D.str := by
    rw [cutD1 (by omega), List.map_drop, show ((a : Int) + 1).toNat = a + 1 by omega]
  have G3 : DL.cutD ((lnsZ z).map D.str) (some (a : Int)) none = ((lnsZ z).drop a).map D.str := by
    rw [cutD1 (by omega), List.map_drop, Int.toNat_natCast]
  have jl : ∀ {ps : List Str} {m' l' n' : Nat}, TxB m' l' n' (Str.join (Str.ofString "\n") ps) → True := fun _ => trivial
  walk_at "d"
  refine br_d (fun q1 => ?_) (fun q1 => ?_)
  · refine w_frz 4 rfl ?_
    walk_at "k"
    walk_at "d"
    rw [G1]
    rw [G2]
    refine dAdd_l (by rw [List.length_map, List.length_map, List.length_take, List.length_drop]; omega) fun c1 => ?_
    walk_at "d"
    rw [← List.map_append]
    refine ex_join (strsD_map _) ?_ ?_
    · have s1 := sum_take_drop ((lnsZ z).map (·.length)) a
      have s2 := sum_take_drop (((lnsZ z).map (·.length)).drop a) 1
      rw [List.drop_drop] at s2
      rw [len_nl, List.map_append, List.sum_append, List.map_take, List.map_drop, List.length_append, List.length_take, List.length_drop]
      omega
    walk_at "d"
    exact ⟨⟨rfl, trivial⟩, h _ _ (tx_del hz) (hb3.mono (by omega))⟩
  walk_at "x"
  walk_at "d"
  refine br_d (fun q2 => ?_) (fun q2 => ?_)
  · refine w_frz 4 rfl ?_
    walk_at "k"
    walk_at "d"
    refine dIxC_l (atI_nat (by rw [List.getElem?_map, hc]; rfl)) ?_
    walk_at "d"
    rw [G1]
    refine dAdd_l (by rw [List.length_map, List.length_take]; show _ + 1 ≤ _; omega) fun c1 => ?_
    walk_at "d"
    rw [G3]
    refine dAdd_l (by rw [List.length_append, List.length_map, List.length_map, List.length_take, List.length_drop]; show _ + 1 + _ ≤ _; omega) fun c2 => ?_
    walk_at "d"
    rw [show ((lnsZ z).take a).map D.str ++ [D.str pc] ++ ((lnsZ z).drop a).map D.str = ((lnsZ z).take a ++ [pc] ++ (lnsZ z).drop a).map D.str by rw [List.map_append, List.map_append]; rfl]
    have hpc := line_le hz hcm
    refine ex_join (strsD_map _) ?_ ?_
    · have s1 := sum_take_drop ((lnsZ z).map (·.length)) a
      rw [len_nl, List.map_append, List.map_append, List.sum_append, List.sum_append, List.map_take, List.map_drop, List.length_append, List.length_append, List.length_take, List.length_drop, List.map_singleton, List.sum_singleton, List.length_singleton]
      omega
    walk_at "d"
    exact ⟨⟨rfl, trivial⟩, h _ _ (tx_ins hz ⟨line_no hcm, by omega, line_low hz hcm⟩) (hb3.mono (by omega))⟩
  walk_at "x"
  walk_at "d"
  refine br_d (fun q3 => ?_) (fun q3 => ?_)
  · have hav : (lnsZ z)[a]? = some (lnsZ z)[a] := List.getElem?_eq_getElem (by omega)
    walk_at "d"
    refine dIxC_l (atI_nat (by rw [List.getElem?_map, hc]; rfl)) ?_
    walk_at "d"
    refine dIxC_l (atI_nat (by rw [List.getElem?_map, hav]; rfl)) ?_
    walk_at "d"
    refine ex_setBL rfl (ixN_nat (by rw [List.length_map]; omega)) ?_
    intro δ3 e
    subst e
    walk_at "d"
    refine ex_setBL rfl (ixN_nat (by rw [List.length_set, List.length_map]; omega)) ?_
    intro δ3 e
    subst e
    have hcv : (lnsZ z)[c]'(by omega) = pc := (List.getElem?_eq_some_iff.mp hc).2
    have hpp : (((lnsZ z).set a pc).set c ((lnsZ z)[a]'(by omega))).Perm (lnsZ z) := by
      have := List.set_set_perm (as := lnsZ z) (i := a) (j := c) (by omega) (by omega)
      rw [hcv] at this
      exact this
    rw [← List.map_set, ← List.map_set]
    walk_at "d"
    refine ex_join (strsD_map _) ?_ ?_
    · rw [sum_perm (hpp.map (·.length)), hpp.length_eq, len_nl]
      omega
    walk_at "d"
    exact ⟨⟨rfl, trivial⟩, h _ _ (tx_perm hz hpp) (hb3.mono (by omega))⟩
  refine w_frz 4 rfl ?_
  walk_at "k"
  walk_at "x"
  walk_at "d"
  have s_nl : (Str.ofString "\n").length ≤ 1 ∧ ∀ c ∈ tl (Str.ofString "\n"), c < 128 := by decide +kernel
  have s_sp : (Str.ofString " ").length ≤ 1 ∧ ∀ c ∈ tl (Str.ofString " "), c < 128 := by decide +kernel
  have pre : ∀ {s : Str}, s.length ≤ 1 ∧ (∀ c ∈ tl s, c < 128) → TxS m l n (s ++ z) := fun {s} q => tx_cut (k := 0) (d := 0) (s := s) hz q.1 q.2 (by rw [tl_append, List.take_zero, List.nil_append, Nat.add_zero, List.drop_zero])
  have suf : ∀ {s : Str}, s.length ≤ 1 ∧ (∀ c ∈ tl s, c < 128) → TxS m l n (z ++ s) := fun {s} q => tx_cut (k := (tl z).length) (d := 0) (s := s) hz q.1 q.2 (by rw [tl_append, List.take_length, Nat.add_zero, List.drop_length, List.append_nil])
  refine br_d (fun q4 => ?_) (fun q4 => ?_)
  · walk_at "d"
    refine dAdd_s (by rw [len_nl]; omega) ?_
    walk_at "d"
    refine dAdd_s (by rw [len_nl]; omega) ?_
    walk_at "d"
    refine dAdd_s (by rw [len_sp]; omega) ?_
    walk_at "d"
    refine dAdd_s (by rw [len_sp]; omega) ?_
    walk_at "d"
    refine use_take hb3 (by omega) (by omega) (by omega) fun r4 x4 g7 g8 hb4 => ?_
    have hr4 : r4 = 0 ∨ r4 = 1 ∨ r4 = 2 ∨ r4 = 3 ∨ r4 = 4 := by omega
    rcases hr4 with rfl | rfl | rfl | rfl | rfl
    · walk_at "d"
      exact ⟨⟨rfl, trivial⟩, h _ _ (suf s_nl) (hb4.mono (by omega))⟩
    · walk_at "d"
      exact ⟨⟨rfl, trivial⟩, h _ _ (pre s_nl) (hb4.mono (by omega))⟩
    · walk_at "d"
      exact ⟨⟨rfl, trivial⟩, h _ _ (suf s_sp) (hb4.mono (by omega))⟩
    · walk_at "d"
      exact ⟨⟨rfl, trivial⟩, h _ _ (pre s_sp) (hb4.mono (by omega))⟩
    · walk_at "d"
      exact ⟨⟨rfl, trivial⟩, h _ _ (.inl (tx_emp (by have := hz.n; omega))) (hb4.mono (by omega))⟩
  walk_at "x"
  walk_at "d"
  have hv0 : (lnsZ z)[0]? = some ((lnsZ z)[0]'(by omega)) := List.getElem?_eq_getElem (by omega)
  have hvm := List.mem_of_getElem? hv0
  generalize (lnsZ z)[0]'(by omega) = p0 at hv0 hvm
  have hp0 := line_le hz hvm
  have hp10 := line_no hvm
  have hplo := line_low hz hvm
  have hwl : ∃ y : Str, ((Txt.split p0 (Str.ofString " ")).map D.str)[((Txt.split p0 (Str.ofString " ")).map D.str).length - 1]? = some (.str y) ∧ y.length ≤ p0.length ∧ 10 ∉ tl y ∧ ∀ c ∈ tl y, c < 128 := by
    have hwne := split_ne p0 (y := Str.ofString " ") (by rw [tl_sp]; exact List.cons_ne_nil _ _) kind_sp
    have hw0 : 1 ≤ (Txt.split p0 (Str.ofString " ")).length := List.length_pos_iff.mpr hwne
    have hg : (Txt.split p0 (Str.ofString " "))[(Txt.split p0 (Str.ofString " ")).length - 1]? = some ((Txt.split p0 (Str.ofString " "))[(Txt.split p0 (Str.ofString " ")).length - 1]'(by omega)) := List.getElem?_eq_getElem (by omega)
    have hm := List.mem_of_getElem? hg
    refine ⟨_, by rw [List.length_map, List.getElem?_map, hg]; rfl, ?_⟩
    generalize (Txt.split p0 (Str.ofString " "))[(Txt.split p0 (Str.ofString " ")).length - 1]'(by omega) = y at hm
    obtain ⟨u, v, e⟩ := split_in hm
    refine ⟨by rw [len_tl, len_tl, e, List.length_append, List.length_append]; omega, fun hc => hp10 (by rw [e]; exact List.mem_append_left _ (List.mem_append_right _ hc)), fun c hc => hplo c (by rw [e]; exact List.mem_append_left _ (List.mem_append_right _ hc))⟩
  obtain ⟨yl, hyl, hyll, hyl10, hyllo⟩ := hwl
  have hwn0 : 0 < ((Txt.split p0 (Str.ofString " ")).map D.str).length := by
    rw [List.length_map]
    exact List.length_pos_iff.mpr (split_ne p0 (y := Str.ofString " ") (by rw [tl_sp]; exact List.cons_ne_nil _ _) kind_sp)
  have hspl := (nm_is hs).2.1
  have hsp10 : 10 ∉ tl sp := fun hc => by have := nm_signs hs hc; omega
  have hsplo : ∀ c ∈ tl sp, c < 128 := fun c hc => by have := nm_signs hs hc; omega
  refine br_d (fun q5 => ?_) (fun q5 => ?_)
  · walk_at "d"
    refine ⟨_, rfl, dIntC_b ?_⟩
    obtain ⟨w, hw1, hw2⟩ : ∃ w : Int, atI [D.int 0, D.int 500] (if decide ((z.length : Int) < 900) = true then 1 else 0) = some (D.int w) ∧ (w = 0 ∨ w = 500) := by
      by_cases hq : (z.length : Int) < 900
      · rw [decide_eq_true hq]; exact ⟨500, rfl, .inr rfl⟩
      · rw [decide_eq_false hq]; exact ⟨0, rfl, .inl rfl⟩
    have hwide := wide_ok w hw2
    have hwl1 : (Txt.mul (Str.ofString "q ") w).length + (Str.ofString "q").length ≤ 1001 := by rw [← len_app]; exact hwide.1
    walk_at "d"
    refine dIxC_l hw1 ?_
    walk_at "d"
    refine dMul_s ⟨by decide +kernel, by rcases hw2 with rfl | rfl <;> omega, by rcases hw2 with rfl | rfl <;> omega⟩ ?_
    walk_at "d"
    refine dAdd_s (by omega) ?_
    rw [show Txt.mul (Str.ofString "q ") w ++ Str.ofString "q" = wideS w from rfl]
    walk_at "d"
    refine dIxC_l (atI_nat (j := 0) (by rw [List.getElem?_map, hv0]; rfl)) ?_
    walk_at "d"
    refine ⟨by decide +kernel, by omega, fun l6 => ?_⟩
    walk_at "d"
    refine dIxC_l (atI_end hwn0 hyl) ?_
    walk_at "d"
    refine use_take hb3 (by omega) (by omega) (by omega) fun r4 x4 g7 g8 hb4 => ?_
    walk_at "d"
    obtain ⟨e4, rfl⟩ := Int.eq_ofNat_of_zero_le g7
    obtain ⟨y, hy, hyl', hy10, hylo⟩ : ∃ y : Str, [D.str yl, D.str sp, D.str (Str.ofString "q w e r t y u i o p a s"), D.str (wideS w)][e4]? = some (.str y) ∧ y.length ≤ max 1001 m ∧ 10 ∉ tl y ∧ ∀ c ∈ tl y, c < 128 := by
      have hr4 : e4 = 0 ∨ e4 = 1 ∨ e4 = 2 ∨ e4 = 3 := by omega
      rcases hr4 with rfl | rfl | rfl | rfl
      · exact ⟨yl, rfl, by omega, hyl10, hyllo⟩
      · exact ⟨sp, rfl, by omega, hsp10, hsplo⟩
      · have : (Str.ofString "q w e r t y u i o p a s").length ≤ 1001 ∧ 10 ∉ tl (Str.ofString "q w e r t y u i o p a s") ∧ ∀ c ∈ tl (Str.ofString "q w e r t y u i o p a s"), c < 128 := by decide +kernel
        exact ⟨_, rfl, by omega, this.2.1, this.2.2⟩
      · exact ⟨_, rfl, by omega, hwide.2.1, hwide.2.2⟩
    refine dIxC_l (atI_nat hy) ?_
    walk_at "d"
    have hcl := cutS_length z (some (p0.length : Int)) none
    refine dIxC_l (atI_nat (j := 0) (by rw [List.getElem?_map, hv0]; rfl)) ?_
    walk_at "d"
    refine dAdd_s (by rw [len_sp]; omega) ?_
    walk_at "d"
    refine dAdd_s (by rw [len_app, len_sp]; omega) ?_
    walk_at "d"
    refine dIxC_l (atI_nat (j := 0) (by rw [List.getElem?_map, hv0]; rfl)) ?_
    walk_at "d"
    refine dSl_s (by omega) ?_
    walk_at "d"
    refine dAdd_s (by rw [len_app, len_app, len_sp]; omega) ?_
    walk_at "d"
    have l1 := tl_append p0 (Str.ofString " ")
    refine ⟨⟨rfl, trivial⟩, h _ _ (tx_head (p0 := p0) (p' := p0 ++ Str.ofString " " ++ y) hz hv0 ?_ ?_ ?_ ?_) (hb4.mono (by omega))⟩
    · rw [tl_append, tl_append, tl_sp]
      intro hc
      rcases List.mem_append.mp hc with hc | hc
      · rcases List.mem_append.mp hc with hc | hc
        · exact hp10 hc
        · simp at hc
      · exact hy10 hc
    · rw [len_app, len_app, len_sp]
      omega
    · rw [tl_append, tl_append, tl_sp]
      intro c hc
      rcases List.mem_append.mp hc with hc | hc
      · rcases List.mem_append.mp hc with hc | hc
        · exact hplo c hc
        · simp at hc; omega
      · exact hylo c hc
    · rw [tl_append (p0 ++ Str.ofString " " ++ y), tl_cutT]
  walk_at "x"
  walk_at "d"
  refine br_d (fun q6 => ?_) (fun q6 => ?_)
  · walk_at "d"
    refine ⟨_, _, rfl, ?_⟩
    walk_at "d"
    refine ⟨_, rfl, dIntC_b ?_⟩
    obtain ⟨w, hw1, hw2⟩ : ∃ w : Nat, atI [D.int 41, D.int 1] (if decide (44 < ((((lnsZ z).map D.str).length : Nat) : Int)) = true then 1 else 0) = some (D.int (w : Nat)) ∧ w ≤ 41 := by
      by_cases hq : 44 < ((((lnsZ z).map D.str).length : Nat) : Int)
      · rw [decide_eq_true hq]; exact ⟨1, rfl, by omega⟩
      · rw [decide_eq_false hq]; exact ⟨41, rfl, by omega⟩
    have E5 : DL.cutD ((lnsZ z).map D.str) (some 1) (some 2) = (((lnsZ z).drop 1).take 1).map D.str := by
      rw [show (1 : Int) = ((1 : Nat) : Int) from rfl, show (2 : Int) = ((2 : Nat) : Int) from rfl, cut_mid, List.map_take, List.map_drop]
    rw [E5]
    have hlen1 : (((lnsZ z).drop 1).take 1).length ≤ 1 := by rw [List.length_take]; omega
    have hsum1 : ((((lnsZ z).drop 1).take 1).map (·.length)).sum ≤ 5000 := by
      have hin : ∀ p ∈ ((lnsZ z).drop 1).take 1, p.length ≤ m := fun p hp => line_le hz (List.mem_of_mem_drop (List.mem_of_mem_take hp))
      generalize ((lnsZ z).drop 1).take 1 = t at hlen1 hin ⊢
      match t, hlen1, hin with
      | [], _, _ => exact Nat.zero_le _
      | [p], _, hin => have := hin p (List.mem_singleton.mpr rfl); show p.length + 0 ≤ 5000; omega
    have hrep : ∀ k : Nat, (List.replicate k (((lnsZ z).drop 1).take 1)).flatten.length ≤ k ∧ ((List.replicate k (((lnsZ z).drop 1).take 1)).flatten.map (·.length)).sum ≤ k * 5000 := by
      intro k
      induction k with
      | zero => exact ⟨Nat.zero_le _, Nat.zero_le _⟩
      | succ k ih =>
        rw [List.replicate_succ, List.flatten_cons, List.map_append, List.sum_append, List.length_append, Nat.add_mul, Nat.one_mul]
        omega
    obtain ⟨hrl, hrs⟩ := hrep w
    have hrs2 : w * 5000 ≤ 41 * 5000 := Nat.mul_le_mul_right _ hw2
    walk_at "d"
    refine dIxC_l hw1 ?_
    refine ⟨w, rfl, by omega, by rw [List.length_map]; exact Nat.le_trans (Nat.mul_le_mul_right _ hlen1) (by omega), fun b5 => ?_⟩
    rw [← List.map_replicate, ← List.map_flatten]
    walk_at "d"
    refine dAdd_l (by rw [List.length_map, List.length_map]; omega) fun c1 => ?_
    rw [← List.map_append]
    walk_at "d"
    refine ex_join (strsD_map _) (by rw [len_nl, List.map_append, List.sum_append, List.length_append]; omega) ?_
    walk_at "d"
    exact ⟨⟨rfl, trivial⟩, h _ _ (tx_mul hz hw2) (hb3.mono (by omega))⟩
  walk_at "x"
  walk_at "d"
  refine ⟨_, ((lnsZ z).drop 1).map PyData.str, rfl, ?_, alike_s _, sortable_s _, ?_, ?_, fun a5 => ?_⟩
  · rw [cutD1 (by omega), ← List.map_drop]
    exact pyAs_s _
  · rw [cutD1 (by omega), List.length_drop, List.length_map]
    omega
  · intro b hb
    obtain ⟨s, _, rfl⟩ := List.mem_map.mp hb
    simp [PyData.depth]
  rw [cutD1 (by omega), show (1 : Int).toNat = 1 from rfl, ← List.map_drop, sortS]
  have hperm := List.mergeSort_perm ((lnsZ z).drop 1) fun a b => leD (.str a) (.str b)
  generalize ((lnsZ z).drop 1).mergeSort (fun a b => leD (.str a) (.str b)) = ss at hperm
  have hssl := hperm.length_eq
  have hsss := sum_perm (hperm.map (·.length))
  have s1 := sum_take_drop ((lnsZ z).map (·.length)) 1
  rw [← List.map_drop] at s1
  have E6 : DL.cutD ((lnsZ z).map D.str) none (some 1) = ((lnsZ z).take 1).map D.str := by rw [List.map_take]; exact cut_to (j := 1)
  rw [E6]
  rw [List.length_drop] at hssl
  walk_at "d"
  refine dAdd_l (by rw [List.length_map, List.length_map, List.length_take]; omega) fun c1 => ?_
  rw [← List.map_append]
  walk_at "d"
  refine dIxC_l (atI_nat (j := 0) (by rw [List.getElem?_map, hv0]; rfl)) ?_
  walk_at "d"
  refine ⟨by decide +kernel, by omega, fun l6 => ?_⟩
  walk_at "d"
  refine dIxC_l (atI_end hwn0 hyl) ?_
  walk_at "d"
  have e5 : (Str.ofString "5").length = 1 ∧ tl (Str.ofString "5") = [53] := by decide +kernel
  have eq : Str.join (Str.ofString " ") [sp, yl, Str.ofString "5"] = sp ++ Str.ofString " " ++ (yl ++ Str.ofString " " ++ Str.ofString "5") := rfl
  refine ex_join (ys := [sp, yl, Str.ofString "5"]) rfl (by rw [len_sp]; show sp.length + (yl.length + ((Str.ofString "5").length + 0)) + 3 * 1 ≤ _; omega) ?_
  have hq : 10 ∉ tl (Str.join (Str.ofString " ") [sp, yl, Str.ofString "5"]) ∧ (Str.join (Str.ofString " ") [sp, yl, Str.ofString "5"]).length ≤ 9 + max 1001 m ∧ ∀ c ∈ tl (Str.join (Str.ofString " ") [sp, yl, Str.ofString "5"]), c < 128 := by
    rw [eq]
    refine ⟨?_, ?_, fun c hc => ?_⟩
    · rw [tl_append, tl_append, tl_append, tl_append, tl_sp, e5.2]
      simp only [List.mem_append, List.mem_singleton]
      rintro ((hc | hc) | ((hc | hc) | hc))
      · exact hsp10 hc
      · omega
      · exact hyl10 hc
      · omega
      · omega
    · rw [len_app, len_app, len_app, len_app, len_sp]
      omega
    · rw [tl_append, tl_append, tl_append, tl_append, tl_sp, e5.2] at hc
      simp only [List.mem_append, List.mem_singleton] at hc
      rcases hc with ((hc | hc) | ((hc | hc) | hc))
      · exact hsplo c hc
      · omega
      · exact hyllo c hc
      · omega
      · omega
  generalize Str.join (Str.ofString " ") [sp, yl, Str.ofString "5"] = q at hq ⊢
  have hql := hq.2.1
  walk_at "d"
  refine dAdd_l (by rw [List.length_map, List.length_append, List.length_take]; show _ + 1 ≤ _; omega) fun c2 => ?_
  walk_at "d"
  rw [show (((lnsZ z).take 1 ++ ss).map D.str ++ [D.str q]) = ((lnsZ z).take 1 ++ ss ++ [q]).map D.str by rw [List.map_append (l₂ := [q])]; rfl]
  refine ex_join (strsD_map _) ?_ ?_
  · rw [len_nl, List.map_append, List.map_append, List.sum_append, List.sum_append, List.map_take, List.length_append, List.length_append, List.length_take, List.map_singleton, List.sum_singleton, List.length_singleton]
    omega
  walk_at "d"
  refine ⟨⟨rfl, trivial⟩, h _ _ (tx_put hz hq ?_) (hb3.mono (by omega))⟩
  have g1 : ((lnsZ z).take 1 ++ ss).Perm (lnsZ z) := by
    have := List.Perm.append_left ((lnsZ z).take 1) hperm
    rwa [List.take_append_drop] at this
  exact (List.perm_append_comm.trans (List.Perm.refl _)).trans (g1.cons q)

/-! what is due may be shown -/
theorem rok_list {l : List D} {w d : Nat} (h : ∀ x ∈ l, rOk x ∧ wt x ≤ w ∧ dpt x ≤ d) : rOks l ∧ wts l ≤ (w + 2) * l.length ∧ dpts l ≤ d := by
  induction l with
  | nil => exact ⟨trivial, Nat.zero_le _, Nat.zero_le _⟩
  | cons x l ih =>
    obtain ⟨a, b, c⟩ := ih fun y hy => h y (List.mem_cons_of_mem _ hy)
    obtain ⟨p, q, r⟩ := h x List.mem_cons_self
    refine ⟨by unfold rOks; exact ⟨p, a⟩, ?_, ?_⟩
    · unfold wts
      rw [List.length_cons, Nat.mul_add, Nat.mul_one]
      omega
    · unfold dpts
      omega
def Sm (y : D) : Prop := rOk y ∧ wt y ≤ 8000000 ∧ dpt y ≤ 10
theorem badN_ok (nm : Nat) : (∀ c ∈ (badN nm).cps.toList, c < 4294967296) ∧ (badN nm).length ≤ 10 := by
  unfold badN
  repeat' split
  all_goals decide +kernel
theorem tied_ok : (∀ c ∈ (Str.ofString "tied").cps.toList, c < 4294967296) ∧ (Str.ofString "tied").length ≤ 10 := by decide +kernel
theorem rp_ref {nm : Nat} {y : D} (h : Sm y) : rpOk (refR nm y) := by
  obtain ⟨h1, h2, h3⟩ := h
  unfold refR
  split
  · split
    · rename_i a b
      unfold rOk rOks rOks rOks at h1
      unfold wt wts wts wts at h2
      unfold dpt dpts dpts dpts at h3
      refine ⟨?_, ?_, ?_⟩
      · unfold rOk rOks rOks rOks rOks
        exact ⟨by unfold rOk; exact tied_ok.1, h1.1, h1.2.1, trivial⟩
      · have e1 : wt (.str (Str.ofString "tied")) ≤ 102 := by unfold wt; have := tied_ok.2; omega
        unfold wt wts wts wts wts
        show wt (.str (Str.ofString "tied")) + 2 + (wt a + 2 + (wt b + 2 + 0)) + 3 ≤ _
        omega
      · have e1 : dpt (.str (Str.ofString "tied")) = 0 := rfl
        unfold dpt dpts dpts dpts dpts
        show max (dpt (.str (Str.ofString "tied"))) (max (dpt a) (max (dpt b) 0)) + 1 ≤ _
        omega
    · exact ⟨trivial, by decide, by decide⟩
  · refine ⟨?_, ?_, ?_⟩
    · unfold rOk rOks rOks rOks
      exact ⟨by unfold rOk; exact (badN_ok nm).1, h1, trivial⟩
    · have e1 : wt (.str (badN nm)) ≤ 102 := by unfold wt; have := (badN_ok nm).2; omega
      unfold wt wts wts wts
      show wt (.str (badN nm)) + 2 + (wt y + 2 + 0) + 3 ≤ _
      omega
    · have e1 : dpt (.str (badN nm)) = 0 := rfl
      unfold dpt dpts dpts dpts
      show max (dpt (.str (badN nm))) (max (dpt y) 0) + 1 ≤ _
      omega
def TieB (d : D) : Prop := ∃ a b, ∃ n : Nat, d = .tup [.str a, .str b, .int (n : Nat)] ∧ nmOk a = true ∧ nmOk b = true ∧ n < 10 ^ 30
theorem log_30 {n : Nat} (h : n < 10 ^ 30) : ((n : Nat) : Int).natAbs.log2 < 1920 := by
  rw [Int.natAbs_natCast]
  by_cases z : n = 0
  · subst z; decide
  · exact Nat.lt_of_lt_of_le ((Nat.log2_lt z).mpr (show n < 2 ^ 100 by have : (10 ^ 30 : Nat) < 2 ^ 100 := by decide
                                                                       omega)) (by decide)
theorem nm_lowR {s : Str} (h : nmOk s = true) : ∀ c ∈ s.cps.toList, c < 4294967296 := fun c hc => by have := nm_signs h hc; omega
theorem sm_nm {a : Str} (h : nmOk a = true) : rOk (.str a) ∧ wt (.str a) ≤ 62 ∧ dpt (.str a) ≤ 0 := by
  have := (nm_is h).2.1
  exact ⟨by unfold rOk; exact nm_lowR h, by unfold wt; omega, Nat.le_refl _⟩
theorem sm_int {n : Nat} (h : n < 10 ^ 30) : rOk (.int (n : Nat)) ∧ wt (.int (n : Nat)) ≤ 1921 ∧ dpt (.int (n : Nat)) ≤ 0 := ⟨by unfold rOk; exact log_30 h, Nat.le_refl _, Nat.le_refl _⟩
theorem sm_tie {d : D} (h : TieB d) : rOk d ∧ wt d ≤ 2060 ∧ dpt d ≤ 1 := by
  obtain ⟨a, b, n, rfl, ha, hb, hn⟩ := h
  obtain ⟨a1, a2, a3⟩ := sm_nm ha
  obtain ⟨b1, b2, b3⟩ := sm_nm hb
  obtain ⟨c1, c2, c3⟩ := sm_int hn
  refine ⟨?_, ?_, ?_⟩
  · unfold rOk rOks rOks rOks rOks
    exact ⟨a1, b1, c1, trivial⟩
  · unfold wt wts wts wts wts
    omega
  · unfold dpt dpts dpts dpts dpts
    omega
theorem sm_two {a b : Str} (ha : nmOk a = true) (hb : nmOk b = true) : rOk (.tup [.str a, .str b]) ∧ wt (.tup [.str a, .str b]) ≤ 2060 ∧ dpt (.tup [.str a, .str b]) ≤ 1 := by
  obtain ⟨a1, a2, a3⟩ := sm_nm ha
  obtain ⟨b1, b2, b3⟩ := sm_nm hb
  refine ⟨?_, ?_, ?_⟩
  · unfold rOk rOks rOks rOks
    exact ⟨a1, b1, trivial⟩
  · unfold wt wts wts wts
    omega
  · unfold dpt dpts dpts dpts
    omega
theorem sm_of {y : D} {w d : Nat} (h : rOk y ∧ wt y ≤ w ∧ dpt y ≤ d) (hw : w ≤ 8000000) (hd : d ≤ 10) : Sm y := ⟨h.1, by have := h.2.1; omega, by have := h.2.2; omega⟩
theorem sm_tieR {ns : List Str} {L : List Tie} {d : D} {n : Nat} {y : D} (h : TieB d) (e : tieR ns L d = .inl (n, y)) : Sm y := by
  have hd := sm_tie h
  obtain ⟨a, b, m, rfl, ha, hb, hm⟩ := h
  have sa := sm_of (sm_nm ha) (by omega) (by omega)
  have sb := sm_of (sm_nm hb) (by omega) (by omega)
  have si := sm_of (sm_int hm) (by omega) (by omega)
  have sd := sm_of hd (by omega) (by omega)
  have s2 := sm_of (sm_two ha hb) (by omega) (by omega)
  unfold tieR at e
  dsimp only at e
  split at e
  · cases e; exact sa
  · split at e
    · cases e; exact sb
    · split at e
      · cases e; exact sd
      · split at e
        · split at e
          · cases e; exact s2
          · cases e
        · cases e; exact si
theorem sm_scan {ns : List Str} : ∀ {es : List D} {acc : List Tie} {n : Nat} {y : D}, (∀ e ∈ es, TieB e) → scanT ns acc es = .inl (n, y) → Sm y
  | [], acc, n, y, _, h => by cases h
  | e :: es, acc, n, y, hd, h => by
    rw [scan_cons] at h
    cases q : tieR ns acc e with
    | inl z =>
      rw [q] at h
      cases h
      exact sm_tieR (hd e List.mem_cons_self) q
    | inr acc' =>
      rw [q] at h
      exact sm_scan (fun d hd' => hd d (List.mem_cons_of_mem _ hd')) h
theorem sm_lst {l : List D} {w d m : Nat} (h : ∀ x ∈ l, rOk x ∧ wt x ≤ w ∧ dpt x ≤ d) (hl : l.length ≤ m) (hw : (w + 2) * m ≤ 7000000) (hd : d ≤ 5) : Sm (.lst l) := by
  obtain ⟨a, b, c⟩ := rok_list h
  have := Nat.mul_le_mul_left (w + 2) hl
  exact ⟨by unfold rOk; exact a, by unfold wt; omega, by unfold dpt; omega⟩
theorem sm_ties {ns : List Str} {ds : List D} {n : Nat} {y : D} (hd : ∀ e ∈ ds, TieB e) (hl : ds.length ≤ 200) (h : tiesR ns (.lst ds) = .inl (n, y)) : Sm y := by
  have h : (if ds.length ≤ 40 then scanT ns [] ds else .inl (XNoTies, .lst ds)) = .inl (n, y) := h
  split at h
  · exact sm_scan hd h
  · cases h
    exact sm_lst (fun x hx => sm_tie (hd x hx)) hl (by omega) (by omega)
theorem sm_scanN : ∀ {ns acc : List Str} {n : Nat} {y : D}, (∀ x ∈ ns, nmOk x = true) → scanN acc (ns.map .str) = .inl (n, y) → Sm y
  | [], acc, n, y, _, h => by cases h
  | x :: ns, acc, n, y, hx, h => by
    rw [scanN_step _ _ hx fun _ _ _ _ _ => trivial] at h
    dsimp only at h
    split at h
    · cases h; exact sm_of (sm_nm (hx x List.mem_cons_self)) (by omega) (by omega)
    · exact sm_scanN (fun z hz => hx z (List.mem_cons_of_mem _ hz)) h
theorem sm_nms {ns : List Str} (hx : ∀ x ∈ ns, nmOk x = true) (hl : ns.length ≤ 100000) : Sm (.lst (ns.map .str)) := sm_lst (w := 62) (d := 0) (m := 100000) (fun x hx' => by
    obtain ⟨s, hs, rfl⟩ := List.mem_map.mp hx'
    exact sm_nm (hx s hs)) (by rw [List.length_map]; exact hl) (by omega) (by omega)
theorem sm_places {ns : List Str} {n : Nat} {y : D} (hx : ∀ x ∈ ns, nmOk x = true) (hl : ns.length ≤ 100000) (h : placesR (.lst (ns.map .str)) = .inl (n, y)) : Sm y := by
  have h : (if 1 ≤ (ns.map D.str).length ∧ (ns.map D.str).length ≤ 12 then scanN [] (ns.map .str) else .inl (XNoPlaces, .lst (ns.map .str))) = .inl (n, y) := h
  split at h
  · exact sm_scanN hx h
  · cases h
    exact sm_nms hx hl
theorem sm_tied {ns : List Str} {L : List Tie} (hw : WbOk ns L) : rpOk (.lst [.str "told", toldD ns L]) := by
  have h1 := rok_list (l := ns.map D.str) (w := 62) (d := 0) fun x hx' => by
    obtain ⟨s, hs, rfl⟩ := List.mem_map.mp hx'
    exact sm_nm (hw.nm.ok s hs)
  have h2 := rok_list (l := tiesD ns L) (w := 2060) (d := 1) fun x hx' => by
    unfold tiesD at hx'
    obtain ⟨t, ht, rfl⟩ := List.mem_map.mp hx'
    have ht' := (sortT_perm L).mem_iff.mp ht
    obtain ⟨t1, t2, _⟩ := hw.tie ht'
    have t3 := (hw.ok t ht').2.2.2
    exact sm_tie ⟨_, _, _, rfl, nm_at_ok hw.nm t1, nm_at_ok hw.nm t2, by omega⟩
  have hl1 := hw.nm.l2
  have hl2 : (tiesD ns L).length ≤ 40 := by unfold tiesD; rw [List.length_map, (sortT_perm L).length_eq]; exact hw.le
  rw [List.length_map] at h1
  have a1 := Nat.mul_le_mul_left 64 hl1
  have a2 := Nat.mul_le_mul_left 2062 hl2
  have ht : (∀ c ∈ (Str.ofString "told").cps.toList, c < 4294967296) ∧ (Str.ofString "told").length ≤ 10 := by decide +kernel
  refine ⟨?_, ?_, ?_⟩
  · unfold toldD
    unfold rOk rOks rOks rOks
    refine ⟨by unfold rOk; exact ht.1, ?_, trivial⟩
    unfold rOk rOks rOks rOks
    exact ⟨by unfold rOk; exact h1.1, by unfold rOk; exact h2.1, trivial⟩
  · unfold toldD
    unfold wt wts wts wts
    have e1 : wt (.str (Str.ofString "told")) ≤ 102 := by unfold wt; omega
    have e2 : wt (.tup [.tup (ns.map D.str), .tup (tiesD ns L)]) ≤ 200000 := by
      unfold wt wts wts wts
      unfold wt
      omega
    show wt (.str (Str.ofString "told")) + 2 + (wt (.tup [.tup (ns.map D.str), .tup (tiesD ns L)]) + 2 + 0) + 3 ≤ _
    omega
  · unfold toldD
    unfold dpt dpts dpts dpts
    unfold dpt dpts dpts dpts
    unfold dpt
    omega
theorem rp_webDue {ns : List Str} {ds : List D} (hx : ∀ x ∈ ns, nmOk x = true) (hl : ns.length ≤ 100000) (hd : ∀ e ∈ ds, TieB e) (hdl : ds.length ≤ 200) : rpOk (webDue ns ds) := by
  unfold webDue
  cases ep : placesR (.lst (ns.map .str)) with
  | inl e => exact rp_ref (sm_places hx hl ep)
  | inr ns' =>
    dsimp only
    cases et : tiesR ns' (.lst ds) with
    | inl e => exact rp_ref (sm_ties hd hdl et)
    | inr M => exact sm_tied (ties_wb (places_ok ep) et)
theorem tieZ_b {ws : List Str} {d : D} (h : tieZ ws = some d) : TieB d := by
  unfold tieZ at h
  split at h
  · split at h
    · rename_i a b l hn
      rw [num_law] at h
      by_cases ok : okNum l = true
      · rw [if_pos ok] at h
        cases h
        refine ⟨a, b, (valOf l).toNat, ?_, hn.1, hn.2, ?_⟩
        · rw [Int.toNat_of_nonneg (num_most ok).1]
        · have := num_most ok
          have h2 := this.2
          have h3 : mostR < 10 ^ 30 := by decide
          omega
      · rw [if_neg ok] at h; cases h
    · cases h
  · cases h
theorem rp_line {n : Nat} (h : n ≤ 200) : rpOk (.lst [.str "line", .int (n : Nat)]) := by
  have ht : (∀ c ∈ (Str.ofString "line").cps.toList, c < 4294967296) ∧ (Str.ofString "line").length ≤ 10 := by decide +kernel
  obtain ⟨c1, c2, c3⟩ := sm_int (n := n) (Nat.lt_of_le_of_lt h (by decide))
  refine ⟨?_, ?_, ?_⟩
  · unfold rOk rOks rOks rOks
    exact ⟨by unfold rOk; exact ht.1, c1, trivial⟩
  · unfold wt wts wts wts
    have e1 : wt (.str (Str.ofString "line")) ≤ 102 := by unfold wt; omega
    show wt (.str (Str.ofString "line")) + 2 + (wt (.int (n : Nat)) + 2 + 0) + 3 ≤ _
    omega
  · unfold dpt dpts dpts dpts
    have e1 : dpt (.str (Str.ofString "line")) = 0 := rfl
    show max (dpt (.str (Str.ofString "line"))) (max (dpt (.int (n : Nat))) 0) + 1 ≤ _
    omega
theorem firstBad_lt : ∀ {L : List (List Str)} {j : Nat}, firstBad L = some j → j < L.length
  | [], j, h => by cases h
  | us :: L, j, h => by
    unfold firstBad at h
    cases e : tieZ us with
    | none => rw [e] at h; cases h; simp
    | some d =>
      rw [e] at h
      dsimp only at h
      cases e2 : firstBad L with
      | none => rw [e2] at h; cases h
      | some k =>
        rw [e2] at h
        have h' : k + 1 = j := Option.some.inj h
        have := firstBad_lt e2
        rw [List.length_cons]
        omega
theorem rp_due {m l n : Nat} {z : Str} (hz : TxB m l n z) (hl : l < 100000) (hn : n ≤ 199) : rpOk (dueD (.str z)) := by
  have hll := lns_len hz
  have hzl := hz.l
  show rpOk (dueZ z)
  unfold dueZ
  have e0 : linesZ z = (lnsZ z).map fun l => Txt.split l (Str.ofString " ") := rfl
  cases el : lnsZ z with
  | nil => exact absurd el (lns_ne z)
  | cons p0 ps =>
    rw [e0, el, List.map_cons]
    dsimp only
    rw [el, List.length_cons] at hll
    split
    · rename_i hh
      split
      · rename_i j hj
        have := firstBad_lt hj
        rw [List.length_map] at this
        exact rp_line (by omega)
      · refine rp_webDue hh.2.2 ?_ (fun e he => ?_) ?_
        · have h1 := words_sum p0
          have h2 := lns_sum z
          rw [el, List.map_cons, List.sum_cons, List.length_cons] at h2
          have h3 : (Txt.split p0 (Str.ofString " ")).length ≤ p0.length + 1 := by omega
          rw [List.length_tail]
          omega
        · obtain ⟨ws, _, q⟩ := List.mem_filterMap.mp he
          exact tieZ_b q
        · have := List.length_filterMap_le tieZ (ps.map fun l => Txt.split l (Str.ofString " "))
          rw [List.length_map] at this
          omega
    · exact rp_line (n := 0) (by omega)
theorem rp_odd {x : D} (hx : Sm x) (hs : ∀ z, x ≠ .str z) : rpOk (dueD x) := by
  have ht : (∀ c ∈ (Str.ofString "text").cps.toList, c < 4294967296) ∧ (Str.ofString "text").length ≤ 10 := by decide +kernel
  have e : dueD x = .lst [.str "text", x] := by cases x <;> first | rfl | exact absurd rfl (hs _)
  rw [e]
  obtain ⟨h1, h2, h3⟩ := hx
  refine ⟨?_, ?_, ?_⟩
  · unfold rOk rOks rOks rOks
    exact ⟨by unfold rOk; exact ht.1, h1, trivial⟩
  · unfold wt wts wts wts
    have e1 : wt (.str (Str.ofString "text")) ≤ 102 := by unfold wt; omega
    show wt (.str (Str.ofString "text")) + 2 + (wt x + 2 + 0) + 3 ≤ _
    omega
  · unfold dpt dpts dpts dpts
    have e1 : dpt (.str (Str.ofString "text")) = 0 := rfl
    show max (dpt (.str (Str.ofString "text"))) (max (dpt x) 0) + 1 ≤ _
    omega

section
variable {P : R → List Sl → Prop} {cn : Cn} {nms : List Str} {L : List Tie}
theorem use_cell {ns : List Int} {k : Nat} (hl : ns.length ≤ 63) (q : ∀ v : Int, P (.d (.int v)) [.d (.ro (ns.map .int)), .d (.int k)]) :
    ∀ Ψ : R → List Sl → Prop, (∀ r as', ownOut r → P r as' → Ψ r as') → S_l_cell [.d (.ro (ns.map .int)), .d (.int k)] Ψ := fun Ψ kk => ⟨ns, k, rfl, hl, fun v => kk _ _ trivial (q v)⟩
theorem use_box {v : Int} (q : ∀ b x, BoxD 0 x → P (.own b x) [.d (.int v)]) :
    ∀ Ψ : R → List Sl → Prop, (∀ r as', ownOut r → P r as' → Ψ r as') → S_l_box [.d (.int v)] Ψ := fun Ψ kk => ⟨v, rfl, fun b x h => kk _ _ trivial (q b x h)⟩
theorem use_text {b : Addr} {x : D} {n : Nat} (hb : BoxD n x) (hn : n + 100 < 1000000) (hw : WorldOk nms L) (q : ∀ z x', TxI 0 z → BoxD (n + 100) x' → P (.d (.str z)) [.own b x', .d (worldD nms L)]) :
    ∀ Ψ : R → List Sl → Prop, (∀ r as', ownOut r → P r as' → Ψ r as') → S_l_text [.own b x, .d (worldD nms L)] Ψ := fun Ψ kk => ⟨b, x, n, nms, L, rfl, hb, hn, hw, fun z x' g1 g2 => kk _ _ trivial (q z x' g1 g2)⟩
theorem use_tried {x : D} (hx : inpD x) (q1 : ∀ b, P (.own b (dueD x)) [.d x]) (q2 : P (.d (dueD x)) [.d x]) :
    ∀ Ψ : R → List Sl → Prop, (∀ r as', ownOut r → P r as' → Ψ r as') → S_l_tried cn [.d x] Ψ := fun Ψ kk => ⟨x, rfl, hx, fun b => kk _ _ trivial (q1 b), kk _ _ trivial q2⟩
theorem use_due {x : D} (hx : inpD x) (q : ∀ b, P (.own b (dueD x)) [.d x]) :
    ∀ Ψ : R → List Sl → Prop, (∀ r as', ownOut r → P r as' → Ψ r as') → S_l_due [.d x] Ψ := fun Ψ kk => ⟨x, rfl, hx, fun b => kk _ _ trivial (q b)⟩
end
theorem txi_inp {t : Nat} {z : Str} (h : TxI t z) (ht : t ≤ 3) : inpD (.str z) ∧ rpOk (dueD (.str z)) := by
  obtain ⟨q, hq, hz⟩ := h
  obtain ⟨b1, b2⟩ := bnds_ok t ht q hq
  have hl := hz.l
  refine ⟨⟨⟨rfl, ?_⟩, fun y e => ?_⟩, rp_due hz (by omega) (by omega)⟩
  · show z.length ≤ 16000000
    omega
  · cases e
    exact ⟨by omega, fun c hc => by have := hz.low c hc; omega⟩
theorem txi_step {t : Nat} {z' : Str} {q : Nat × Nat} (hq : q ∈ bnds t) (h : TxS q.1 q.2 (41 + 42 * t) z') : TxI (t + 1) z' := by
  have e : 41 + 42 * t + 42 = 41 + 42 * (t + 1) := by omega
  rcases h with h | h
  · rw [e] at h
    exact ⟨_, List.mem_flatMap.mpr ⟨q, hq, List.mem_cons_self⟩, h⟩
  · rw [e] at h
    exact ⟨_, List.mem_flatMap.mpr ⟨q, hq, List.mem_cons_of_mem _ List.mem_cons_self⟩, h⟩
def oddL : List D := [.non, .int 5, .bl true, .lst [.str (Str.ofString "places a")], .tup [.str (Str.ofString "places a")], .dct [], .int (10 ^ 29), .lst []]
theorem odd_ok : ∀ x ∈ oddL, inpD x ∧ rpOk (dueD x) := by
  intro x hx
  have ht : (∀ c ∈ (Str.ofString "places a").cps.toList, c < 4294967296) ∧ (Str.ofString "places a").length ≤ 10 := by decide +kernel
  have e1 : wt (.str (Str.ofString "places a")) ≤ 102 := by unfold wt; omega
  have a1 : rOks [.str (Str.ofString "places a")] := by
    unfold rOks rOks
    exact ⟨by unfold rOk; exact ht.1, trivial⟩
  have a2 : wts [.str (Str.ofString "places a")] ≤ 200 := by
    show wt (.str (Str.ofString "places a")) + 2 + 0 ≤ _
    omega
  have a3 : dpts [D.str (Str.ofString "places a")] = 0 := rfl
  have key : ∀ x ∈ oddL, Sm x ∧ anyD x ∧ ∀ z, x ≠ .str z := by
    intro x hx
    simp only [oddL, List.mem_cons, List.not_mem_nil, or_false] at hx
    rcases hx with rfl | rfl | rfl | rfl | rfl | rfl | rfl | rfl
    · exact ⟨⟨trivial, by decide, by decide⟩, ⟨rfl, trivial⟩, fun z e => nomatch e⟩
    · exact ⟨⟨by unfold rOk; decide, by decide, by decide⟩, ⟨rfl, trivial⟩, fun z e => nomatch e⟩
    · exact ⟨⟨trivial, by decide, by decide⟩, ⟨rfl, trivial⟩, fun z e => nomatch e⟩
    · exact ⟨⟨by unfold rOk; exact a1, by unfold wt; omega, by unfold dpt; omega⟩, ⟨rfl, trivial⟩, fun z e => nomatch e⟩
    · exact ⟨⟨by unfold rOk; exact a1, by unfold wt; omega, by unfold dpt; omega⟩, ⟨rfl, trivial⟩, fun z e => nomatch e⟩
    · exact ⟨⟨trivial, by decide, by decide⟩, ⟨rfl, trivial⟩, fun z e => nomatch e⟩
    · exact ⟨⟨by unfold rOk; decide +kernel, by decide, by decide⟩, ⟨rfl, trivial⟩, fun z e => nomatch e⟩
    · exact ⟨⟨trivial, by decide, by decide⟩, ⟨rfl, trivial⟩, fun z e => nomatch e⟩
  obtain ⟨h1, h2, h3⟩ := key x hx
  exact ⟨⟨h2, fun z e => absurd e (h3 z)⟩, rp_odd h1 h3⟩
theorem ws_law : WsC (Fx := XF) S_law t_law [.no, .no, .no, .no, .no, .no, .no, .no] := by
  rintro K cn as Φ fx ⟨ns0, rfl, hl, h⟩
  unfold t_law
  walk_at "d0"
  walk_at "d"
  refine w_for (wi_range1 ?_)
  walk_at "d"
  rw [List.length_map]
  refine ⟨_, rfl, by split <;> first | omega | (split <;> omega), by split <;> first | omega | (split <;> omega), ?_⟩
  refine ⟨fun i δ' => ∃ s1 s2 s3 s4 s5 s6 s7 s8, δ' = [.d (.ro (ns0.map .int)), s1, s2, s3, s4, s5, s6, s7, s8], ⟨_, _, _, _, _, _, _, _, rfl⟩, fun i d δ' hd ⟨s1, s2, s3, s4, s5, s6, s7, s8, e⟩ => ?_, fun δ' ⟨s1, s2, s3, s4, s5, s6, s7, s8, e⟩ => ?_⟩
  · subst e
    obtain ⟨hi, rfl⟩ := rangeD_get hd
    rw [Int.zero_add]
    walk_at "d"
    refine use_cell hl fun v => ?_
    walk_at "d"
    refine use_box fun b x hb => ?_
    walk_at "d"
    refine use_take hb (by omega) (by omega) (by omega) fun r1 x1 g1 g2 hb1 => ?_
    walk_at "d"
    refine use_take hb1 (by omega) (by omega) (by omega) fun r2 x2 g3 g4 hb2 => ?_
    obtain ⟨e2, rfl⟩ := Int.eq_ofNat_of_zero_le g3
    have he2 : e2 < oddL.length := by show e2 < 8; omega
    obtain ⟨od, hod⟩ : ∃ od, oddL[e2]? = some od := ⟨_, List.getElem?_eq_getElem he2⟩
    obtain ⟨ho1, ho2⟩ := odd_ok od (List.mem_of_getElem? hod)
    walk_at "d"
    rw [show [D.non, D.int 5, D.bl true, D.lst [D.str (Str.ofString "places a")], D.tup [D.str (Str.ofString "places a")], D.dct [], D.int 100000000000000000000000000000, D.lst []] = oddL from rfl]
    refine dIxC_l (atI_nat hod) ?_
    walk_at "d"
    refine use_world hb2 (by omega) fun b4 nms L x3 hw hb3 => ?_
    have hwo := hw.w
    walk_at "q"
    refine w_frz 5 rfl ?_
    walk_at "k"
    walk_at "d"
    refine use_text hb3 (by omega) hw fun z x4 hz hb4 => ?_
    obtain ⟨hz1, hz2⟩ := txi_inp hz (by omega)
    refine wg_nameN rfl rfl ?_
    walk_at "k"
    refine w_seq ?_
    refine w_join (fun δ' => δ' = [.d (.ro (ns0.map .int)), .d (.int (i : Nat)), .own b x4, .d (.int r1), .d od, .d (worldD nms L), .d (.str z), s7, s8]) ?_ ?_
    · walk_at "d"
      refine use_tried hz1 (fun b5 => ?_) ?_
      · walk_at "d"
        refine ⟨_, rfl, hz2, ?_⟩
        walk_at "d"
        refine use_due hz1 fun b6 => ?_
        walk_at "d"
        refine ⟨_, rfl, hz2, ?_⟩
        walk_at "d"
        refine br_n (fun z => absurd rfl z) (fun _ => ?_)
        walk_at "x"
        rfl
      · walk_at "d"
        refine ⟨_, rfl, hz2, ?_⟩
        walk_at "d"
        refine use_due hz1 fun b6 => ?_
        walk_at "d"
        refine ⟨_, rfl, hz2, ?_⟩
        walk_at "d"
        refine br_n (fun z => absurd rfl z) (fun _ => ?_)
        walk_at "x"
        rfl
    rintro δ' rfl
    obtain ⟨t1, rfl⟩ := Int.eq_ofNat_of_zero_le g1
    refine w_seq ?_
    refine w_for (wi_range1 ?_)
    walk_at "d"
    refine ⟨_, rfl, by omega, by omega, ?_⟩
    refine ⟨fun j δ' => ∃ x5 z5 s7, BoxD (402 + 5 * j) x5 ∧ TxI j z5 ∧ δ' = [.d (.ro (ns0.map .int)), .d (.int (i : Nat)), .own b x5, .d (.int (t1 : Nat)), .d od, .d (worldD nms L), .d (.str z5), s7, s8], ⟨x4, z, s7, hb4.mono (by omega), hz, rfl⟩, fun j d δ' hd ⟨x5, z5, s7', hb5, hz5, e⟩ => ?_, fun δ' ⟨x5, z5, s7', hb5, hz5, e⟩ => ?_⟩
    · subst e
      obtain ⟨hj, rfl⟩ := rangeD_get hd
      obtain ⟨q, hq, hzq⟩ := hz5
      obtain ⟨b1, b2⟩ := bnds_ok j (by omega) q hq
      have hsp : ∃ sp, (nms.map D.str)[(nms.map D.str).length - 1]? = some (.str sp) ∧ nmOk sp = true := by
        have hl := hw.l.1
        refine ⟨_, by rw [List.length_map, List.getElem?_map, List.getElem?_eq_getElem (by omega)]; rfl, hw.nm.ok _ (List.getElem_mem _)⟩
      obtain ⟨sp, hsp1, hsp2⟩ := hsp
      walk_at "d"
      refine ixW_n ?_
      walk_at "d"
      refine dIxC_l (atI_end (by rw [List.length_map]; have := hw.l.1; omega) hsp1) ?_
      walk_at "d"
      refine use_sp hb5 (by omega) hzq (by omega) (by omega) (by omega) hsp2 fun z6 x6 hz6 hb6 => ?_
      walk_at "d"
      exact ⟨_, _, _, hb6.mono (by omega), txi_step hq hz6, rfl⟩
    · subst e
      obtain ⟨hz3, hz4⟩ := txi_inp hz5 (by rw [rangeD_len]; omega)
      refine w_for (wi_any ?_)
      walk_at "d"
      refine ⟨_, _, rfl, rfl, fun j δ' => ∃ s9 : Sl, δ' = [.d (.ro (ns0.map .int)), .d (.int (i : Nat)), .own b x5, .d (.int (t1 : Nat)), .d od, .d (worldD nms L), .d (.str z5), s7', s9], ⟨_, rfl⟩, fun j d δ' hd ⟨s9, e⟩ => ?_, fun δ' ⟨s9, e⟩ => ?_⟩
      · subst e
        have hdo : inpD d ∧ rpOk (dueD d) := by
          have hm := List.mem_of_getElem? hd
          simp only [List.mem_cons, List.not_mem_nil, or_false] at hm
          rcases hm with rfl | rfl | rfl
          · exact ⟨hz3, hz4⟩
          · exact ⟨ho1, ho2⟩
          · exact ⟨hz3, hz4⟩
        clear hd
        walk_at "d"
        refine use_tried hdo.1 (fun b5 => ?_) ?_
        · walk_at "d"
          refine ⟨_, rfl, hdo.2, ?_⟩
          walk_at "d"
          refine use_due hdo.1 fun b6 => ?_
          walk_at "d"
          refine ⟨_, rfl, hdo.2, ?_⟩
          walk_at "d"
          refine br_n (fun z => absurd rfl z) (fun _ => ?_)
          walk_at "x"
          exact ⟨_, rfl⟩
        · walk_at "d"
          refine ⟨_, rfl, hdo.2, ?_⟩
          walk_at "d"
          refine use_due hdo.1 fun b6 => ?_
          walk_at "d"
          refine ⟨_, rfl, hdo.2, ?_⟩
          walk_at "d"
          refine br_n (fun z => absurd rfl z) (fun _ => ?_)
          walk_at "x"
          exact ⟨_, rfl⟩
      · subst e
        walk_at "x"
        exact ⟨_, _, _, _, _, _, _, _, rfl⟩
  · subst e
    walk_at "d"
    exact ⟨trivial, h⟩

def top (i : Nat) : Stmt := PySem.Challenge.pw_farmarks_k16_texts_refused.main.body.getD i (.Pass ⟨0, 0, 0, 0⟩)
abbrev s_is_whole : Stmt := top 17
theorem sc_is_whole : FnScope N_is_whole ["thing", "low", "high"] (defScope s_is_whole) := ⟨rfl, rfl, rfl, by decide +kernel, rfl, by decide +kernel, by decide +kernel⟩
abbrev s_is_name : Stmt := top 18
theorem sc_is_name : FnScope N_is_name ["thing"] (defScope s_is_name) := ⟨rfl, rfl, rfl, by decide +kernel, rfl, by decide +kernel, by decide +kernel⟩
abbrev s_number_in : Stmt := top 19
theorem sc_number_in : FnScope N_number_in ["thing", "low", "high"] (defScope s_number_in) := ⟨rfl, rfl, rfl, by decide +kernel, rfl, by decide +kernel, by decide +kernel⟩
abbrev s_spots_of : Stmt := top 24
theorem sc_spots_of : FnScope N_spots_of ["places"] (defScope s_spots_of) := ⟨rfl, rfl, rfl, by decide +kernel, rfl, by decide +kernel, by decide +kernel⟩
abbrev s_spot_of : Stmt := top 25
theorem sc_spot_of : FnScope N_spot_of ["spots", "place"] (defScope s_spot_of) := ⟨rfl, rfl, rfl, by decide +kernel, rfl, by decide +kernel, by decide +kernel⟩
abbrev s_pair_of : Stmt := top 26
theorem sc_pair_of : FnScope N_pair_of ["here", "there"] (defScope s_pair_of) := ⟨rfl, rfl, rfl, by decide +kernel, rfl, by decide +kernel, by decide +kernel⟩
abbrev s_lengths_of : Stmt := top 27
theorem sc_lengths_of : FnScope N_lengths_of ["spots", "ties"] (defScope s_lengths_of) := ⟨rfl, rfl, rfl, by decide +kernel, rfl, by decide +kernel, by decide +kernel⟩
abbrev s_Web___init__ : Stmt := inClass (top 28) 0
theorem sc_Web___init__ : FnScope N_Web___init__ ["self", "places", "ties"] (defScope s_Web___init__) := ⟨rfl, rfl, rfl, by decide +kernel, rfl, by decide +kernel, by decide +kernel⟩
abbrev s_Web_ties : Stmt := inClass (top 28) 3
theorem sc_Web_ties : FnScope N_Web_ties ["self"] (defScope s_Web_ties) := ⟨rfl, rfl, rfl, by decide +kernel, rfl, by decide +kernel, by decide +kernel⟩
abbrev s_Web_told : Stmt := inClass (top 28) 11
theorem sc_Web_told : FnScope N_Web_told ["self"] (defScope s_Web_told) := ⟨rfl, rfl, rfl, by decide +kernel, rfl, by decide +kernel, by decide +kernel⟩
abbrev s_tie_in : Stmt := top 31
theorem sc_tie_in : FnScope N_tie_in ["words"] (defScope s_tie_in) := ⟨rfl, rfl, rfl, by decide +kernel, rfl, by decide +kernel, by decide +kernel⟩
abbrev s_read_web : Stmt := top 32
theorem sc_read_web : FnScope N_read_web ["text"] (defScope s_read_web) := ⟨rfl, rfl, rfl, by decide +kernel, rfl, by decide +kernel, by decide +kernel⟩
abbrev s_l_cell : Stmt := top 34
theorem sc_l_cell : FnScope N_l_cell ["_law_script", "_law_k"] (defScope s_l_cell) := ⟨rfl, rfl, rfl, by decide +kernel, rfl, by decide +kernel, by decide +kernel⟩
abbrev s_l_box : Stmt := top 35
theorem sc_l_box : FnScope N_l_box ["_law_cell_here"] (defScope s_l_box) := ⟨rfl, rfl, rfl, by decide +kernel, rfl, by decide +kernel, by decide +kernel⟩
abbrev s_l_take : Stmt := top 36
theorem sc_l_take : FnScope N_l_take ["_law_box_here", "_law_many"] (defScope s_l_take) := ⟨rfl, rfl, rfl, by decide +kernel, rfl, by decide +kernel, by decide +kernel⟩
abbrev s_l_names : Stmt := top 37
theorem sc_l_names : FnScope N_l_names ["_law_box_here", "_law_many"] (defScope s_l_names) := ⟨rfl, rfl, rfl, by decide +kernel, rfl, by decide +kernel, by decide +kernel⟩
abbrev s_l_length : Stmt := top 38
theorem sc_l_length : FnScope N_l_length ["_law_box_here"] (defScope s_l_length) := ⟨rfl, rfl, rfl, by decide +kernel, rfl, by decide +kernel, by decide +kernel⟩
abbrev s_l_world : Stmt := top 39
theorem sc_l_world : FnScope N_l_world ["_law_box_here"] (defScope s_l_world) := ⟨rfl, rfl, rfl, by decide +kernel, rfl, by decide +kernel, by decide +kernel⟩
abbrev s_l_handed : Stmt := top 40
theorem sc_l_handed : FnScope N_l_handed ["_law_box_here", "_law_world_here"] (defScope s_l_handed) := ⟨rfl, rfl, rfl, by decide +kernel, rfl, by decide +kernel, by decide +kernel⟩
abbrev s_l_tried : Stmt := top 42
theorem sc_l_tried : FnScope N_l_tried ["_law_thing"] (defScope s_l_tried) := ⟨rfl, rfl, rfl, by decide +kernel, rfl, by decide +kernel, by decide +kernel⟩
abbrev s_l_is_name : Stmt := top 43
theorem sc_l_is_name : FnScope N_l_is_name ["_law_word"] (defScope s_l_is_name) := ⟨rfl, rfl, rfl, by decide +kernel, rfl, by decide +kernel, by decide +kernel⟩
abbrev s_l_number : Stmt := top 44
theorem sc_l_number : FnScope N_l_number ["_law_word"] (defScope s_l_number) := ⟨rfl, rfl, rfl, by decide +kernel, rfl, by decide +kernel, by decide +kernel⟩
abbrev s_l_tie : Stmt := top 45
theorem sc_l_tie : FnScope N_l_tie ["_law_line"] (defScope s_l_tie) := ⟨rfl, rfl, rfl, by decide +kernel, rfl, by decide +kernel, by decide +kernel⟩
abbrev s_l_tie_due : Stmt := top 46
theorem sc_l_tie_due : FnScope N_l_tie_due ["_law_names_here", "_law_ties", "_law_at"] (defScope s_l_tie_due) := ⟨rfl, rfl, rfl, by decide +kernel, rfl, by decide +kernel, by decide +kernel⟩
abbrev s_l_web_due : Stmt := top 47
theorem sc_l_web_due : FnScope N_l_web_due ["_law_names_here", "_law_ties"] (defScope s_l_web_due) := ⟨rfl, rfl, rfl, by decide +kernel, rfl, by decide +kernel, by decide +kernel⟩
abbrev s_l_due : Stmt := top 48
theorem sc_l_due : FnScope N_l_due ["_law_thing"] (defScope s_l_due) := ⟨rfl, rfl, rfl, by decide +kernel, rfl, by decide +kernel, by decide +kernel⟩
abbrev s_l_text : Stmt := top 49
theorem sc_l_text : FnScope N_l_text ["_law_box_here", "_law_world_here"] (defScope s_l_text) := ⟨rfl, rfl, rfl, by decide +kernel, rfl, by decide +kernel, by decide +kernel⟩
abbrev s_l_sign : Stmt := top 50
theorem sc_l_sign : FnScope N_l_sign ["_law_box_here"] (defScope s_l_sign) := ⟨rfl, rfl, rfl, by decide +kernel, rfl, by decide +kernel, by decide +kernel⟩
abbrev s_l_lines_spoilt : Stmt := top 51
theorem sc_l_lines_spoilt : FnScope N_l_lines_spoilt ["_law_box_here", "_law_text_here", "_law_spare"] (defScope s_l_lines_spoilt) := ⟨rfl, rfl, rfl, by decide +kernel, rfl, by decide +kernel, by decide +kernel⟩
abbrev s_l_words_spoilt : Stmt := top 52
theorem sc_l_words_spoilt : FnScope N_l_words_spoilt ["_law_box_here", "_law_text_here", "_law_spare"] (defScope s_l_words_spoilt) := ⟨rfl, rfl, rfl, by decide +kernel, rfl, by decide +kernel, by decide +kernel⟩
abbrev s_l_spoilt : Stmt := top 53
theorem sc_l_spoilt : FnScope N_l_spoilt ["_law_box_here", "_law_text_here", "_law_spare"] (defScope s_l_spoilt) := ⟨rfl, rfl, rfl, by decide +kernel, rfl, by decide +kernel, by decide +kernel⟩
abbrev s_law : Stmt := top 54
theorem sc_law : FnScope N_law ["_law_script"] (defScope s_law) := ⟨rfl, rfl, rfl, by decide +kernel, rfl, by decide +kernel, by decide +kernel⟩
abbrev s_NoPlaces : Stmt := inClass (top 3) 0
theorem sc_NoPlaces : FnScope ["self", "found"] ["self", "found"] (defScope s_NoPlaces) := ⟨rfl, rfl, rfl, by decide +kernel, rfl, by decide +kernel, by decide +kernel⟩
abbrev s_NoName : Stmt := inClass (top 4) 0
theorem sc_NoName : FnScope ["self", "found"] ["self", "found"] (defScope s_NoName) := ⟨rfl, rfl, rfl, by decide +kernel, rfl, by decide +kernel, by decide +kernel⟩
abbrev s_Twice : Stmt := inClass (top 5) 0
theorem sc_Twice : FnScope ["self", "found"] ["self", "found"] (defScope s_Twice) := ⟨rfl, rfl, rfl, by decide +kernel, rfl, by decide +kernel, by decide +kernel⟩
abbrev s_NoTies : Stmt := inClass (top 6) 0
theorem sc_NoTies : FnScope ["self", "found"] ["self", "found"] (defScope s_NoTies) := ⟨rfl, rfl, rfl, by decide +kernel, rfl, by decide +kernel, by decide +kernel⟩
abbrev s_NoTie : Stmt := inClass (top 7) 0
theorem sc_NoTie : FnScope ["self", "found"] ["self", "found"] (defScope s_NoTie) := ⟨rfl, rfl, rfl, by decide +kernel, rfl, by decide +kernel, by decide +kernel⟩
abbrev s_NoPlace : Stmt := inClass (top 8) 0
theorem sc_NoPlace : FnScope ["self", "found"] ["self", "found"] (defScope s_NoPlace) := ⟨rfl, rfl, rfl, by decide +kernel, rfl, by decide +kernel, by decide +kernel⟩
abbrev s_Loop : Stmt := inClass (top 9) 0
theorem sc_Loop : FnScope ["self", "found"] ["self", "found"] (defScope s_Loop) := ⟨rfl, rfl, rfl, by decide +kernel, rfl, by decide +kernel, by decide +kernel⟩
abbrev s_NoLength : Stmt := inClass (top 10) 0
theorem sc_NoLength : FnScope ["self", "found"] ["self", "found"] (defScope s_NoLength) := ⟨rfl, rfl, rfl, by decide +kernel, rfl, by decide +kernel, by decide +kernel⟩
abbrev s_NoText : Stmt := inClass (top 11) 0
theorem sc_NoText : FnScope ["self", "found"] ["self", "found"] (defScope s_NoText) := ⟨rfl, rfl, rfl, by decide +kernel, rfl, by decide +kernel, by decide +kernel⟩
abbrev s_Tied : Stmt := inClass (top 12) 0
theorem sc_Tied : FnScope ["self", "one", "other"] ["self", "one", "other"] (defScope s_Tied) := ⟨rfl, rfl, rfl, by decide +kernel, rfl, by decide +kernel, by decide +kernel⟩
abbrev s_BadLine : Stmt := inClass (top 13) 0
theorem sc_BadLine : FnScope ["self", "at"] ["self", "at"] (defScope s_BadLine) := ⟨rfl, rfl, rfl, by decide +kernel, rfl, by decide +kernel, by decide +kernel⟩

local macro_rules | `(tactic| walk_at "lenY") => `(tactic| (intro as Φ Y h; repeat first | (obtain ⟨h0, _⟩ := h; subst h0; rfl) | (obtain ⟨_, h⟩ := h)))
local macro_rules | `(tactic| walk_at "len") => `(tactic| (intro as Φ h; repeat first | (obtain ⟨h0, _⟩ := h; subst h0; rfl) | (obtain ⟨_, h⟩ := h)))
theorem len_is_whole : ∀ as Φ, S_is_whole as Φ → as.length = 3 := by walk_at "len"
theorem len_is_name : ∀ as Φ, S_is_name as Φ → as.length = 1 := by walk_at "len"
theorem len_number_in : ∀ as Φ, S_number_in as Φ → as.length = 3 := by walk_at "len"
theorem len_spots_of : ∀ as Φ Y, S_spots_of as Φ Y → as.length = 1 := by walk_at "lenY"
theorem len_spot_of : ∀ as Φ Y, S_spot_of as Φ Y → as.length = 2 := by walk_at "lenY"
theorem len_pair_of : ∀ as Φ, S_pair_of as Φ → as.length = 2 := by walk_at "len"
theorem len_lengths_of : ∀ as Φ Y, S_lengths_of as Φ Y → as.length = 2 := by walk_at "lenY"
theorem len_Web___init__ (cn : Cn) : ∀ as Φ Y, S_Web___init__ cn as Φ Y → as.length = 3 := by walk_at "lenY"
theorem len_Web_ties (cn : Cn) : ∀ as Φ, S_Web_ties cn as Φ → as.length = 1 := by walk_at "len"
theorem len_Web_told (cn : Cn) : ∀ as Φ, S_Web_told cn as Φ → as.length = 1 := by walk_at "len"
theorem len_tie_in : ∀ as Φ, S_tie_in as Φ → as.length = 1 := by walk_at "len"
theorem len_read_web (cn : Cn) : ∀ as Φ Y, S_read_web cn as Φ Y → as.length = 1 := by walk_at "lenY"
theorem len_l_cell : ∀ as Φ, S_l_cell as Φ → as.length = 2 := by walk_at "len"
theorem len_l_box : ∀ as Φ, S_l_box as Φ → as.length = 1 := by walk_at "len"
theorem len_l_take : ∀ as Φ, S_l_take as Φ → as.length = 2 := by walk_at "len"
theorem len_l_names : ∀ as Φ, S_l_names as Φ → as.length = 2 := by walk_at "len"
theorem len_l_length : ∀ as Φ, S_l_length as Φ → as.length = 1 := by walk_at "len"
theorem len_l_world : ∀ as Φ, S_l_world as Φ → as.length = 1 := by walk_at "len"
theorem len_l_handed : ∀ as Φ, S_l_handed as Φ → as.length = 2 := by walk_at "len"
theorem len_l_tried (cn : Cn) : ∀ as Φ, S_l_tried cn as Φ → as.length = 1 := by walk_at "len"
theorem len_l_is_name : ∀ as Φ, S_l_is_name as Φ → as.length = 1 := by walk_at "len"
theorem len_l_number : ∀ as Φ, S_l_number as Φ → as.length = 1 := by walk_at "len"
theorem len_l_tie : ∀ as Φ, S_l_tie as Φ → as.length = 1 := by walk_at "len"
theorem len_l_tie_due : ∀ as Φ, S_l_tie_due as Φ → as.length = 3 := by walk_at "len"
theorem len_l_web_due : ∀ as Φ, S_l_web_due as Φ → as.length = 2 := by walk_at "len"
theorem len_l_due : ∀ as Φ, S_l_due as Φ → as.length = 1 := by walk_at "len"
theorem len_l_text : ∀ as Φ, S_l_text as Φ → as.length = 2 := by walk_at "len"
theorem len_l_sign : ∀ as Φ, S_l_sign as Φ → as.length = 1 := by walk_at "len"
theorem len_l_lines_spoilt : ∀ as Φ, S_l_lines_spoilt as Φ → as.length = 3 := by walk_at "len"
theorem len_l_words_spoilt : ∀ as Φ, S_l_words_spoilt as Φ → as.length = 3 := by walk_at "len"
theorem len_l_spoilt : ∀ as Φ, S_l_spoilt as Φ → as.length = 3 := by walk_at "len"
theorem len_law : ∀ as Φ, S_law as Φ → as.length = 1 := by walk_at "len"
theorem reps_ints {K : PySem.W.Frag} {G : Hp} : ∀ ns : List Int, Reps K G (ns.map D.int) (ns.map V.int)
  | [] => reps_nil
  | n :: ns => reps_cons rep_int (reps_ints ns)
theorem law_in {K : PySem.W.Frag} {H : Hp} {a : Addr} {ns : List Int} (hl : ns.length ≤ 63) (hb : ∀ z ∈ ns, Builtin.Int.intBits z ≤ 1048576) (h : SqL K H a (ns.map V.int)) : lift K S_law [.ref a] H (fun v _ => v = .bl true) (fun _ _ _ => False) := by
  refine ⟨fun _ => none, H, [.d (.ro (ns.map .int))], ⟨fun b o e => (nomatch e), Ex.refl H, fun b => .inl rfl, ⟨_, _, rfl, ⟨_, rfl, ?_⟩, rfl⟩, fun a h => (nomatch h), List.nodup_nil⟩, ns, rfl, hl, fun v G' H' _ _ rv => ?_⟩
  · unfold Rep
    exact ⟨a, _, rfl, h, reps_ints ns⟩
  · have rv' : Rep K G' (.bl true) v := rv
    unfold Rep at rv'
    exact rv'
/-- what the top has written -/
structure DefOk (K : PySem.W.Frag) (mg : Str → Option Value) (x : Str) (st : Stmt) (ps : List Str) (a : Addr) (fd : FuncData) : Prop where
  fn : Fun K x x st a fd
  b : Binds K fd ps []
  g : mg x = some (.ref a)
structure Txt (K : PySem.W.Frag) (mg : Str → Option Value) (cn : Cn) where
  xf : XF K cn
  xb : ExcBase K mg cn.bs "MarkError"
  fi_NoPlaces : Addr
  fd_NoPlaces : FuncData
  x_NoPlaces : ExcDef K mg (cn.ad XNoPlaces) "NoPlaces" "NoPlaces.__init__" s_NoPlaces ["found"] fi_NoPlaces fd_NoPlaces
  fi_NoName : Addr
  fd_NoName : FuncData
  x_NoName : ExcDef K mg (cn.ad XNoName) "NoName" "NoName.__init__" s_NoName ["found"] fi_NoName fd_NoName
  fi_Twice : Addr
  fd_Twice : FuncData
  x_Twice : ExcDef K mg (cn.ad XTwice) "Twice" "Twice.__init__" s_Twice ["found"] fi_Twice fd_Twice
  fi_NoTies : Addr
  fd_NoTies : FuncData
  x_NoTies : ExcDef K mg (cn.ad XNoTies) "NoTies" "NoTies.__init__" s_NoTies ["found"] fi_NoTies fd_NoTies
  fi_NoTie : Addr
  fd_NoTie : FuncData
  x_NoTie : ExcDef K mg (cn.ad XNoTie) "NoTie" "NoTie.__init__" s_NoTie ["found"] fi_NoTie fd_NoTie
  fi_NoPlace : Addr
  fd_NoPlace : FuncData
  x_NoPlace : ExcDef K mg (cn.ad XNoPlace) "NoPlace" "NoPlace.__init__" s_NoPlace ["found"] fi_NoPlace fd_NoPlace
  fi_Loop : Addr
  fd_Loop : FuncData
  x_Loop : ExcDef K mg (cn.ad XLoop) "Loop" "Loop.__init__" s_Loop ["found"] fi_Loop fd_Loop
  fi_NoLength : Addr
  fd_NoLength : FuncData
  x_NoLength : ExcDef K mg (cn.ad XNoLength) "NoLength" "NoLength.__init__" s_NoLength ["found"] fi_NoLength fd_NoLength
  fi_NoText : Addr
  fd_NoText : FuncData
  x_NoText : ExcDef K mg (cn.ad XNoText) "NoText" "NoText.__init__" s_NoText ["found"] fi_NoText fd_NoText
  fi_Tied : Addr
  fd_Tied : FuncData
  x_Tied : ExcDef K mg (cn.ad XTied) "Tied" "Tied.__init__" s_Tied ["other", "one"] fi_Tied fd_Tied
  fi_BadLine : Addr
  fd_BadLine : FuncData
  x_BadLine : ExcDef K mg (cn.ad XBadLine) "BadLine" "BadLine.__init__" s_BadLine ["at"] fi_BadLine fd_BadLine
  a_is_whole : Addr
  f_is_whole : FuncData
  d_is_whole : DefOk K mg "is_whole" s_is_whole ["thing", "low", "high"] a_is_whole f_is_whole
  a_is_name : Addr
  f_is_name : FuncData
  d_is_name : DefOk K mg "is_name" s_is_name ["thing"] a_is_name f_is_name
  a_number_in : Addr
  f_number_in : FuncData
  d_number_in : DefOk K mg "number_in" s_number_in ["thing", "low", "high"] a_number_in f_number_in
  a_spots_of : Addr
  f_spots_of : FuncData
  d_spots_of : DefOk K mg "spots_of" s_spots_of ["places"] a_spots_of f_spots_of
  a_spot_of : Addr
  f_spot_of : FuncData
  d_spot_of : DefOk K mg "spot_of" s_spot_of ["spots", "place"] a_spot_of f_spot_of
  a_pair_of : Addr
  f_pair_of : FuncData
  d_pair_of : DefOk K mg "pair_of" s_pair_of ["here", "there"] a_pair_of f_pair_of
  a_lengths_of : Addr
  f_lengths_of : FuncData
  d_lengths_of : DefOk K mg "lengths_of" s_lengths_of ["spots", "ties"] a_lengths_of f_lengths_of
  a_Web___init__ : Addr
  f_Web___init__ : FuncData
  d_Web___init__ : MethOk K (cn.ad CWeb) "__init__" "Web.__init__" s_Web___init__ ["self", "places", "ties"] a_Web___init__ f_Web___init__
  a_Web_ties : Addr
  f_Web_ties : FuncData
  d_Web_ties : MethOk K (cn.ad CWeb) "ties" "Web.ties" s_Web_ties ["self"] a_Web_ties f_Web_ties
  a_Web_told : Addr
  f_Web_told : FuncData
  d_Web_told : MethOk K (cn.ad CWeb) "told" "Web.told" s_Web_told ["self"] a_Web_told f_Web_told
  a_tie_in : Addr
  f_tie_in : FuncData
  d_tie_in : DefOk K mg "tie_in" s_tie_in ["words"] a_tie_in f_tie_in
  a_read_web : Addr
  f_read_web : FuncData
  d_read_web : DefOk K mg "read_web" s_read_web ["text"] a_read_web f_read_web
  a_l_cell : Addr
  f_l_cell : FuncData
  d_l_cell : DefOk K mg "_law_cell" s_l_cell ["_law_script", "_law_k"] a_l_cell f_l_cell
  a_l_box : Addr
  f_l_box : FuncData
  d_l_box : DefOk K mg "_law_box" s_l_box ["_law_cell_here"] a_l_box f_l_box
  a_l_take : Addr
  f_l_take : FuncData
  d_l_take : DefOk K mg "_law_take" s_l_take ["_law_box_here", "_law_many"] a_l_take f_l_take
  a_l_names : Addr
  f_l_names : FuncData
  d_l_names : DefOk K mg "_law_names" s_l_names ["_law_box_here", "_law_many"] a_l_names f_l_names
  a_l_length : Addr
  f_l_length : FuncData
  d_l_length : DefOk K mg "_law_length" s_l_length ["_law_box_here"] a_l_length f_l_length
  a_l_world : Addr
  f_l_world : FuncData
  d_l_world : DefOk K mg "_law_world" s_l_world ["_law_box_here"] a_l_world f_l_world
  a_l_handed : Addr
  f_l_handed : FuncData
  d_l_handed : DefOk K mg "_law_handed" s_l_handed ["_law_box_here", "_law_world_here"] a_l_handed f_l_handed
  a_l_tried : Addr
  f_l_tried : FuncData
  d_l_tried : DefOk K mg "_law_tried" s_l_tried ["_law_thing"] a_l_tried f_l_tried
  a_l_is_name : Addr
  f_l_is_name : FuncData
  d_l_is_name : DefOk K mg "_law_is_name" s_l_is_name ["_law_word"] a_l_is_name f_l_is_name
  a_l_number : Addr
  f_l_number : FuncData
  d_l_number : DefOk K mg "_law_number" s_l_number ["_law_word"] a_l_number f_l_number
  a_l_tie : Addr
  f_l_tie : FuncData
  d_l_tie : DefOk K mg "_law_tie" s_l_tie ["_law_line"] a_l_tie f_l_tie
  a_l_tie_due : Addr
  f_l_tie_due : FuncData
  d_l_tie_due : DefOk K mg "_law_tie_due" s_l_tie_due ["_law_names_here", "_law_ties", "_law_at"] a_l_tie_due f_l_tie_due
  a_l_web_due : Addr
  f_l_web_due : FuncData
  d_l_web_due : DefOk K mg "_law_web_due" s_l_web_due ["_law_names_here", "_law_ties"] a_l_web_due f_l_web_due
  a_l_due : Addr
  f_l_due : FuncData
  d_l_due : DefOk K mg "_law_due" s_l_due ["_law_thing"] a_l_due f_l_due
  a_l_text : Addr
  f_l_text : FuncData
  d_l_text : DefOk K mg "_law_text" s_l_text ["_law_box_here", "_law_world_here"] a_l_text f_l_text
  a_l_sign : Addr
  f_l_sign : FuncData
  d_l_sign : DefOk K mg "_law_sign" s_l_sign ["_law_box_here"] a_l_sign f_l_sign
  a_l_lines_spoilt : Addr
  f_l_lines_spoilt : FuncData
  d_l_lines_spoilt : DefOk K mg "_law_lines_spoilt" s_l_lines_spoilt ["_law_box_here", "_law_text_here", "_law_spare"] a_l_lines_spoilt f_l_lines_spoilt
  a_l_words_spoilt : Addr
  f_l_words_spoilt : FuncData
  d_l_words_spoilt : DefOk K mg "_law_words_spoilt" s_l_words_spoilt ["_law_box_here", "_law_text_here", "_law_spare"] a_l_words_spoilt f_l_words_spoilt
  a_l_spoilt : Addr
  f_l_spoilt : FuncData
  d_l_spoilt : DefOk K mg "_law_spoilt" s_l_spoilt ["_law_box_here", "_law_text_here", "_law_spare"] a_l_spoilt f_l_spoilt
  a_law : Addr
  f_law : FuncData
  d_law : DefOk K mg "law" s_law ["_law_script"] a_law f_law
  cls_Web : Cls K (cn.ad CWeb)
  g_Web : mg "Web" = some (.ref (cn.ad CWeb))
  mk_Web : Mk K (cn.ad CWeb) a_Web___init__
  n_all : mg "all" = none
  n_bool : mg "bool" = none
  n_enumerate : mg "enumerate" = none
  n_int : mg "int" = none
  n_isinstance : mg "isinstance" = none
  n_len : mg "len" = none
  n_list : mg "list" = none
  n_max : mg "max" = none
  n_min : mg "min" = none
  n_range : mg "range" = none
  n_repr : mg "repr" = none
  n_sorted : mg "sorted" = none
  n_str : mg "str" = none
  n_tuple : mg "tuple" = none
  c_FIGURES : ∃ t, mg "FIGURES" = some (.str "0123456789" t)
  c_LETTERS : ∃ t, mg "LETTERS" = some (.str "abcdefghijklmnopqrstuvwxyz" t)
  c_MOST_LENGTH : ∃ t, mg "MOST_LENGTH" = some (.int 1000000 t)
  c_MOST_PLACES : ∃ t, mg "MOST_PLACES" = some (.int 12 t)
  c_MOST_READ : ∃ t, mg "MOST_READ" = some (.int 999999999999999999999999999999 t)
  c_MOST_TIES : ∃ t, mg "MOST_TIES" = some (.int 40 t)
section
variable {P : Program} {w : World} {K : PySem.W.Frag} {mg : Str → Option Value} {base : Heap} {cn : Cn}
theorem ini_NoPlaces (T : Txt K mg cn) : FnOk P w K mg base CX0 1 T.fi_NoPlaces T.fd_NoPlaces ["self", "found"] (spInit K ["found"]) := by
  refine T.x_NoPlaces.fn.ok sc_NoPlaces (fun vs H Q E h => spInit_len (fl := ["found"]) h) (fun cdv A outer s H vs Q E hr h => ⟨_, ?_, init_reads (N := ["self", "found"]) (m := "no places of a web") rfl h⟩)
  exact (pss_cons (ps_expr (pe_meinit (by rfl) T.xb.g T.xb.rd T.xb.vV (pa_cons (pv 0) (pa_cons pe_str pa_nil)))) (pss_one (ps_ost (pv 0) (pv 1))))
theorem ini_NoName (T : Txt K mg cn) : FnOk P w K mg base CX0 1 T.fi_NoName T.fd_NoName ["self", "found"] (spInit K ["found"]) := by
  refine T.x_NoName.fn.ok sc_NoName (fun vs H Q E h => spInit_len (fl := ["found"]) h) (fun cdv A outer s H vs Q E hr h => ⟨_, ?_, init_reads (N := ["self", "found"]) (m := "no name") rfl h⟩)
  exact (pss_cons (ps_expr (pe_meinit (by rfl) T.xb.g T.xb.rd T.xb.vV (pa_cons (pv 0) (pa_cons pe_str pa_nil)))) (pss_one (ps_ost (pv 0) (pv 1))))
theorem ini_Twice (T : Txt K mg cn) : FnOk P w K mg base CX0 1 T.fi_Twice T.fd_Twice ["self", "found"] (spInit K ["found"]) := by
  refine T.x_Twice.fn.ok sc_Twice (fun vs H Q E h => spInit_len (fl := ["found"]) h) (fun cdv A outer s H vs Q E hr h => ⟨_, ?_, init_reads (N := ["self", "found"]) (m := "a name that stands ahead") rfl h⟩)
  exact (pss_cons (ps_expr (pe_meinit (by rfl) T.xb.g T.xb.rd T.xb.vV (pa_cons (pv 0) (pa_cons pe_str pa_nil)))) (pss_one (ps_ost (pv 0) (pv 1))))
theorem ini_NoTies (T : Txt K mg cn) : FnOk P w K mg base CX0 1 T.fi_NoTies T.fd_NoTies ["self", "found"] (spInit K ["found"]) := by
  refine T.x_NoTies.fn.ok sc_NoTies (fun vs H Q E h => spInit_len (fl := ["found"]) h) (fun cdv A outer s H vs Q E hr h => ⟨_, ?_, init_reads (N := ["self", "found"]) (m := "no ties of a web") rfl h⟩)
  exact (pss_cons (ps_expr (pe_meinit (by rfl) T.xb.g T.xb.rd T.xb.vV (pa_cons (pv 0) (pa_cons pe_str pa_nil)))) (pss_one (ps_ost (pv 0) (pv 1))))
theorem ini_NoTie (T : Txt K mg cn) : FnOk P w K mg base CX0 1 T.fi_NoTie T.fd_NoTie ["self", "found"] (spInit K ["found"]) := by
  refine T.x_NoTie.fn.ok sc_NoTie (fun vs H Q E h => spInit_len (fl := ["found"]) h) (fun cdv A outer s H vs Q E hr h => ⟨_, ?_, init_reads (N := ["self", "found"]) (m := "no tie") rfl h⟩)
  exact (pss_cons (ps_expr (pe_meinit (by rfl) T.xb.g T.xb.rd T.xb.vV (pa_cons (pv 0) (pa_cons pe_str pa_nil)))) (pss_one (ps_ost (pv 0) (pv 1))))
theorem ini_NoPlace (T : Txt K mg cn) : FnOk P w K mg base CX0 1 T.fi_NoPlace T.fd_NoPlace ["self", "found"] (spInit K ["found"]) := by
  refine T.x_NoPlace.fn.ok sc_NoPlace (fun vs H Q E h => spInit_len (fl := ["found"]) h) (fun cdv A outer s H vs Q E hr h => ⟨_, ?_, init_reads (N := ["self", "found"]) (m := "no place of the web") rfl h⟩)
  exact (pss_cons (ps_expr (pe_meinit (by rfl) T.xb.g T.xb.rd T.xb.vV (pa_cons (pv 0) (pa_cons pe_str pa_nil)))) (pss_one (ps_ost (pv 0) (pv 1))))
theorem ini_Loop (T : Txt K mg cn) : FnOk P w K mg base CX0 1 T.fi_Loop T.fd_Loop ["self", "found"] (spInit K ["found"]) := by
  refine T.x_Loop.fn.ok sc_Loop (fun vs H Q E h => spInit_len (fl := ["found"]) h) (fun cdv A outer s H vs Q E hr h => ⟨_, ?_, init_reads (N := ["self", "found"]) (m := "a tie from a place to itself") rfl h⟩)
  exact (pss_cons (ps_expr (pe_meinit (by rfl) T.xb.g T.xb.rd T.xb.vV (pa_cons (pv 0) (pa_cons pe_str pa_nil)))) (pss_one (ps_ost (pv 0) (pv 1))))
theorem ini_NoLength (T : Txt K mg cn) : FnOk P w K mg base CX0 1 T.fi_NoLength T.fd_NoLength ["self", "found"] (spInit K ["found"]) := by
  refine T.x_NoLength.fn.ok sc_NoLength (fun vs H Q E h => spInit_len (fl := ["found"]) h) (fun cdv A outer s H vs Q E hr h => ⟨_, ?_, init_reads (N := ["self", "found"]) (m := "no length of a tie") rfl h⟩)
  exact (pss_cons (ps_expr (pe_meinit (by rfl) T.xb.g T.xb.rd T.xb.vV (pa_cons (pv 0) (pa_cons pe_str pa_nil)))) (pss_one (ps_ost (pv 0) (pv 1))))
theorem ini_NoText (T : Txt K mg cn) : FnOk P w K mg base CX0 1 T.fi_NoText T.fd_NoText ["self", "found"] (spInit K ["found"]) := by
  refine T.x_NoText.fn.ok sc_NoText (fun vs H Q E h => spInit_len (fl := ["found"]) h) (fun cdv A outer s H vs Q E hr h => ⟨_, ?_, init_reads (N := ["self", "found"]) (m := "no text of this kind") rfl h⟩)
  exact (pss_cons (ps_expr (pe_meinit (by rfl) T.xb.g T.xb.rd T.xb.vV (pa_cons (pv 0) (pa_cons pe_str pa_nil)))) (pss_one (ps_ost (pv 0) (pv 1))))
theorem ini_Tied (T : Txt K mg cn) : FnOk P w K mg base CX0 1 T.fi_Tied T.fd_Tied ["self", "one", "other"] (spInit K ["other", "one"]) := by
  refine T.x_Tied.fn.ok sc_Tied (fun vs H Q E h => spInit_len (fl := ["other", "one"]) h) (fun cdv A outer s H vs Q E hr h => ⟨_, ?_, init_reads2 (N := ["self", "one", "other"]) (m := "tied already") rfl h⟩)
  exact (pss_cons (ps_expr (pe_meinit (by rfl) T.xb.g T.xb.rd T.xb.vV (pa_cons (pv 0) (pa_cons pe_str pa_nil)))) (pss_cons (ps_ost (pv 0) (pv 1)) (pss_one (ps_ost (pv 0) (pv 2)))))
theorem ini_BadLine (T : Txt K mg cn) : FnOk P w K mg base CX0 1 T.fi_BadLine T.fd_BadLine ["self", "at"] (spInit K ["at"]) := by
  refine T.x_BadLine.fn.ok sc_BadLine (fun vs H Q E h => spInit_len (fl := ["at"]) h) (fun cdv A outer s H vs Q E hr h => ⟨_, ?_, init_reads (N := ["self", "at"]) (m := "a line that cannot stand") rfl h⟩)
  exact (pss_cons (ps_expr (pe_meinit (by rfl) T.xb.g T.xb.rd T.xb.vV (pa_cons (pv 0) (pa_cons pe_str pa_nil)))) (pss_one (ps_ost (pv 0) (pv 1))))
theorem ok_is_whole (T : Txt K mg cn) : FnG P w K mg base (L2.CX P w) 1 T.a_is_whole T.f_is_whole ["thing", "low", "high"] (lift K S_is_whole) := by
  refine okGX T.d_is_whole.fn sc_is_whole (fun vs H Q E h => lift_len len_is_whole h) (fun cdv A outer s H vs Q E hg hr h => ⟨t_is_whole K cn, ?_, lift_WsC (n := 3) (m := 0) T.xf len_is_whole rfl ws_is_whole h⟩)
  exact (pss_cons (ps_if (PW.pt (pw_or (pt_not (pt_tru (pe_callB call_isiB (by rfl) T.n_isinstance (by decide +kernel) (pa_cons (pv 0) (pa_cons (pe_bltn (v := .ty "int") (u := .type "int") (by rfl) T.n_int (by decide +kernel) rfl) pa_nil))) (fun _ => rfl))) (pw_or1 (pt_tru (pe_callB call_isiB (by rfl) T.n_isinstance (by decide +kernel) (pa_cons (pv 0) (pa_cons (pe_bltn (v := .ty "bool") (u := .type "bool") (by rfl) T.n_bool (by decide +kernel) rfl) pa_nil))) (fun _ => rfl))))) (pss_one (ps_ret pe_bl)) pss_nil)
      (pss_one (ps_ret (pe_chain op_leA op_leA (pv 1) (pv 0) (pv 2)))))
theorem ok_is_name (T : Txt K mg cn) : FnG P w K mg base (L2.CX P w) 1 T.a_is_name T.f_is_name ["thing"] (lift K S_is_name) := by
  refine okGX T.d_is_name.fn sc_is_name (fun vs H Q E h => lift_len len_is_name h) (fun cdv A outer s H vs Q E hg hr h => ⟨t_is_name K cn, ?_, lift_WsC (n := 1) (m := 1) T.xf len_is_name rfl ws_is_name h⟩)
  exact (pss_cons (ps_if (PW.pt (pw_or (pt_not (pt_tru (pe_callB call_isiB (by rfl) T.n_isinstance (by decide +kernel) (pa_cons (pv 0) (pa_cons (pe_bltn (v := .ty "str") (u := .type "str") (by rfl) T.n_str (by decide +kernel) rfl) pa_nil))) (fun _ => rfl))) (pw_or1 (pt_not (pt_chain op_leA op_leA pe_int (pe_callB call_lenB (by rfl) T.n_len (by decide +kernel) (pa_cons (pv 0) pa_nil)) pe_int))))) (pss_one (ps_ret pe_bl)) pss_nil)
      (pss_one (ps_ret (pe_callB (cr_all rfl) (by rfl) T.n_all (by decide +kernel) (pa_cons (pe_lc (own := [("sign", 1)]) (g := (gName 1)) (tt := tYes) rfl sc_is_name.nd (pi_any (pv 0)) (blkOk_by (own := [("sign", 1)]) (N := N_is_name) (sc := defScope s_is_name) (by decide +kernel)) (fun _ _ _ _ _ => (pg_name (i := 1) sc_is_name.nd rfl (.inl rfl))) (fun _ _ _ _ _ => pts_nil) (fun _ _ _ _ _ => (pe_cmpR (op_inB hr.units) (pv 1) (pe_glob rfl T.c_LETTERS.choose_spec ⟨_, rfl⟩) (by rfl)))) pa_nil)))))
theorem ok_number_in (T : Txt K mg cn) : FnG P w K mg base (L2.CX P w) 1 T.a_number_in T.f_number_in ["thing", "low", "high"] (lift K S_number_in) := by
  refine okGX T.d_number_in.fn sc_number_in (fun vs H Q E h => lift_len len_number_in h) (fun cdv A outer s H vs Q E hg hr h => ⟨t_number_in K cn, ?_, lift_WsC (n := 3) (m := 2) T.xf len_number_in rfl ws_number_in h⟩)
  exact (pss_cons (ps_if (PW.pt (pw_or (pt_not (pt_tru (pe_callB call_isiB (by rfl) T.n_isinstance (by decide +kernel) (pa_cons (pv 0) (pa_cons (pe_bltn (v := .ty "str") (u := .type "str") (by rfl) T.n_str (by decide +kernel) rfl) pa_nil))) (fun _ => rfl))) (pw_or1 (pt_not (pt_chain op_leA op_leA pe_int (pe_callB call_lenB (by rfl) T.n_len (by decide +kernel) (pa_cons (pv 0) pa_nil)) pe_int))))) (pss_one (ps_ret pe_non)) pss_nil)
      (pss_cons (ps_if (PW.pt (pw_or (pt_not (pt_tru (pe_callB (cr_all rfl) (by rfl) T.n_all (by decide +kernel) (pa_cons (pe_lc (own := [("sign", 3)]) (g := (gName 3)) (tt := tYes) rfl sc_number_in.nd (pi_any (pv 0)) (blkOk_by (own := [("sign", 3)]) (N := N_number_in) (sc := defScope s_number_in) (by decide +kernel)) (fun _ _ _ _ _ => (pg_name (i := 3) sc_number_in.nd rfl (.inl rfl))) (fun _ _ _ _ _ => pts_nil) (fun _ _ _ _ _ => (pe_cmpR (op_inB hr.units) (pv 3) (pe_glob rfl T.c_FIGURES.choose_spec ⟨_, rfl⟩) (by rfl)))) pa_nil)) (fun _ => rfl))) (pw_or1 (PW.pt (pw_and (pt_cmpR (op_eqA hr.units) (pe_ix (ix_any hr.units) (pv 0) pe_int (fun _ _ => rfl)) pe_str (nomark _)) (pw_and1 (pt_cmpR (op_neA hr.units) (pv 0) pe_str (nomark _)))))))) (pss_one (ps_ret pe_non)) pss_nil)
      (pss_cons (ps_set (i := 4) sc_number_in.nd rfl (.inl rfl) (pe_callTy call_intA (by rfl) T.n_int (by decide +kernel) (pa_cons (pv 0) pa_nil)))
      (pss_cons (ps_if (pt_not (pt_chain op_leA op_leA (pv 1) (pv 4) (pv 2))) (pss_one (ps_ret pe_non)) pss_nil)
      (pss_one (ps_ret (pv 4)))))))
theorem ok_spots_of (T : Txt K mg cn) (G_is_name : FnG P w K mg base (L2.CX P w) 1 T.a_is_name T.f_is_name ["thing"] (lift K S_is_name)) : FnG P w K mg base (L2.CX P w) 3 T.a_spots_of T.f_spots_of ["places"] (liftX K cn S_spots_of) := by
  refine okGX T.d_spots_of.fn sc_spots_of (fun vs H Q E h => liftX_len len_spots_of h) (fun cdv A outer s H vs Q E hg hr h => ⟨t_spots_of K cn (fun cls d _ H => E cls d H), ?_, liftX_WsC (n := 1) (m := 2) T.xf len_spots_of rfl ws_spots_of h⟩)
  exact (pss_cons (ps_if (PW.pt (pw_or (pt_not (pt_tru (pe_callB call_isiB (by rfl) T.n_isinstance (by decide +kernel) (pa_cons (pv 0) (pa_cons (pe_tup (pa_cons (pe_bltn (v := .ty "list") (u := .type "list") (by rfl) T.n_list (by decide +kernel) rfl) (pa_cons (pe_bltn (v := .ty "tuple") (u := .type "tuple") (by rfl) T.n_tuple (by decide +kernel) rfl) pa_nil))) pa_nil))) (fun _ => rfl))) (pw_or1 (pt_not (pt_chain op_leA op_leA pe_int (pe_callB call_lenB (by rfl) T.n_len (by decide +kernel) (pa_cons (pv 0) pa_nil)) (pe_glob rfl T.c_MOST_PLACES.choose_spec ⟨_, rfl⟩)))))) (pss_one (ps_raise rfl tkX (pmk_oex T.x_NoPlaces.all.oex T.x_NoPlaces.iC T.x_NoPlaces.tI (ini_NoPlaces T) (hr.mono (by decide)) T.x_NoPlaces.b .nil pass0 (by rfl) T.x_NoPlaces.g (pa_cons (pv 0) pa_nil)))) pss_nil)
      (pss_cons (ps_set (i := 1) sc_spots_of.nd rfl (.inl rfl) pe_dnewK)
      (pss_cons (ps_for psX rfl (pi_any (pv 0)) (pg_name (i := 2) sc_spots_of.nd rfl (.inl rfl)) (pss_cons (ps_if (pt_not (pt_tru (pe_callG G_is_name hg (hr.mono (by decide)) (by rfl) T.d_is_name.g T.d_is_name.fn.kp T.d_is_name.b .nil passL (pa_cons (pv 2) pa_nil)) (fun _ => rfl))) (pss_one (ps_raise rfl tkX (pmk_oex T.x_NoName.all.oex T.x_NoName.iC T.x_NoName.tI (ini_NoName T) (hr.mono (by decide)) T.x_NoName.b .nil pass0 (by rfl) T.x_NoName.g (pa_cons (pv 2) pa_nil)))) pss_nil)
      (pss_cons (ps_if (pt_cmpR (op_inB hr.units) (pv 2) (pv 1) (by rfl)) (pss_one (ps_raise rfl tkX (pmk_oex T.x_Twice.all.oex T.x_Twice.iC T.x_Twice.tI (ini_Twice T) (hr.mono (by decide)) T.x_Twice.b .nil pass0 (by rfl) T.x_Twice.g (pa_cons (pv 2) pa_nil)))) pss_nil)
      (pss_one (ps_asg (pe_callB call_lenB (by rfl) T.n_len (by decide +kernel) (pa_cons (pv 1) pa_nil)) (pg_sub (pv 1) (pv 2) (set_any hr.units)))))))
      (pss_one (ps_ret (pv 1))))))
theorem ok_spot_of (T : Txt K mg cn) (G_is_name : FnG P w K mg base (L2.CX P w) 1 T.a_is_name T.f_is_name ["thing"] (lift K S_is_name)) : FnG P w K mg base (L2.CX P w) 3 T.a_spot_of T.f_spot_of ["spots", "place"] (liftX K cn S_spot_of) := by
  refine okGX T.d_spot_of.fn sc_spot_of (fun vs H Q E h => liftX_len len_spot_of h) (fun cdv A outer s H vs Q E hg hr h => ⟨t_spot_of K cn (fun cls d _ H => E cls d H), ?_, liftX_WsC (n := 2) (m := 0) T.xf len_spot_of rfl ws_spot_of h⟩)
  exact (pss_cons (ps_if (PW.pt (pw_or (pt_not (pt_tru (pe_callG G_is_name hg (hr.mono (by decide)) (by rfl) T.d_is_name.g T.d_is_name.fn.kp T.d_is_name.b .nil passL (pa_cons (pv 1) pa_nil)) (fun _ => rfl))) (pw_or1 (pt_cmpR (op_notInB hr.units) (pv 1) (pv 0) (by rfl))))) (pss_one (ps_raise rfl tkX (pmk_oex T.x_NoPlace.all.oex T.x_NoPlace.iC T.x_NoPlace.tI (ini_NoPlace T) (hr.mono (by decide)) T.x_NoPlace.b .nil pass0 (by rfl) T.x_NoPlace.g (pa_cons (pv 1) pa_nil)))) pss_nil)
      (pss_one (ps_ret (pe_ix (ix_any hr.units) (pv 0) (pv 1) (fun _ _ => rfl)))))
theorem ok_pair_of (T : Txt K mg cn) : FnG P w K mg base (L2.CX P w) 1 T.a_pair_of T.f_pair_of ["here", "there"] (lift K S_pair_of) := by
  refine okGX T.d_pair_of.fn sc_pair_of (fun vs H Q E h => lift_len len_pair_of h) (fun cdv A outer s H vs Q E hg hr h => ⟨t_pair_of K cn, ?_, lift_WsC (n := 2) (m := 0) T.xf len_pair_of rfl ws_pair_of h⟩)
  exact (pss_one (ps_ret (pe_tup (pa_cons (pe_callB (call_minA rfl) (by rfl) T.n_min (by decide +kernel) (pa_cons (pv 0) (pa_cons (pv 1) pa_nil))) (pa_cons (pe_callB (call_maxA rfl) (by rfl) T.n_max (by decide +kernel) (pa_cons (pv 0) (pa_cons (pv 1) pa_nil))) pa_nil)))))
theorem ok_lengths_of (T : Txt K mg cn) (G_is_whole : FnG P w K mg base (L2.CX P w) 1 T.a_is_whole T.f_is_whole ["thing", "low", "high"] (lift K S_is_whole)) (G_pair_of : FnG P w K mg base (L2.CX P w) 1 T.a_pair_of T.f_pair_of ["here", "there"] (lift K S_pair_of)) (G_spot_of : FnG P w K mg base (L2.CX P w) 3 T.a_spot_of T.f_spot_of ["spots", "place"] (liftX K cn S_spot_of)) : FnG P w K mg base (L2.CX P w) 4 T.a_lengths_of T.f_lengths_of ["spots", "ties"] (liftX K cn S_lengths_of) := by
  refine okGX T.d_lengths_of.fn sc_lengths_of (fun vs H Q E h => liftX_len len_lengths_of h) (fun cdv A outer s H vs Q E hg hr h => ⟨t_lengths_of K cn (fun cls d _ H => E cls d H), ?_, liftX_WsC (n := 2) (m := 3) T.xf len_lengths_of rfl ws_lengths_of h⟩)
  exact (pss_cons (ps_if (PW.pt (pw_or (pt_not (pt_tru (pe_callB call_isiB (by rfl) T.n_isinstance (by decide +kernel) (pa_cons (pv 1) (pa_cons (pe_tup (pa_cons (pe_bltn (v := .ty "list") (u := .type "list") (by rfl) T.n_list (by decide +kernel) rfl) (pa_cons (pe_bltn (v := .ty "tuple") (u := .type "tuple") (by rfl) T.n_tuple (by decide +kernel) rfl) pa_nil))) pa_nil))) (fun _ => rfl))) (pw_or1 (pt_cmpR op_gtA (pe_callB call_lenB (by rfl) T.n_len (by decide +kernel) (pa_cons (pv 1) pa_nil)) (pe_glob rfl T.c_MOST_TIES.choose_spec ⟨_, rfl⟩) (nomark _))))) (pss_one (ps_raise rfl tkX (pmk_oex T.x_NoTies.all.oex T.x_NoTies.iC T.x_NoTies.tI (ini_NoTies T) (hr.mono (by decide)) T.x_NoTies.b .nil pass0 (by rfl) T.x_NoTies.g (pa_cons (pv 1) pa_nil)))) pss_nil)
      (pss_cons (ps_set (i := 2) sc_lengths_of.nd rfl (.inl rfl) pe_dnewT)
      (pss_cons (ps_for psX rfl (pi_any (pv 1)) (pg_name (i := 3) sc_lengths_of.nd rfl (.inl rfl)) (pss_cons (ps_if (PW.pt (pw_or (pt_not (pt_tru (pe_callB call_isiB (by rfl) T.n_isinstance (by decide +kernel) (pa_cons (pv 3) (pa_cons (pe_bltn (v := .ty "tuple") (u := .type "tuple") (by rfl) T.n_tuple (by decide +kernel) rfl) pa_nil))) (fun _ => rfl))) (pw_or1 (pt_cmpR (op_neA hr.units) (pe_callB call_lenB (by rfl) T.n_len (by decide +kernel) (pa_cons (pv 3) pa_nil)) pe_int (nomark _))))) (pss_one (ps_raise rfl tkX (pmk_oex T.x_NoTie.all.oex T.x_NoTie.iC T.x_NoTie.tI (ini_NoTie T) (hr.mono (by decide)) T.x_NoTie.b .nil pass0 (by rfl) T.x_NoTie.g (pa_cons (pv 3) pa_nil)))) pss_nil)
      (pss_cons (ps_set (i := 4) sc_lengths_of.nd rfl (.inl rfl) (pe_callG G_pair_of hg (hr.mono (by decide)) (by rfl) T.d_pair_of.g T.d_pair_of.fn.kp T.d_pair_of.b .nil passL (pa_cons (pe_callSG G_spot_of hg (hr.mono (by decide)) (by rfl) T.d_spot_of.g T.d_spot_of.fn.kp T.d_spot_of.b (fun σ => passAt tkX σ) (pa_cons (pv 0) (pa_cons (pe_ix (ix_any hr.units) (pv 3) pe_int (fun _ _ => rfl)) pa_nil))) (pa_cons (pe_callSG G_spot_of hg (hr.mono (by decide)) (by rfl) T.d_spot_of.g T.d_spot_of.fn.kp T.d_spot_of.b (fun σ => passAt tkX σ) (pa_cons (pv 0) (pa_cons (pe_ix (ix_any hr.units) (pv 3) pe_int (fun _ _ => rfl)) pa_nil))) pa_nil))))
      (pss_cons (ps_if (pt_cmpR (op_eqA hr.units) (pe_ix (ix_any hr.units) (pv 4) pe_int (fun _ _ => rfl)) (pe_ix (ix_any hr.units) (pv 4) pe_int (fun _ _ => rfl)) (nomark _)) (pss_one (ps_raise rfl tkX (pmk_oex T.x_Loop.all.oex T.x_Loop.iC T.x_Loop.tI (ini_Loop T) (hr.mono (by decide)) T.x_Loop.b .nil pass0 (by rfl) T.x_Loop.g (pa_cons (pv 3) pa_nil)))) pss_nil)
      (pss_cons (ps_if (pt_not (pt_tru (pe_callG G_is_whole hg (hr.mono (by decide)) (by rfl) T.d_is_whole.g T.d_is_whole.fn.kp T.d_is_whole.b .nil passL (pa_cons (pe_ix (ix_any hr.units) (pv 3) pe_int (fun _ _ => rfl)) (pa_cons pe_int (pa_cons (pe_glob rfl T.c_MOST_LENGTH.choose_spec ⟨_, rfl⟩) pa_nil)))) (fun _ => rfl))) (pss_one (ps_raise rfl tkX (pmk_oex T.x_NoLength.all.oex T.x_NoLength.iC T.x_NoLength.tI (ini_NoLength T) (hr.mono (by decide)) T.x_NoLength.b .nil pass0 (by rfl) T.x_NoLength.g (pa_cons (pe_ix (ix_any hr.units) (pv 3) pe_int (fun _ _ => rfl)) pa_nil)))) pss_nil)
      (pss_cons (ps_if (pt_cmpR (op_inB hr.units) (pv 4) (pv 2) (by rfl)) (pss_one (ps_raise rfl tkX (pmk_oex T.x_Tied.all.oex T.x_Tied.iC T.x_Tied.tI (ini_Tied T) (hr.mono (by decide)) T.x_Tied.b .nil pass0 (by rfl) T.x_Tied.g (pa_cons (pe_ix (ix_any hr.units) (pv 3) pe_int (fun _ _ => rfl)) (pa_cons (pe_ix (ix_any hr.units) (pv 3) pe_int (fun _ _ => rfl)) pa_nil))))) pss_nil)
      (pss_one (ps_asg (pe_ix (ix_any hr.units) (pv 3) pe_int (fun _ _ => rfl)) (pg_sub (pv 2) (pv 4) (set_any hr.units))))))))))
      (pss_one (ps_ret (pv 2))))))
theorem ok_Web___init__ (T : Txt K mg cn) (G_lengths_of : FnG P w K mg base (L2.CX P w) 4 T.a_lengths_of T.f_lengths_of ["spots", "ties"] (liftX K cn S_lengths_of)) (G_spots_of : FnG P w K mg base (L2.CX P w) 3 T.a_spots_of T.f_spots_of ["places"] (liftX K cn S_spots_of)) : FnG P w K mg base (L2.CX P w) 5 T.a_Web___init__ T.f_Web___init__ ["self", "places", "ties"] (liftX K cn (S_Web___init__ cn)) := by
  refine okGX T.d_Web___init__.fn sc_Web___init__ (fun vs H Q E h => liftX_len (len_Web___init__ cn) h) (fun cdv A outer s H vs Q E hg hr h => ⟨t_Web___init__ K cn (fun cls d _ H => E cls d H), ?_, liftX_WsC (n := 3) (m := 0) (Fx := fun K c => XF K c ∧ c = cn) ⟨T.xf, rfl⟩ (len_Web___init__ cn) rfl (ws_Web___init__ cn) h⟩)
  exact (pss_cons (ps_fld (pv 0) (pe_callSG G_spots_of hg (hr.mono (by decide)) (by rfl) T.d_spots_of.g T.d_spots_of.fn.kp T.d_spots_of.b (fun σ => passAt tkX σ) (pa_cons (pv 1) pa_nil)) (by rfl))
      (pss_cons (ps_fld (pv 0) (pe_callTy (call_listB rfl) (by rfl) T.n_list (by decide +kernel) (pa_cons (pv 1) pa_nil)) (by rfl))
      (pss_one (ps_fld (pv 0) (pe_callSG G_lengths_of hg (hr.mono (by decide)) (by rfl) T.d_lengths_of.g T.d_lengths_of.fn.kp T.d_lengths_of.b (fun σ => passAt tkX σ) (pa_cons (pe_fld (pv 0) (by rfl)) (pa_cons (pv 2) pa_nil))) (by rfl)))))
theorem ok_Web_ties (T : Txt K mg cn) : FnG P w K mg base (L2.CX P w) 1 T.a_Web_ties T.f_Web_ties ["self"] (lift K (S_Web_ties cn)) := by
  refine okGX T.d_Web_ties.fn sc_Web_ties (fun vs H Q E h => lift_len (len_Web_ties cn) h) (fun cdv A outer s H vs Q E hg hr h => ⟨t_Web_ties K cn, ?_, lift_WsC (n := 1) (m := 2) (Fx := fun K c => XF K c ∧ c = cn) ⟨T.xf, rfl⟩ (len_Web_ties cn) rfl (ws_Web_ties cn) h⟩)
  exact (pss_one (ps_ret (pe_lc (own := [("one", 1), ("other", 2)]) (g := (gSeq K 2 (gCons (gName 1) (gCons (gName 2) gNil)))) (tt := tYes) rfl sc_Web_ties.nd (pi_any (pe_callB (call_sortB rfl) (by rfl) T.n_sorted (by decide +kernel) (pa_cons (pe_fld (pv 0) (by rfl)) pa_nil))) (blkOk_by (own := [("one", 1), ("other", 2)]) (N := N_Web_ties) (sc := defScope s_Web_ties) (by decide +kernel)) (fun _ _ _ _ _ => (pg_seq rfl (pgs_cons (pg_name (i := 1) sc_Web_ties.nd rfl (.inl rfl)) (pgs_cons (pg_name (i := 2) sc_Web_ties.nd rfl (.inl rfl)) pgs_nil)))) (fun _ _ _ _ _ => pts_nil) (fun _ _ _ _ _ => (pe_tup (pa_cons (pe_ix (ix_any hr.units) (pe_fld (pv 0) (by rfl)) (pv 1) (fun _ _ => rfl)) (pa_cons (pe_ix (ix_any hr.units) (pe_fld (pv 0) (by rfl)) (pv 2) (fun _ _ => rfl)) (pa_cons (pe_ix (ix_any hr.units) (pe_fld (pv 0) (by rfl)) (pe_tup (pa_cons (pv 1) (pa_cons (pv 2) pa_nil))) (fun _ _ => rfl)) pa_nil))))))))
theorem ok_Web_told (T : Txt K mg cn) (G_Web_ties : FnG P w K mg base (L2.CX P w) 1 T.a_Web_ties T.f_Web_ties ["self"] (lift K (S_Web_ties cn))) : FnG P w K mg base (L2.CX P w) 2 T.a_Web_told T.f_Web_told ["self"] (lift K (S_Web_told cn)) := by
  refine okGX T.d_Web_told.fn sc_Web_told (fun vs H Q E h => lift_len (len_Web_told cn) h) (fun cdv A outer s H vs Q E hg hr h => ⟨t_Web_told K cn, ?_, lift_WsC (n := 1) (m := 0) (Fx := fun K c => XF K c ∧ c = cn) ⟨T.xf, rfl⟩ (len_Web_told cn) rfl (ws_Web_told cn) h⟩)
  exact (pss_one (ps_ret (pe_tup (pa_cons (pe_callTy call_tupA (by rfl) T.n_tuple (by decide +kernel) (pa_cons (pe_fld (pv 0) (by rfl)) pa_nil)) (pa_cons (pe_callTy call_tupA (by rfl) T.n_tuple (by decide +kernel) (pa_cons (pe_methSG0 (pv 0) T.cls_Web T.d_Web_ties.m G_Web_ties hg (hr.mono (by decide)) T.d_Web_ties.b (fun σ => passLA σ)) pa_nil)) pa_nil)))))
theorem ok_tie_in (T : Txt K mg cn) (G_is_name : FnG P w K mg base (L2.CX P w) 1 T.a_is_name T.f_is_name ["thing"] (lift K S_is_name)) (G_number_in : FnG P w K mg base (L2.CX P w) 1 T.a_number_in T.f_number_in ["thing", "low", "high"] (lift K S_number_in)) : FnG P w K mg base (L2.CX P w) 2 T.a_tie_in T.f_tie_in ["words"] (lift K S_tie_in) := by
  refine okGX T.d_tie_in.fn sc_tie_in (fun vs H Q E h => lift_len len_tie_in h) (fun cdv A outer s H vs Q E hg hr h => ⟨t_tie_in K cn, ?_, lift_WsC (n := 1) (m := 1) T.xf len_tie_in rfl ws_tie_in h⟩)
  exact (pss_cons (ps_if (PW.pt (pw_or (pt_cmpR (op_neA hr.units) (pe_callB call_lenB (by rfl) T.n_len (by decide +kernel) (pa_cons (pv 0) pa_nil)) pe_int (nomark _)) (pw_or (pt_not (pt_tru (pe_callG G_is_name hg (hr.mono (by decide)) (by rfl) T.d_is_name.g T.d_is_name.fn.kp T.d_is_name.b .nil passL (pa_cons (pe_ix (ix_any hr.units) (pv 0) pe_int (fun _ _ => rfl)) pa_nil)) (fun _ => rfl))) (pw_or1 (pt_not (pt_tru (pe_callG G_is_name hg (hr.mono (by decide)) (by rfl) T.d_is_name.g T.d_is_name.fn.kp T.d_is_name.b .nil passL (pa_cons (pe_ix (ix_any hr.units) (pv 0) pe_int (fun _ _ => rfl)) pa_nil)) (fun _ => rfl))))))) (pss_one (ps_ret pe_non)) pss_nil)
      (pss_cons (ps_set (i := 1) sc_tie_in.nd rfl (.inl rfl) (pe_callG G_number_in hg (hr.mono (by decide)) (by rfl) T.d_number_in.g T.d_number_in.fn.kp T.d_number_in.b .nil passL (pa_cons (pe_ix (ix_any hr.units) (pv 0) pe_int (fun _ _ => rfl)) (pa_cons pe_int (pa_cons (pe_glob rfl T.c_MOST_READ.choose_spec ⟨_, rfl⟩) pa_nil)))))
      (pss_cons (ps_if (pt_cmpR op_isNA (pv 1) pe_non (nomark _)) (pss_one (ps_ret pe_non)) pss_nil)
      (pss_one (ps_ret (pe_tup (pa_cons (pe_ix (ix_any hr.units) (pv 0) pe_int (fun _ _ => rfl)) (pa_cons (pe_ix (ix_any hr.units) (pv 0) pe_int (fun _ _ => rfl)) (pa_cons (pv 1) pa_nil)))))))))
theorem ok_read_web (T : Txt K mg cn) (G_Web___init__ : FnG P w K mg base (L2.CX P w) 5 T.a_Web___init__ T.f_Web___init__ ["self", "places", "ties"] (liftX K cn (S_Web___init__ cn))) (G_is_name : FnG P w K mg base (L2.CX P w) 1 T.a_is_name T.f_is_name ["thing"] (lift K S_is_name)) (G_tie_in : FnG P w K mg base (L2.CX P w) 2 T.a_tie_in T.f_tie_in ["words"] (lift K S_tie_in)) : FnG P w K mg base (L2.CX P w) 7 T.a_read_web T.f_read_web ["text"] (liftX K cn (S_read_web cn)) := by
  refine okGX T.d_read_web.fn sc_read_web (fun vs H Q E h => liftX_len (len_read_web cn) h) (fun cdv A outer s H vs Q E hg hr h => ⟨t_read_web K cn (fun cls d _ H => E cls d H), ?_, liftX_WsC (n := 1) (m := 8) (Fx := fun K c => XF K c ∧ c = cn) ⟨T.xf, rfl⟩ (len_read_web cn) rfl (ws_read_web cn) h⟩)
  exact (pss_cons (ps_if (pt_not (pt_tru (pe_callB call_isiB (by rfl) T.n_isinstance (by decide +kernel) (pa_cons (pv 0) (pa_cons (pe_bltn (v := .ty "str") (u := .type "str") (by rfl) T.n_str (by decide +kernel) rfl) pa_nil))) (fun _ => rfl))) (pss_one (ps_raise rfl tkX (pmk_oex T.x_NoText.all.oex T.x_NoText.iC T.x_NoText.tI (ini_NoText T) (hr.mono (by decide)) T.x_NoText.b .nil pass0 (by rfl) T.x_NoText.g (pa_cons (pv 0) pa_nil)))) pss_nil)
      (pss_cons (ps_setLc (i := 1) (own := [("line", 2)]) (g := (gName 2)) (tt := tYes) rfl sc_read_web.nd rfl rfl (sw_true rfl rfl rfl (by decide +kernel)) (pi_any (pe_bm PySem.F.plainAttrs_str PySem.F.slot_str_split PySem.F.type_str_split mt_splitA (pv 0) (pa_cons pe_str pa_nil))) (blkOk_by (own := [("line", 2)]) (N := N_read_web) (sc := defScope s_read_web) (by decide +kernel)) (fun _ _ _ _ _ => (pg_name (i := 2) sc_read_web.nd rfl (.inl rfl))) (fun _ _ _ _ _ => pts_nil) (fun _ _ _ _ _ => (pe_bm PySem.F.plainAttrs_str PySem.F.slot_str_split PySem.F.type_str_split mt_splitA (pv 2) (pa_cons pe_str pa_nil))))
      (pss_cons (ps_set (i := 3) sc_read_web.nd rfl (.inl rfl) (pe_slice sl_A (pe_ix (ix_any hr.units) (pv 1) pe_int (fun _ _ => rfl)) (po_some pe_int) po_none))
      (pss_cons (ps_if (PW.pt (pw_or (pt_cmpR (op_neA hr.units) (pe_ix (ix_any hr.units) (pe_ix (ix_any hr.units) (pv 1) pe_int (fun _ _ => rfl)) pe_int (fun _ _ => rfl)) pe_str (nomark _)) (pw_or (pt_cmpR (op_eqA hr.units) (pv 3) (pe_lst pa_nil) (nomark _)) (pw_or1 (pt_not (pt_tru (pe_callB (cr_all rfl) (by rfl) T.n_all (by decide +kernel) (pa_cons (pe_lc (own := [("place", 4)]) (g := (gName 4)) (tt := tYes) rfl sc_read_web.nd (pi_any (pv 3)) (blkOk_by (own := [("place", 4)]) (N := N_read_web) (sc := defScope s_read_web) (by decide +kernel)) (fun _ _ _ _ _ => (pg_name (i := 4) sc_read_web.nd rfl (.inl rfl))) (fun _ _ _ _ _ => pts_nil) (fun _ _ _ _ _ => (pe_callG G_is_name hg (hr.mono (by decide)) (by rfl) T.d_is_name.g T.d_is_name.fn.kp T.d_is_name.b .nil passL (pa_cons (pv 4) pa_nil)))) pa_nil)) (fun _ => rfl))))))) (pss_one (ps_raise rfl tkX (pmk_oex T.x_BadLine.all.oex T.x_BadLine.iC T.x_BadLine.tI (ini_BadLine T) (hr.mono (by decide)) T.x_BadLine.b .nil pass0 (by rfl) T.x_BadLine.g (pa_cons pe_int pa_nil)))) pss_nil)
      (pss_cons (ps_set (i := 5) sc_read_web.nd rfl (.inl rfl) (pe_lst pa_nil))
      (pss_cons (ps_for psX rfl (pi_enum (by rfl) T.n_enumerate (pa_cons (pe_slice sl_A (pv 1) (po_some pe_int) po_none) pa_nil)) (pg_seq rfl (pgs_cons (pg_name (i := 6) sc_read_web.nd rfl (.inl rfl)) (pgs_cons (pg_name (i := 7) sc_read_web.nd rfl (.inl rfl)) pgs_nil))) (pss_cons (ps_set (i := 8) sc_read_web.nd rfl (.inl rfl) (pe_callG G_tie_in hg (hr.mono (by decide)) (by rfl) T.d_tie_in.g T.d_tie_in.fn.kp T.d_tie_in.b .nil passL (pa_cons (pv 7) pa_nil)))
      (pss_cons (ps_if (pt_cmpR op_isNA (pv 8) pe_non (nomark _)) (pss_one (ps_raise rfl tkX (pmk_oex T.x_BadLine.all.oex T.x_BadLine.iC T.x_BadLine.tI (ini_BadLine T) (hr.mono (by decide)) T.x_BadLine.b .nil pass0 (by rfl) T.x_BadLine.g (pa_cons (pe_op op_addA (pv 6) pe_int) pa_nil)))) pss_nil)
      (pss_one (ps_expr (pe_bm PySem.F.plainAttrs_list PySem.F.slot_list_append PySem.F.type_list_append mt_appendA (pv 5) (pa_cons (pv 8) pa_nil)))))))
      (pss_one (ps_ret (pe_makeSG T.mk_Web G_Web___init__ hg (hr.mono (by decide)) (by rfl) T.g_Web T.d_Web___init__.b (fun σ => passAt tkX σ) (pa_cons (pv 3) (pa_cons (pv 5) pa_nil)))))))))))
theorem ok_l_cell (T : Txt K mg cn) : FnG P w K mg base (L2.CX P w) 1 T.a_l_cell T.f_l_cell ["_law_script", "_law_k"] (lift K S_l_cell) := by
  refine okGX T.d_l_cell.fn sc_l_cell (fun vs H Q E h => lift_len len_l_cell h) (fun cdv A outer s H vs Q E hg hr h => ⟨t_l_cell K cn, ?_, lift_WsC (n := 2) (m := 0) T.xf len_l_cell rfl ws_l_cell h⟩)
  exact (pss_cons (ps_if (pt_cmpR op_ltA (pv 1) (pe_callB call_lenB (by rfl) T.n_len (by decide +kernel) (pa_cons (pv 0) pa_nil)) (nomark _)) (pss_one (ps_ret (pe_ix (ix_any hr.units) (pv 0) (pv 1) (fun _ _ => rfl)))) pss_nil)
      (pss_one (ps_ret (pe_op op_addA (pe_op op_mulB pe_int (pv 1)) pe_int))))
theorem ok_l_box (T : Txt K mg cn) : FnG P w K mg base (L2.CX P w) 1 T.a_l_box T.f_l_box ["_law_cell_here"] (lift K S_l_box) := by
  refine okGX T.d_l_box.fn sc_l_box (fun vs H Q E h => lift_len len_l_box h) (fun cdv A outer s H vs Q E hg hr h => ⟨t_l_box K cn, ?_, lift_WsC (n := 1) (m := 0) T.xf len_l_box rfl ws_l_box h⟩)
  exact (pss_one (ps_ret (pe_lst (pa_cons (pe_callB (call_maxA rfl) (by rfl) T.n_max (by decide +kernel) (pa_cons pe_int (pa_cons (pe_op op_subA (pv 0) (pe_op op_powA pe_int pe_int)) pa_nil))) (pa_cons (pe_op op_modA (pv 0) pe_int) (pa_cons pe_int pa_nil))))))
theorem ok_l_take (T : Txt K mg cn) : FnG P w K mg base (L2.CX P w) 1 T.a_l_take T.f_l_take ["_law_box_here", "_law_many"] (lift K S_l_take) := by
  refine okGX T.d_l_take.fn sc_l_take (fun vs H Q E h => lift_len len_l_take h) (fun cdv A outer s H vs Q E hg hr h => ⟨t_l_take K cn, ?_, lift_WsC (n := 2) (m := 3) T.xf len_l_take rfl ws_l_take h⟩)
  exact (pss_cons (ps_if (pt_cmpR op_gtA (pe_ix (ix_any hr.units) (pv 0) pe_int (fun _ _ => rfl)) pe_int (nomark _)) (pss_cons (ps_set (i := 2) sc_l_take.nd rfl (.inl rfl) (pe_op op_modA (pe_ix (ix_any hr.units) (pv 0) pe_int (fun _ _ => rfl)) (pv 1)))
      (pss_cons (ps_asg (pe_op op_divA (pe_ix (ix_any hr.units) (pv 0) pe_int (fun _ _ => rfl)) (pv 1)) (pg_sub (pv 0) pe_int (set_any hr.units)))
      (pss_one (ps_ret (pv 2))))) pss_nil)
      (pss_cons (ps_asg (pe_op op_addA (pe_ix (ix_any hr.units) (pv 0) pe_int (fun _ _ => rfl)) pe_int) (pg_sub (pv 0) pe_int (set_any hr.units)))
      (pss_cons (ps_set (i := 3) sc_l_take.nd rfl (.inl rfl) (pe_op op_modA (pe_op op_powA (pe_op op_addA (pe_op op_addA (pe_op op_mulB (pe_ix (ix_any hr.units) (pv 0) pe_int (fun _ _ => rfl)) (pe_op op_addA (pe_op op_mulB pe_int (pe_ix (ix_any hr.units) (pv 0) pe_int (fun _ _ => rfl))) pe_int)) (pe_op op_mulB pe_int (pe_ix (ix_any hr.units) (pv 0) pe_int (fun _ _ => rfl)))) pe_int) pe_int) pe_int))
      (pss_cons (ps_set (i := 4) sc_l_take.nd rfl (.inl rfl) (pe_op op_modA (pe_op op_powA (pe_op op_addA (pe_op op_mulB (pv 3) (pe_op op_addA (pe_ix (ix_any hr.units) (pv 0) pe_int (fun _ _ => rfl)) pe_int)) pe_int) pe_int) pe_int))
      (pss_one (ps_ret (pe_op op_modA (pe_op op_addA (pe_op op_divA (pv 3) pe_int) (pe_op op_divA (pv 4) pe_int)) (pv 1))))))))
theorem ok_l_names (T : Txt K mg cn) (G_l_take : FnG P w K mg base (L2.CX P w) 1 T.a_l_take T.f_l_take ["_law_box_here", "_law_many"] (lift K S_l_take)) : FnG P w K mg base (L2.CX P w) 2 T.a_l_names T.f_l_names ["_law_box_here", "_law_many"] (lift K S_l_names) := by
  refine okGX T.d_l_names.fn sc_l_names (fun vs H Q E h => lift_len len_l_names h) (fun cdv A outer s H vs Q E hg hr h => ⟨t_l_names K cn, ?_, lift_WsC (n := 2) (m := 8) T.xf len_l_names rfl ws_l_names h⟩)
  exact (pss_cons (ps_set (i := 2) sc_l_names.nd rfl (.inr rfl) pe_str)
      (pss_cons (ps_set (i := 3) sc_l_names.nd rfl (.inl rfl) (pe_callG G_l_take hg (hr.mono (by decide)) (by rfl) T.d_l_take.g T.d_l_take.fn.kp T.d_l_take.b .nil passL (pa_cons (pv 0) (pa_cons pe_int pa_nil))))
      (pss_cons (ps_set (i := 4) sc_l_names.nd rfl (.inr rfl) (pe_callG G_l_take hg (hr.mono (by decide)) (by rfl) T.d_l_take.g T.d_l_take.fn.kp T.d_l_take.b .nil passL (pa_cons (pv 0) (pa_cons pe_int pa_nil))))
      (pss_cons (ps_if (pt_cmpR (op_eqA hr.units) (pv 3) pe_int (nomark _)) (pss_cons (ps_set (i := 5) sc_l_names.nd rfl (.inr rfl) (pe_bm PySem.F.plainAttrs_str PySem.F.slot_str_split PySem.F.type_str_split mt_splitA pe_str (pa_cons pe_str pa_nil)))
      (pss_one (ps_ret (pe_lc (own := [("_law_k", 6)]) (g := (gName 6)) (tt := tYes) rfl sc_l_names.nd (pi_range1 (by rfl) T.n_range (pa_cons (pv 1) pa_nil)) (blkOk_by (own := [("_law_k", 6)]) (N := N_l_names) (sc := defScope s_l_names) (by decide +kernel)) (fun _ _ _ _ _ => (pg_name (i := 6) sc_l_names.nd rfl (.inl rfl))) (fun _ _ _ _ _ => pts_nil) (fun _ _ _ _ _ => (pe_ix (ix_any hr.units) (pv 5) (pe_op op_modA (pe_op op_addA (pv 4) (pe_op op_mulB pe_int (pv 6))) pe_int) (fun _ _ => rfl))))))) pss_nil)
      (pss_cons (ps_set (i := 7) sc_l_names.nd rfl (.inr rfl) (pe_bm PySem.F.plainAttrs_str PySem.F.slot_str_join PySem.F.type_str_join mt_joinA pe_str (pa_cons (pe_lc (own := [("_law_k", 6)]) (g := (gName 6)) (tt := tYes) rfl sc_l_names.nd (pi_range1 (by rfl) T.n_range (pa_cons pe_int pa_nil)) (blkOk_by (own := [("_law_k", 6)]) (N := N_l_names) (sc := defScope s_l_names) (by decide +kernel)) (fun _ _ _ _ _ => (pg_name (i := 6) sc_l_names.nd rfl (.inl rfl))) (fun _ _ _ _ _ => pts_nil) (fun _ _ _ _ _ => (pe_ix (ix_any hr.units) (pv 2) (pe_callG G_l_take hg (hr.mono (by decide)) (by rfl) T.d_l_take.g T.d_l_take.fn.kp T.d_l_take.b .nil passL (pa_cons (pv 0) (pa_cons pe_int pa_nil))) (fun _ _ => rfl)))) pa_nil)))
      (pss_cons (ps_if (pt_cmpR (op_eqA hr.units) (pv 3) pe_int (nomark _)) (pss_one (ps_ret (pe_lc (own := [("_law_k", 6)]) (g := (gName 6)) (tt := tYes) rfl sc_l_names.nd (pi_range1 (by rfl) T.n_range (pa_cons (pv 1) pa_nil)) (blkOk_by (own := [("_law_k", 6)]) (N := N_l_names) (sc := defScope s_l_names) (by decide +kernel)) (fun _ _ _ _ _ => (pg_name (i := 6) sc_l_names.nd rfl (.inl rfl))) (fun _ _ _ _ _ => pts_nil) (fun _ _ _ _ _ => (pe_op op_addA (pe_slice sl_A (pv 7) po_none (po_some (pe_op op_modA (pv 6) pe_int))) (pe_ix (ix_any hr.units) (pv 2) (pe_op op_modA (pe_op op_addA (pv 4) (pe_op op_mulB pe_int (pv 6))) pe_int) (fun _ _ => rfl))))))) pss_nil)
      (pss_cons (ps_set (i := 8) sc_l_names.nd rfl (.inr rfl) (pe_callG G_l_take hg (hr.mono (by decide)) (by rfl) T.d_l_take.g T.d_l_take.fn.kp T.d_l_take.b .nil passL (pa_cons (pv 0) (pa_cons pe_int pa_nil))))
      (pss_cons (ps_set (i := 9) sc_l_names.nd rfl (.inr rfl) (pe_callG G_l_take hg (hr.mono (by decide)) (by rfl) T.d_l_take.g T.d_l_take.fn.kp T.d_l_take.b .nil passL (pa_cons (pv 0) (pa_cons (pe_op op_addA (pv 8) pe_int) pa_nil))))
      (pss_one (ps_ret (pe_lc (own := [("_law_k", 6)]) (g := (gName 6)) (tt := tYes) rfl sc_l_names.nd (pi_range1 (by rfl) T.n_range (pa_cons (pv 1) pa_nil)) (blkOk_by (own := [("_law_k", 6)]) (N := N_l_names) (sc := defScope s_l_names) (by decide +kernel)) (fun _ _ _ _ _ => (pg_name (i := 6) sc_l_names.nd rfl (.inl rfl))) (fun _ _ _ _ _ => pts_nil) (fun _ _ _ _ _ => (pe_op op_addA (pe_op op_addA (pe_slice sl_A (pv 7) po_none (po_some (pv 9))) (pe_ix (ix_any hr.units) (pv 2) (pe_op op_modA (pe_op op_addA (pv 4) (pe_op op_mulB pe_int (pv 6))) pe_int) (fun _ _ => rfl))) (pe_slice sl_A (pv 7) (po_some (pv 9)) (po_some (pv 8))))))))))))))))
theorem ok_l_length (T : Txt K mg cn) (G_l_take : FnG P w K mg base (L2.CX P w) 1 T.a_l_take T.f_l_take ["_law_box_here", "_law_many"] (lift K S_l_take)) : FnG P w K mg base (L2.CX P w) 2 T.a_l_length T.f_l_length ["_law_box_here"] (lift K S_l_length) := by
  refine okGX T.d_l_length.fn sc_l_length (fun vs H Q E h => lift_len len_l_length h) (fun cdv A outer s H vs Q E hg hr h => ⟨t_l_length K cn, ?_, lift_WsC (n := 1) (m := 1) T.xf len_l_length rfl ws_l_length h⟩)
  exact (pss_cons (ps_set (i := 1) sc_l_length.nd rfl (.inl rfl) (pe_callG G_l_take hg (hr.mono (by decide)) (by rfl) T.d_l_take.g T.d_l_take.fn.kp T.d_l_take.b .nil passL (pa_cons (pv 0) (pa_cons pe_int pa_nil))))
      (pss_cons (ps_if (pt_cmpR op_ltA (pv 1) pe_int (nomark _)) (pss_one (ps_ret (pe_ix (ix_any hr.units) (pe_lst (pa_cons pe_int (pa_cons (pe_op op_powA pe_int pe_int) pa_nil))) (pv 1) (fun _ _ => rfl)))) pss_nil)
      (pss_one (ps_ret (pe_op op_addA pe_int (pe_callG G_l_take hg (hr.mono (by decide)) (by rfl) T.d_l_take.g T.d_l_take.fn.kp T.d_l_take.b .nil passL (pa_cons (pv 0) (pa_cons (pe_ix (ix_any hr.units) (pe_lst (pa_cons pe_int (pa_cons pe_int (pa_cons (pe_op op_powA pe_int pe_int) pa_nil)))) (pe_op op_subA (pv 1) pe_int) (fun _ _ => rfl)) pa_nil))))))))
theorem ok_l_world (T : Txt K mg cn) (G_l_length : FnG P w K mg base (L2.CX P w) 2 T.a_l_length T.f_l_length ["_law_box_here"] (lift K S_l_length)) (G_l_names : FnG P w K mg base (L2.CX P w) 2 T.a_l_names T.f_l_names ["_law_box_here", "_law_many"] (lift K S_l_names)) (G_l_take : FnG P w K mg base (L2.CX P w) 1 T.a_l_take T.f_l_take ["_law_box_here", "_law_many"] (lift K S_l_take)) : FnG P w K mg base (L2.CX P w) 3 T.a_l_world T.f_l_world ["_law_box_here"] (lift K S_l_world) := by
  refine okGX T.d_l_world.fn sc_l_world (fun vs H Q E h => lift_len len_l_world h) (fun cdv A outer s H vs Q E hg hr h => ⟨t_l_world K cn, ?_, lift_WsC (n := 1) (m := 9) T.xf len_l_world rfl ws_l_world h⟩)
  exact (pss_cons (ps_set (i := 1) sc_l_world.nd rfl (.inl rfl) (pe_callG G_l_take hg (hr.mono (by decide)) (by rfl) T.d_l_take.g T.d_l_take.fn.kp T.d_l_take.b .nil passL (pa_cons (pv 0) (pa_cons pe_int pa_nil))))
      (pss_cons (ps_set (i := 2) sc_l_world.nd rfl (.inl rfl) pe_int)
      (pss_cons (ps_if (pt_cmpR op_ltA (pv 1) pe_int (nomark _)) (pss_one (ps_set (i := 2) sc_l_world.nd rfl (.inl rfl) (pe_op op_addA pe_int (pe_callG G_l_take hg (hr.mono (by decide)) (by rfl) T.d_l_take.g T.d_l_take.fn.kp T.d_l_take.b .nil passL (pa_cons (pv 0) (pa_cons (pe_ix (ix_any hr.units) (pe_lst (pa_cons pe_int (pa_cons pe_int pa_nil))) (pv 1) (fun _ _ => rfl)) pa_nil)))))) pss_nil)
      (pss_cons (ps_set (i := 3) sc_l_world.nd rfl (.inl rfl) (pe_ix (ix_any hr.units) (pe_lst (pa_cons pe_int (pa_cons pe_int (pa_cons pe_int (pa_cons pe_int (pa_cons pe_int pa_nil)))))) (pe_callG G_l_take hg (hr.mono (by decide)) (by rfl) T.d_l_take.g T.d_l_take.fn.kp T.d_l_take.b .nil passL (pa_cons (pv 0) (pa_cons pe_int pa_nil))) (fun _ _ => rfl)))
      (pss_cons (ps_set (i := 4) sc_l_world.nd rfl (.inl rfl) (pe_lst pa_nil))
      (pss_cons (ps_for psX rfl (pi_range1 (by rfl) T.n_range (pa_cons (pv 2) pa_nil)) (pg_name (i := 5) sc_l_world.nd rfl (.inr rfl)) (pss_one (ps_expr (pe_bm PySem.F.plainAttrs_list PySem.F.slot_list_extend PySem.F.type_list_extend mt_extendA (pv 4) (pa_cons (pe_lc (own := [("_law_j", 6)]) (g := (gName 6)) (tt := tYes) rfl sc_l_world.nd (pi_range1 (by rfl) T.n_range (pa_cons (pv 5) pa_nil)) (blkOk_by (own := [("_law_j", 6)]) (N := N_l_world) (sc := defScope s_l_world) (by decide +kernel)) (fun _ _ _ _ _ => (pg_name (i := 6) sc_l_world.nd rfl (.inl rfl))) (fun _ _ _ _ _ => pts_nil) (fun _ _ _ _ _ => (pe_tup (pa_cons (pv 6) (pa_cons (pv 5) pa_nil))))) pa_nil)))))
      (pss_cons (ps_set (i := 7) sc_l_world.nd rfl (.inl rfl) (pe_callG G_l_take hg (hr.mono (by decide)) (by rfl) T.d_l_take.g T.d_l_take.fn.kp T.d_l_take.b .nil passL (pa_cons (pv 0) (pa_cons (pe_callB (call_maxA rfl) (by rfl) T.n_max (by decide +kernel) (pa_cons pe_int (pa_cons (pe_callB call_lenB (by rfl) T.n_len (by decide +kernel) (pa_cons (pv 4) pa_nil)) pa_nil))) pa_nil))))
      (pss_cons (ps_set (i := 8) sc_l_world.nd rfl (.inl rfl) pe_dnewT)
      (pss_cons (ps_for psX rfl (pi_any (pe_op op_addA (pe_slice sl_A (pv 4) (po_some (pv 7)) po_none) (pe_slice sl_A (pv 4) po_none (po_some (pv 7))))) (pg_name (i := 9) sc_l_world.nd rfl (.inl rfl)) (pss_one (ps_if (PW.pt (pw_and (pt_cmpR op_ltA (pe_callB call_lenB (by rfl) T.n_len (by decide +kernel) (pa_cons (pv 8) pa_nil)) pe_int (nomark _)) (pw_and1 (pt_cmpR (op_eqA hr.units) (pe_callG G_l_take hg (hr.mono (by decide)) (by rfl) T.d_l_take.g T.d_l_take.fn.kp T.d_l_take.b .nil passL (pa_cons (pv 0) (pa_cons (pv 3) pa_nil))) pe_int (nomark _))))) (pss_one (ps_asg (pe_callG G_l_length hg (hr.mono (by decide)) (by rfl) T.d_l_length.g T.d_l_length.fn.kp T.d_l_length.b .nil passL (pa_cons (pv 0) pa_nil)) (pg_sub (pv 8) (pv 9) (set_any hr.units)))) pss_nil)))
      (pss_one (ps_ret (pe_disp (pps_cons pe_str (pe_callG G_l_names hg (hr.mono (by decide)) (by rfl) T.d_l_names.g T.d_l_names.fn.kp T.d_l_names.b .nil passL (pa_cons (pv 0) (pa_cons (pe_op op_addA (pv 2) pe_int) pa_nil))) (pps_cons pe_str (pv 8) pps_nil)) (by rfl) (by rfl) (fun z => by cases z) (by decide)))))))))))))
theorem ok_l_handed (T : Txt K mg cn) (G_l_take : FnG P w K mg base (L2.CX P w) 1 T.a_l_take T.f_l_take ["_law_box_here", "_law_many"] (lift K S_l_take)) : FnG P w K mg base (L2.CX P w) 2 T.a_l_handed T.f_l_handed ["_law_box_here", "_law_world_here"] (lift K S_l_handed) := by
  refine okGX T.d_l_handed.fn sc_l_handed (fun vs H Q E h => lift_len len_l_handed h) (fun cdv A outer s H vs Q E hg hr h => ⟨t_l_handed K cn, ?_, lift_WsC (n := 2) (m := 4) T.xf len_l_handed rfl ws_l_handed h⟩)
  exact (pss_cons (ps_set (i := 2) sc_l_handed.nd rfl (.inl rfl) (pe_callB (call_sortB rfl) (by rfl) T.n_sorted (by decide +kernel) (pa_cons (pe_ix (ix_any hr.units) (pv 1) pe_str (fun _ _ => rfl)) pa_nil)))
      (pss_cons (ps_set (i := 3) sc_l_handed.nd rfl (.inl rfl) (pe_lst pa_nil))
      (pss_cons (ps_while psX (pt_cmpR (op_neA hr.units) (pv 2) (pe_lst pa_nil) (nomark _)) (pss_cons (ps_set (i := 4) sc_l_handed.nd rfl (.inl rfl) (pe_bm PySem.F.plainAttrs_list PySem.F.slot_list_pop PySem.F.type_list_pop mt_popAtA (pv 2) (pa_cons (pe_callG G_l_take hg (hr.mono (by decide)) (by rfl) T.d_l_take.g T.d_l_take.fn.kp T.d_l_take.b .nil passL (pa_cons (pv 0) (pa_cons (pe_callB call_lenB (by rfl) T.n_len (by decide +kernel) (pa_cons (pv 2) pa_nil)) pa_nil))) pa_nil)))
      (pss_cons (ps_set (i := 5) sc_l_handed.nd rfl (.inl rfl) (pe_callG G_l_take hg (hr.mono (by decide)) (by rfl) T.d_l_take.g T.d_l_take.fn.kp T.d_l_take.b .nil passL (pa_cons (pv 0) (pa_cons pe_int pa_nil))))
      (pss_one (ps_expr (pe_bm PySem.F.plainAttrs_list PySem.F.slot_list_append PySem.F.type_list_append mt_appendA (pv 3) (pa_cons (pe_tup (pa_cons (pe_ix (ix_any hr.units) (pe_ix (ix_any hr.units) (pv 1) pe_str (fun _ _ => rfl)) (pe_ix (ix_any hr.units) (pv 4) (pv 5) (fun _ _ => rfl)) (fun _ _ => rfl)) (pa_cons (pe_ix (ix_any hr.units) (pe_ix (ix_any hr.units) (pv 1) pe_str (fun _ _ => rfl)) (pe_ix (ix_any hr.units) (pv 4) (pe_op op_subA pe_int (pv 5)) (fun _ _ => rfl)) (fun _ _ => rfl)) (pa_cons (pe_ix (ix_any hr.units) (pe_ix (ix_any hr.units) (pv 1) pe_str (fun _ _ => rfl)) (pv 4) (fun _ _ => rfl)) pa_nil)))) pa_nil)))))))
      (pss_one (ps_ret (pv 3))))))
theorem ok_l_tried (T : Txt K mg cn) (G_Web_told : FnG P w K mg base (L2.CX P w) 2 T.a_Web_told T.f_Web_told ["self"] (lift K (S_Web_told cn))) (G_read_web : FnG P w K mg base (L2.CX P w) 7 T.a_read_web T.f_read_web ["text"] (liftX K cn (S_read_web cn))) : FnG P w K mg base (L2.CX P w) 8 T.a_l_tried T.f_l_tried ["_law_thing"] (lift K (S_l_tried cn)) := by
  refine okGX T.d_l_tried.fn sc_l_tried (fun vs H Q E h => lift_len (len_l_tried cn) h) (fun cdv A outer s H vs Q E hg hr h => ⟨t_l_tried K cn, ?_, lift_WsC (n := 1) (m := 2) (Fx := fun K c => XF K c ∧ c = cn) ⟨T.xf, rfl⟩ (len_l_tried cn) rfl (ws_l_tried cn) h⟩)
  exact (pss_cons (ps_set (i := 1) sc_l_tried.nd rfl (.inl rfl) (pe_lst pa_nil))
      (pss_cons (ps_try_as (i := 2) (c := .ref cn.bs) (ts := fun a cls d => (tSeq (tIfS (tTruth K (tCB (rIsG K a cls d) (tCons (tVar 2) (tCons (tC (.ref (cn.ad XNoText))) tNil)))) (tDrop (tBM K "list" rAppend (tVar 1) (tCons (tLst (tCons (tC (.str "text")) (tCons (tXfX K a cls d "found" (tVar 2)) tNil))) tNil))) tNext)
    (tSeq (tIfS (tTruth K (tCB (rIsG K a cls d) (tCons (tVar 2) (tCons (tC (.ref (cn.ad XBadLine))) tNil)))) (tDrop (tBM K "list" rAppend (tVar 1) (tCons (tLst (tCons (tC (.str "line")) (tCons (tXfX K a cls d "at" (tVar 2)) tNil))) tNil))) tNext)
    (tSeq (tIfS (tTruth K (tCB (rIsG K a cls d) (tCons (tVar 2) (tCons (tC (.ref (cn.ad XNoPlaces))) tNil)))) (tDrop (tBM K "list" rAppend (tVar 1) (tCons (tLst (tCons (tC (.str "places")) (tCons (tXfX K a cls d "found" (tVar 2)) tNil))) tNil))) tNext)
    (tSeq (tIfS (tTruth K (tCB (rIsG K a cls d) (tCons (tVar 2) (tCons (tC (.ref (cn.ad XTwice))) tNil)))) (tDrop (tBM K "list" rAppend (tVar 1) (tCons (tLst (tCons (tC (.str "twice")) (tCons (tXfX K a cls d "found" (tVar 2)) tNil))) tNil))) tNext)
    (tSeq (tIfS (tTruth K (tCB (rIsG K a cls d) (tCons (tVar 2) (tCons (tC (.ref (cn.ad XNoTies))) tNil)))) (tDrop (tBM K "list" rAppend (tVar 1) (tCons (tLst (tCons (tC (.str "ties")) (tCons (tXfX K a cls d "found" (tVar 2)) tNil))) tNil))) tNext)
    (tSeq (tIfS (tTruth K (tCB (rIsG K a cls d) (tCons (tVar 2) (tCons (tC (.ref (cn.ad XNoPlace))) tNil)))) (tDrop (tBM K "list" rAppend (tVar 1) (tCons (tLst (tCons (tC (.str "place")) (tCons (tXfX K a cls d "found" (tVar 2)) tNil))) tNil))) tNext)
    (tSeq (tIfS (tTruth K (tCB (rIsG K a cls d) (tCons (tVar 2) (tCons (tC (.ref (cn.ad XLoop))) tNil)))) (tDrop (tBM K "list" rAppend (tVar 1) (tCons (tLst (tCons (tC (.str "loop")) (tCons (tXfX K a cls d "found" (tVar 2)) tNil))) tNil))) tNext)
    (tSeq (tIfS (tTruth K (tCB (rIsG K a cls d) (tCons (tVar 2) (tCons (tC (.ref (cn.ad XNoLength))) tNil)))) (tDrop (tBM K "list" rAppend (tVar 1) (tCons (tLst (tCons (tC (.str "length")) (tCons (tXfX K a cls d "found" (tVar 2)) tNil))) tNil))) tNext)
    (tIfS (tTruth K (tCB (rIsG K a cls d) (tCons (tVar 2) (tCons (tC (.ref (cn.ad XTied))) tNil)))) (tDrop (tBM K "list" rAppend (tVar 1) (tCons (tLst (tCons (tC (.str "tied")) (tCons (tXfX K a cls d "one" (tVar 2)) (tCons (tXfX K a cls d "other" (tVar 2)) tNil)))) tNil))) tNext)))))))))) (tb := fun W => (tRet (tLst (tCons (tC (.str "told")) (tCons (tMethS "told" (lift K (S_Web_told cn)) (fun _ => E0) (tCallS (liftX K cn (S_read_web cn)) (L2.WE W) (tCons (tVar 0) tNil)) (cn.ad CWeb) tNil) tNil))))) rfl rfl sc_l_tried.nd rfl rfl ⟨by rfl, by decide, .inl T.xb.g⟩ takes0
      (fun W pn xe tk hps => (pss_one (ps_ret (pe_lst (pa_cons pe_str (pa_cons (pe_methSG0 (pe_callSG G_read_web hg (hr.mono (by decide)) (by rfl) T.d_read_web.g T.d_read_web.fn.kp T.d_read_web.b (fun σ => passAt tk σ) (pa_cons (pv 0) pa_nil)) T.cls_Web T.d_Web_told.m G_Web_told hg (hr.mono (by decide)) T.d_Web_told.b (fun σ => passLA σ)) pa_nil))))))
      (fun a oe cls d pn hz hf => (pss_cons (ps_if (pt_tru (pe_callB (call_isG hz hf) (by rfl) T.n_isinstance (by decide +kernel) (pa_cons (pv 2) (pa_cons (pe_glob rfl T.x_NoText.g rfl) pa_nil))) (fun _ => rfl)) (pss_one (ps_expr (pe_bm PySem.F.plainAttrs_list PySem.F.slot_list_append PySem.F.type_list_append mt_appendA (pv 1) (pa_cons (pe_lst (pa_cons pe_str (pa_cons (pe_xfX hz hf (pv 2)) pa_nil))) pa_nil)))) pss_nil)
      (pss_cons (ps_if (pt_tru (pe_callB (call_isG hz hf) (by rfl) T.n_isinstance (by decide +kernel) (pa_cons (pv 2) (pa_cons (pe_glob rfl T.x_BadLine.g rfl) pa_nil))) (fun _ => rfl)) (pss_one (ps_expr (pe_bm PySem.F.plainAttrs_list PySem.F.slot_list_append PySem.F.type_list_append mt_appendA (pv 1) (pa_cons (pe_lst (pa_cons pe_str (pa_cons (pe_xfX hz hf (pv 2)) pa_nil))) pa_nil)))) pss_nil)
      (pss_cons (ps_if (pt_tru (pe_callB (call_isG hz hf) (by rfl) T.n_isinstance (by decide +kernel) (pa_cons (pv 2) (pa_cons (pe_glob rfl T.x_NoPlaces.g rfl) pa_nil))) (fun _ => rfl)) (pss_one (ps_expr (pe_bm PySem.F.plainAttrs_list PySem.F.slot_list_append PySem.F.type_list_append mt_appendA (pv 1) (pa_cons (pe_lst (pa_cons pe_str (pa_cons (pe_xfX hz hf (pv 2)) pa_nil))) pa_nil)))) pss_nil)
      (pss_cons (ps_if (pt_tru (pe_callB (call_isG hz hf) (by rfl) T.n_isinstance (by decide +kernel) (pa_cons (pv 2) (pa_cons (pe_glob rfl T.x_Twice.g rfl) pa_nil))) (fun _ => rfl)) (pss_one (ps_expr (pe_bm PySem.F.plainAttrs_list PySem.F.slot_list_append PySem.F.type_list_append mt_appendA (pv 1) (pa_cons (pe_lst (pa_cons pe_str (pa_cons (pe_xfX hz hf (pv 2)) pa_nil))) pa_nil)))) pss_nil)
      (pss_cons (ps_if (pt_tru (pe_callB (call_isG hz hf) (by rfl) T.n_isinstance (by decide +kernel) (pa_cons (pv 2) (pa_cons (pe_glob rfl T.x_NoTies.g rfl) pa_nil))) (fun _ => rfl)) (pss_one (ps_expr (pe_bm PySem.F.plainAttrs_list PySem.F.slot_list_append PySem.F.type_list_append mt_appendA (pv 1) (pa_cons (pe_lst (pa_cons pe_str (pa_cons (pe_xfX hz hf (pv 2)) pa_nil))) pa_nil)))) pss_nil)
      (pss_cons (ps_if (pt_tru (pe_callB (call_isG hz hf) (by rfl) T.n_isinstance (by decide +kernel) (pa_cons (pv 2) (pa_cons (pe_glob rfl T.x_NoPlace.g rfl) pa_nil))) (fun _ => rfl)) (pss_one (ps_expr (pe_bm PySem.F.plainAttrs_list PySem.F.slot_list_append PySem.F.type_list_append mt_appendA (pv 1) (pa_cons (pe_lst (pa_cons pe_str (pa_cons (pe_xfX hz hf (pv 2)) pa_nil))) pa_nil)))) pss_nil)
      (pss_cons (ps_if (pt_tru (pe_callB (call_isG hz hf) (by rfl) T.n_isinstance (by decide +kernel) (pa_cons (pv 2) (pa_cons (pe_glob rfl T.x_Loop.g rfl) pa_nil))) (fun _ => rfl)) (pss_one (ps_expr (pe_bm PySem.F.plainAttrs_list PySem.F.slot_list_append PySem.F.type_list_append mt_appendA (pv 1) (pa_cons (pe_lst (pa_cons pe_str (pa_cons (pe_xfX hz hf (pv 2)) pa_nil))) pa_nil)))) pss_nil)
      (pss_cons (ps_if (pt_tru (pe_callB (call_isG hz hf) (by rfl) T.n_isinstance (by decide +kernel) (pa_cons (pv 2) (pa_cons (pe_glob rfl T.x_NoLength.g rfl) pa_nil))) (fun _ => rfl)) (pss_one (ps_expr (pe_bm PySem.F.plainAttrs_list PySem.F.slot_list_append PySem.F.type_list_append mt_appendA (pv 1) (pa_cons (pe_lst (pa_cons pe_str (pa_cons (pe_xfX hz hf (pv 2)) pa_nil))) pa_nil)))) pss_nil)
      (pss_one (ps_if (pt_tru (pe_callB (call_isG hz hf) (by rfl) T.n_isinstance (by decide +kernel) (pa_cons (pv 2) (pa_cons (pe_glob rfl T.x_Tied.g rfl) pa_nil))) (fun _ => rfl)) (pss_one (ps_expr (pe_bm PySem.F.plainAttrs_list PySem.F.slot_list_append PySem.F.type_list_append mt_appendA (pv 1) (pa_cons (pe_lst (pa_cons pe_str (pa_cons (pe_xfX hz hf (pv 2)) (pa_cons (pe_xfX hz hf (pv 2)) pa_nil)))) pa_nil)))) pss_nil))))))))))))
      (pss_one (ps_ret (pe_ifExp (pt_cmpR (op_eqA hr.units) (pe_callB call_lenB (by rfl) T.n_len (by decide +kernel) (pa_cons (pv 1) pa_nil)) pe_int (nomark _)) (pe_ix (ix_any hr.units) (pv 1) pe_int (fun _ _ => rfl)) (pe_lst (pa_cons pe_str pa_nil)))))))
theorem ok_l_is_name (T : Txt K mg cn) : FnG P w K mg base (L2.CX P w) 1 T.a_l_is_name T.f_l_is_name ["_law_word"] (lift K S_l_is_name) := by
  refine okGX T.d_l_is_name.fn sc_l_is_name (fun vs H Q E h => lift_len len_l_is_name h) (fun cdv A outer s H vs Q E hg hr h => ⟨t_l_is_name K cn, ?_, lift_WsC (n := 1) (m := 1) T.xf len_l_is_name rfl ws_l_is_name h⟩)
  exact (pss_cons (ps_if (pt_not (pt_chain op_leA op_leA pe_int (pe_callB call_lenB (by rfl) T.n_len (by decide +kernel) (pa_cons (pv 0) pa_nil)) pe_int)) (pss_one (ps_ret pe_bl)) pss_nil)
      (pss_one (ps_ret (pe_cmpR (op_eqA hr.units) (pe_lc (own := [("_law_sign_here", 1)]) (g := (gName 1)) (tt := (tTest (tOp (rNotInB K) (tVar 1) (tC (.str "abcdefghijklmnopqrstuvwxyz"))))) rfl sc_l_is_name.nd (pi_any (pv 0)) (blkOk_by (own := [("_law_sign_here", 1)]) (N := N_l_is_name) (sc := defScope s_l_is_name) (by decide +kernel)) (fun _ _ _ _ _ => (pg_name (i := 1) sc_l_is_name.nd rfl (.inl rfl))) (fun _ _ _ _ _ => (pts_one (pt_cmpR (op_notInB hr.units) (pv 1) pe_str (by rfl)))) (fun _ _ _ _ _ => (pv 1))) (pe_lst pa_nil) (nomark _)))))
theorem ok_l_number (T : Txt K mg cn) : FnG P w K mg base (L2.CX P w) 1 T.a_l_number T.f_l_number ["_law_word"] (lift K S_l_number) := by
  refine okGX T.d_l_number.fn sc_l_number (fun vs H Q E h => lift_len len_l_number h) (fun cdv A outer s H vs Q E hg hr h => ⟨t_l_number K cn, ?_, lift_WsC (n := 1) (m := 2) T.xf len_l_number rfl ws_l_number h⟩)
  exact (pss_cons (ps_if (PW.pt (pw_or (pt_not (pt_chain op_leA op_leA pe_int (pe_callB call_lenB (by rfl) T.n_len (by decide +kernel) (pa_cons (pv 0) pa_nil)) pe_int)) (pw_or1 (pt_cmpR (op_neA hr.units) (pe_lc (own := [("_law_sign_here", 1)]) (g := (gName 1)) (tt := (tTest (tOp (rNotInB K) (tVar 1) (tC (.str "0123456789"))))) rfl sc_l_number.nd (pi_any (pv 0)) (blkOk_by (own := [("_law_sign_here", 1)]) (N := N_l_number) (sc := defScope s_l_number) (by decide +kernel)) (fun _ _ _ _ _ => (pg_name (i := 1) sc_l_number.nd rfl (.inl rfl))) (fun _ _ _ _ _ => (pts_one (pt_cmpR (op_notInB hr.units) (pv 1) pe_str (by rfl)))) (fun _ _ _ _ _ => (pv 1))) (pe_lst pa_nil) (nomark _))))) (pss_one (ps_ret pe_non)) pss_nil)
      (pss_cons (ps_if (PW.pt (pw_and (pt_cmpR (op_eqA hr.units) (pe_ix (ix_any hr.units) (pv 0) pe_int (fun _ _ => rfl)) pe_str (nomark _)) (pw_and1 (pt_cmpR (op_neA hr.units) (pv 0) pe_str (nomark _))))) (pss_one (ps_ret pe_non)) pss_nil)
      (pss_cons (ps_set (i := 2) sc_l_number.nd rfl (.inl rfl) pe_int)
      (pss_cons (ps_for psX rfl (pi_any (pv 0)) (pg_name (i := 1) sc_l_number.nd rfl (.inl rfl)) (pss_one (ps_set (i := 2) sc_l_number.nd rfl (.inl rfl) (pe_op op_addA (pe_op op_mulB pe_int (pv 2)) (pe_bm PySem.F.plainAttrs_str PySem.F.slot_str_index PySem.F.type_str_index mt_sindexA pe_str (pa_cons (pv 1) pa_nil))))))
      (pss_one (ps_ret (pv 2)))))))
theorem ok_l_tie (T : Txt K mg cn) (G_l_is_name : FnG P w K mg base (L2.CX P w) 1 T.a_l_is_name T.f_l_is_name ["_law_word"] (lift K S_l_is_name)) (G_l_number : FnG P w K mg base (L2.CX P w) 1 T.a_l_number T.f_l_number ["_law_word"] (lift K S_l_number)) : FnG P w K mg base (L2.CX P w) 2 T.a_l_tie T.f_l_tie ["_law_line"] (lift K S_l_tie) := by
  refine okGX T.d_l_tie.fn sc_l_tie (fun vs H Q E h => lift_len len_l_tie h) (fun cdv A outer s H vs Q E hg hr h => ⟨t_l_tie K cn, ?_, lift_WsC (n := 1) (m := 2) T.xf len_l_tie rfl ws_l_tie h⟩)
  exact (pss_cons (ps_set (i := 1) sc_l_tie.nd rfl (.inl rfl) (pe_bm PySem.F.plainAttrs_str PySem.F.slot_str_split PySem.F.type_str_split mt_splitA (pv 0) (pa_cons pe_str pa_nil)))
      (pss_cons (ps_if (PW.pt (pw_or (pt_cmpR (op_neA hr.units) (pe_callB call_lenB (by rfl) T.n_len (by decide +kernel) (pa_cons (pv 1) pa_nil)) pe_int (nomark _)) (pw_or (pt_not (pt_tru (pe_callG G_l_is_name hg (hr.mono (by decide)) (by rfl) T.d_l_is_name.g T.d_l_is_name.fn.kp T.d_l_is_name.b .nil passL (pa_cons (pe_ix (ix_any hr.units) (pv 1) pe_int (fun _ _ => rfl)) pa_nil)) (fun _ => rfl))) (pw_or1 (pt_not (pt_tru (pe_callG G_l_is_name hg (hr.mono (by decide)) (by rfl) T.d_l_is_name.g T.d_l_is_name.fn.kp T.d_l_is_name.b .nil passL (pa_cons (pe_ix (ix_any hr.units) (pv 1) pe_int (fun _ _ => rfl)) pa_nil)) (fun _ => rfl))))))) (pss_one (ps_ret pe_non)) pss_nil)
      (pss_cons (ps_set (i := 2) sc_l_tie.nd rfl (.inl rfl) (pe_callG G_l_number hg (hr.mono (by decide)) (by rfl) T.d_l_number.g T.d_l_number.fn.kp T.d_l_number.b .nil passL (pa_cons (pe_ix (ix_any hr.units) (pv 1) pe_int (fun _ _ => rfl)) pa_nil)))
      (pss_one (ps_ret (pe_ifExp (pt_cmpR op_isNA (pv 2) pe_non (nomark _)) pe_non (pe_tup (pa_cons (pe_ix (ix_any hr.units) (pv 1) pe_int (fun _ _ => rfl)) (pa_cons (pe_ix (ix_any hr.units) (pv 1) pe_int (fun _ _ => rfl)) (pa_cons (pv 2) pa_nil))))))))))
theorem ok_l_tie_due (T : Txt K mg cn) : FnG P w K mg base (L2.CX P w) 1 T.a_l_tie_due T.f_l_tie_due ["_law_names_here", "_law_ties", "_law_at"] (lift K S_l_tie_due) := by
  refine okGX T.d_l_tie_due.fn sc_l_tie_due (fun vs H Q E h => lift_len len_l_tie_due h) (fun cdv A outer s H vs Q E hg hr h => ⟨t_l_tie_due K cn, ?_, lift_WsC (n := 3) (m := 5) T.xf len_l_tie_due rfl ws_l_tie_due h⟩)
  exact (pss_cons (ps_asg (pe_ix (ix_any hr.units) (pv 1) (pv 2) (fun _ _ => rfl)) (pg_seq rfl (pgs_cons (pg_name (i := 3) sc_l_tie_due.nd rfl (.inl rfl)) (pgs_cons (pg_name (i := 4) sc_l_tie_due.nd rfl (.inl rfl)) (pgs_cons (pg_name (i := 5) sc_l_tie_due.nd rfl (.inl rfl)) pgs_nil)))))
      (pss_cons (ps_for psX rfl (pi_any (pe_tup (pa_cons (pv 3) (pa_cons (pv 4) pa_nil)))) (pg_name (i := 6) sc_l_tie_due.nd rfl (.inl rfl)) (pss_one (ps_if (pt_cmpR (op_notInG hr.units) (pv 6) (pv 0) (by rfl)) (pss_one (ps_ret (pe_lst (pa_cons pe_str (pa_cons (pv 6) pa_nil))))) pss_nil)))
      (pss_cons (ps_if (pt_cmpR (op_eqA hr.units) (pv 3) (pv 4) (nomark _)) (pss_one (ps_ret (pe_lst (pa_cons pe_str (pa_cons (pe_ix (ix_any hr.units) (pv 1) (pv 2) (fun _ _ => rfl)) pa_nil))))) pss_nil)
      (pss_cons (ps_if (pt_not (pt_chain op_ltA op_leA pe_int (pv 5) (pe_op op_powA pe_int pe_int))) (pss_one (ps_ret (pe_lst (pa_cons pe_str (pa_cons (pv 5) pa_nil))))) pss_nil)
      (pss_cons (ps_for psX rfl (pi_any (pe_slice sl_A (pv 1) po_none (po_some (pv 2)))) (pg_name (i := 7) sc_l_tie_due.nd rfl (.inl rfl)) (pss_one (ps_if (pt_cmpR (op_inG hr.units) (pe_slice sl_tup (pv 7) po_none (po_some pe_int)) (pe_tup (pa_cons (pe_tup (pa_cons (pv 3) (pa_cons (pv 4) pa_nil))) (pa_cons (pe_tup (pa_cons (pv 4) (pa_cons (pv 3) pa_nil))) pa_nil))) (by rfl)) (pss_one (ps_ret (pe_lst (pa_cons pe_str (pa_cons (pv 3) (pa_cons (pv 4) pa_nil)))))) pss_nil)))
      (pss_one (ps_ret pe_non)))))))
theorem ok_l_web_due (T : Txt K mg cn) (G_l_tie_due : FnG P w K mg base (L2.CX P w) 1 T.a_l_tie_due T.f_l_tie_due ["_law_names_here", "_law_ties", "_law_at"] (lift K S_l_tie_due)) : FnG P w K mg base (L2.CX P w) 2 T.a_l_web_due T.f_l_web_due ["_law_names_here", "_law_ties"] (lift K S_l_web_due) := by
  refine okGX T.d_l_web_due.fn sc_l_web_due (fun vs H Q E h => lift_len len_l_web_due h) (fun cdv A outer s H vs Q E hg hr h => ⟨t_l_web_due K cn, ?_, lift_WsC (n := 2) (m := 9) T.xf len_l_web_due rfl ws_l_web_due h⟩)
  exact (pss_cons (ps_if (pt_cmpR op_gtA (pe_callB call_lenB (by rfl) T.n_len (by decide +kernel) (pa_cons (pv 0) pa_nil)) pe_int (nomark _)) (pss_one (ps_ret (pe_lst (pa_cons pe_str (pa_cons (pv 0) pa_nil))))) pss_nil)
      (pss_cons (ps_for psX rfl (pi_enum (by rfl) T.n_enumerate (pa_cons (pv 0) pa_nil)) (pg_seq rfl (pgs_cons (pg_name (i := 2) sc_l_web_due.nd rfl (.inl rfl)) (pgs_cons (pg_name (i := 3) sc_l_web_due.nd rfl (.inl rfl)) pgs_nil))) (pss_one (ps_if (pt_cmpR (op_inG hr.units) (pv 3) (pe_slice sl_A (pv 0) po_none (po_some (pv 2))) (by rfl)) (pss_one (ps_ret (pe_lst (pa_cons pe_str (pa_cons (pv 3) pa_nil))))) pss_nil)))
      (pss_cons (ps_if (pt_cmpR op_gtA (pe_callB call_lenB (by rfl) T.n_len (by decide +kernel) (pa_cons (pv 1) pa_nil)) pe_int (nomark _)) (pss_one (ps_ret (pe_lst (pa_cons pe_str (pa_cons (pv 1) pa_nil))))) pss_nil)
      (pss_cons (ps_for psX rfl (pi_range1 (by rfl) T.n_range (pa_cons (pe_callB call_lenB (by rfl) T.n_len (by decide +kernel) (pa_cons (pv 1) pa_nil)) pa_nil)) (pg_name (i := 2) sc_l_web_due.nd rfl (.inl rfl)) (pss_cons (ps_set (i := 4) sc_l_web_due.nd rfl (.inl rfl) (pe_callG G_l_tie_due hg (hr.mono (by decide)) (by rfl) T.d_l_tie_due.g T.d_l_tie_due.fn.kp T.d_l_tie_due.b .nil passL (pa_cons (pv 0) (pa_cons (pv 1) (pa_cons (pv 2) pa_nil)))))
      (pss_one (ps_if (pt_cmpR op_notNA (pv 4) pe_non (nomark _)) (pss_one (ps_ret (pv 4))) pss_nil))))
      (pss_cons (ps_set (i := 5) sc_l_web_due.nd rfl (.inl rfl) (pe_lst pa_nil))
      (pss_cons (ps_for psX rfl (pi_any (pv 1)) (pg_seq rfl (pgs_cons (pg_name (i := 6) sc_l_web_due.nd rfl (.inl rfl)) (pgs_cons (pg_name (i := 7) sc_l_web_due.nd rfl (.inl rfl)) (pgs_cons (pg_name (i := 8) sc_l_web_due.nd rfl (.inl rfl)) pgs_nil)))) (pss_cons (ps_set (i := 9) sc_l_web_due.nd rfl (.inl rfl) (pe_callB (call_sortG hg hr.units) (by rfl) T.n_sorted (by decide +kernel) (pa_cons (pe_lst (pa_cons (pe_bm PySem.F.plainAttrs_list PySem.F.slot_list_index PySem.F.type_list_index (mt_indexG hr.units) (pv 0) (pa_cons (pv 6) pa_nil)) (pa_cons (pe_bm PySem.F.plainAttrs_list PySem.F.slot_list_index PySem.F.type_list_index (mt_indexG hr.units) (pv 0) (pa_cons (pv 7) pa_nil)) pa_nil))) pa_nil)))
      (pss_one (ps_expr (pe_bm PySem.F.plainAttrs_list PySem.F.slot_list_append PySem.F.type_list_append mt_appendA (pv 5) (pa_cons (pe_tup (pa_cons (pe_ix (ix_any hr.units) (pv 9) pe_int (fun _ _ => rfl)) (pa_cons (pe_ix (ix_any hr.units) (pv 9) pe_int (fun _ _ => rfl)) (pa_cons (pv 8) pa_nil)))) pa_nil))))))
      (pss_cons (ps_setLc (i := 10) (own := [("_law_one", 6), ("_law_other", 7), ("_law_length_here", 8)]) (g := (gSeq K 3 (gCons (gName 6) (gCons (gName 7) (gCons (gName 8) gNil))))) (tt := tYes) rfl sc_l_web_due.nd rfl rfl (sw_true rfl rfl rfl (by decide +kernel)) (pi_any (pe_callB (call_sortG hg hr.units) (by rfl) T.n_sorted (by decide +kernel) (pa_cons (pv 5) pa_nil))) (blkOk_by (own := [("_law_one", 6), ("_law_other", 7), ("_law_length_here", 8)]) (N := N_l_web_due) (sc := defScope s_l_web_due) (by decide +kernel)) (fun _ _ _ _ _ => (pg_seq rfl (pgs_cons (pg_name (i := 6) sc_l_web_due.nd rfl (.inl rfl)) (pgs_cons (pg_name (i := 7) sc_l_web_due.nd rfl (.inl rfl)) (pgs_cons (pg_name (i := 8) sc_l_web_due.nd rfl (.inl rfl)) pgs_nil))))) (fun _ _ _ _ _ => pts_nil) (fun _ _ _ _ _ => (pe_tup (pa_cons (pe_ix (ix_any hr.units) (pv 0) (pv 6) (fun _ _ => rfl)) (pa_cons (pe_ix (ix_any hr.units) (pv 0) (pv 7) (fun _ _ => rfl)) (pa_cons (pv 8) pa_nil))))))
      (pss_one (ps_ret (pe_lst (pa_cons pe_str (pa_cons (pe_tup (pa_cons (pe_callTy call_tupA (by rfl) T.n_tuple (by decide +kernel) (pa_cons (pv 0) pa_nil)) (pa_cons (pe_callTy call_tupA (by rfl) T.n_tuple (by decide +kernel) (pa_cons (pv 10) pa_nil)) pa_nil))) pa_nil))))))))))))
theorem ok_l_due (T : Txt K mg cn) (G_l_is_name : FnG P w K mg base (L2.CX P w) 1 T.a_l_is_name T.f_l_is_name ["_law_word"] (lift K S_l_is_name)) (G_l_tie : FnG P w K mg base (L2.CX P w) 2 T.a_l_tie T.f_l_tie ["_law_line"] (lift K S_l_tie)) (G_l_web_due : FnG P w K mg base (L2.CX P w) 2 T.a_l_web_due T.f_l_web_due ["_law_names_here", "_law_ties"] (lift K S_l_web_due)) : FnG P w K mg base (L2.CX P w) 3 T.a_l_due T.f_l_due ["_law_thing"] (lift K S_l_due) := by
  refine okGX T.d_l_due.fn sc_l_due (fun vs H Q E h => lift_len len_l_due h) (fun cdv A outer s H vs Q E hg hr h => ⟨t_l_due K cn, ?_, lift_WsC (n := 1) (m := 6) T.xf len_l_due rfl ws_l_due h⟩)
  exact (pss_cons (ps_if (pt_not (pt_tru (pe_callB call_isiB (by rfl) T.n_isinstance (by decide +kernel) (pa_cons (pv 0) (pa_cons (pe_bltn (v := .ty "str") (u := .type "str") (by rfl) T.n_str (by decide +kernel) rfl) pa_nil))) (fun _ => rfl))) (pss_one (ps_ret (pe_lst (pa_cons pe_str (pa_cons (pv 0) pa_nil))))) pss_nil)
      (pss_cons (ps_set (i := 1) sc_l_due.nd rfl (.inl rfl) (pe_bm PySem.F.plainAttrs_str PySem.F.slot_str_split PySem.F.type_str_split mt_splitA (pv 0) (pa_cons pe_str pa_nil)))
      (pss_cons (ps_set (i := 2) sc_l_due.nd rfl (.inl rfl) (pe_bm PySem.F.plainAttrs_str PySem.F.slot_str_split PySem.F.type_str_split mt_splitA (pe_ix (ix_any hr.units) (pv 1) pe_int (fun _ _ => rfl)) (pa_cons pe_str pa_nil)))
      (pss_cons (ps_set (i := 3) sc_l_due.nd rfl (.inl rfl) (pe_slice sl_A (pv 2) (po_some pe_int) po_none))
      (pss_cons (ps_if (PW.pt (pw_or (pt_cmpR (op_neA hr.units) (pe_ix (ix_any hr.units) (pv 2) pe_int (fun _ _ => rfl)) pe_str (nomark _)) (pw_or (pt_cmpR (op_eqA hr.units) (pv 3) (pe_lst pa_nil) (nomark _)) (pw_or1 (pt_cmpR (op_neA hr.units) (pe_lc (own := [("_law_name", 4)]) (g := (gName 4)) (tt := (tNot (tTruth K (tCall (lift K S_l_is_name) [] E0 (tCons (tVar 4) tNil))))) rfl sc_l_due.nd (pi_any (pv 3)) (blkOk_by (own := [("_law_name", 4)]) (N := N_l_due) (sc := defScope s_l_due) (by decide +kernel)) (fun _ _ _ _ _ => (pg_name (i := 4) sc_l_due.nd rfl (.inl rfl))) (fun _ _ _ _ _ => (pts_one (pt_not (pt_tru (pe_callG G_l_is_name hg (hr.mono (by decide)) (by rfl) T.d_l_is_name.g T.d_l_is_name.fn.kp T.d_l_is_name.b .nil passL (pa_cons (pv 4) pa_nil)) (fun _ => rfl))))) (fun _ _ _ _ _ => (pv 4))) (pe_lst pa_nil) (nomark _)))))) (pss_one (ps_ret (pe_lst (pa_cons pe_str (pa_cons pe_int pa_nil))))) pss_nil)
      (pss_cons (ps_setLc (i := 5) (own := [("_law_line", 6)]) (g := (gName 6)) (tt := tYes) rfl sc_l_due.nd rfl rfl (sw_true rfl rfl rfl (by decide +kernel)) (pi_any (pe_slice sl_A (pv 1) (po_some pe_int) po_none)) (blkOk_by (own := [("_law_line", 6)]) (N := N_l_due) (sc := defScope s_l_due) (by decide +kernel)) (fun _ _ _ _ _ => (pg_name (i := 6) sc_l_due.nd rfl (.inl rfl))) (fun _ _ _ _ _ => pts_nil) (fun _ _ _ _ _ => (pe_callG G_l_tie hg (hr.mono (by decide)) (by rfl) T.d_l_tie.g T.d_l_tie.fn.kp T.d_l_tie.b .nil passL (pa_cons (pv 6) pa_nil))))
      (pss_cons (ps_if (pt_cmpR (op_inG hr.units) pe_non (pv 5) (by rfl)) (pss_one (ps_ret (pe_lst (pa_cons pe_str (pa_cons (pe_op op_addA pe_int (pe_bm PySem.F.plainAttrs_list PySem.F.slot_list_index PySem.F.type_list_index (mt_indexG hr.units) (pv 5) (pa_cons pe_non pa_nil))) pa_nil))))) pss_nil)
      (pss_one (ps_ret (pe_callG G_l_web_due hg (hr.mono (by decide)) (by rfl) T.d_l_web_due.g T.d_l_web_due.fn.kp T.d_l_web_due.b .nil passL (pa_cons (pv 3) (pa_cons (pv 5) pa_nil))))))))))))
theorem ok_l_text (T : Txt K mg cn) (G_l_handed : FnG P w K mg base (L2.CX P w) 2 T.a_l_handed T.f_l_handed ["_law_box_here", "_law_world_here"] (lift K S_l_handed)) : FnG P w K mg base (L2.CX P w) 3 T.a_l_text T.f_l_text ["_law_box_here", "_law_world_here"] (lift K S_l_text) := by
  refine okGX T.d_l_text.fn sc_l_text (fun vs H Q E h => lift_len len_l_text h) (fun cdv A outer s H vs Q E hg hr h => ⟨t_l_text K cn, ?_, lift_WsC (n := 2) (m := 4) T.xf len_l_text rfl ws_l_text h⟩)
  exact (pss_cons (ps_set (i := 2) sc_l_text.nd rfl (.inl rfl) (pe_lst (pa_cons (pe_bm PySem.F.plainAttrs_str PySem.F.slot_str_join PySem.F.type_str_join mt_joinA pe_str (pa_cons (pe_op op_addA (pe_lst (pa_cons pe_str pa_nil)) (pe_slice sl_A (pe_ix (ix_any hr.units) (pv 1) pe_str (fun _ _ => rfl)) po_none (po_some (pe_un un_negA pe_int)))) pa_nil)) pa_nil)))
      (pss_one (ps_ret (pe_bm PySem.F.plainAttrs_str PySem.F.slot_str_join PySem.F.type_str_join mt_joinA pe_str (pa_cons (pe_op op_addA (pv 2) (pe_lc (own := [("_law_one", 3), ("_law_other", 4), ("_law_length_here", 5)]) (g := (gSeq K 3 (gCons (gName 3) (gCons (gName 4) (gCons (gName 5) gNil))))) (tt := tYes) rfl sc_l_text.nd (pi_any (pe_callG G_l_handed hg (hr.mono (by decide)) (by rfl) T.d_l_handed.g T.d_l_handed.fn.kp T.d_l_handed.b .nil passL (pa_cons (pv 0) (pa_cons (pv 1) pa_nil)))) (blkOk_by (own := [("_law_one", 3), ("_law_other", 4), ("_law_length_here", 5)]) (N := N_l_text) (sc := defScope s_l_text) (by decide +kernel)) (fun _ _ _ _ _ => (pg_seq rfl (pgs_cons (pg_name (i := 3) sc_l_text.nd rfl (.inl rfl)) (pgs_cons (pg_name (i := 4) sc_l_text.nd rfl (.inl rfl)) (pgs_cons (pg_name (i := 5) sc_l_text.nd rfl (.inl rfl)) pgs_nil))))) (fun _ _ _ _ _ => pts_nil) (fun _ _ _ _ _ => (pe_bm PySem.F.plainAttrs_str PySem.F.slot_str_join PySem.F.type_str_join mt_joinA pe_str (pa_cons (pe_lst (pa_cons (pv 3) (pa_cons (pv 4) (pa_cons (pe_callTy call_strA (by rfl) T.n_str (by decide +kernel) (pa_cons (pv 5) pa_nil)) pa_nil)))) pa_nil))))) pa_nil)))))
theorem ok_l_sign (T : Txt K mg cn) (G_l_take : FnG P w K mg base (L2.CX P w) 1 T.a_l_take T.f_l_take ["_law_box_here", "_law_many"] (lift K S_l_take)) : FnG P w K mg base (L2.CX P w) 2 T.a_l_sign T.f_l_sign ["_law_box_here"] (lift K S_l_sign) := by
  refine okGX T.d_l_sign.fn sc_l_sign (fun vs H Q E h => lift_len len_l_sign h) (fun cdv A outer s H vs Q E hg hr h => ⟨t_l_sign K cn, ?_, lift_WsC (n := 1) (m := 1) T.xf len_l_sign rfl ws_l_sign h⟩)
  exact (pss_cons (ps_set (i := 1) sc_l_sign.nd rfl (.inl rfl) pe_str)
      (pss_one (ps_ret (pe_ix (ix_any hr.units) (pv 1) (pe_callG G_l_take hg (hr.mono (by decide)) (by rfl) T.d_l_take.g T.d_l_take.fn.kp T.d_l_take.b .nil passL (pa_cons (pv 0) (pa_cons pe_int pa_nil))) (fun _ _ => rfl)))))
theorem ok_l_lines_spoilt (T : Txt K mg cn) (G_l_take : FnG P w K mg base (L2.CX P w) 1 T.a_l_take T.f_l_take ["_law_box_here", "_law_many"] (lift K S_l_take)) : FnG P w K mg base (L2.CX P w) 2 T.a_l_lines_spoilt T.f_l_lines_spoilt ["_law_box_here", "_law_text_here", "_law_spare"] (lift K S_l_lines_spoilt) := by
  refine okGX T.d_l_lines_spoilt.fn sc_l_lines_spoilt (fun vs H Q E h => lift_len len_l_lines_spoilt h) (fun cdv A outer s H vs Q E hg hr h => ⟨t_l_lines_spoilt K cn, ?_, lift_WsC (n := 3) (m := 6) T.xf len_l_lines_spoilt rfl ws_l_lines_spoilt h⟩)
  exact (pss_cons (ps_set (i := 3) sc_l_lines_spoilt.nd rfl (.inl rfl) (pe_callG G_l_take hg (hr.mono (by decide)) (by rfl) T.d_l_take.g T.d_l_take.fn.kp T.d_l_take.b .nil passL (pa_cons (pv 0) (pa_cons pe_int pa_nil))))
      (pss_cons (ps_set (i := 4) sc_l_lines_spoilt.nd rfl (.inl rfl) (pe_bm PySem.F.plainAttrs_str PySem.F.slot_str_split PySem.F.type_str_split mt_splitA (pv 1) (pa_cons pe_str pa_nil)))
      (pss_cons (ps_set (i := 5) sc_l_lines_spoilt.nd rfl (.inl rfl) (pe_callG G_l_take hg (hr.mono (by decide)) (by rfl) T.d_l_take.g T.d_l_take.fn.kp T.d_l_take.b .nil passL (pa_cons (pv 0) (pa_cons (pe_callB call_lenB (by rfl) T.n_len (by decide +kernel) (pa_cons (pv 4) pa_nil)) pa_nil))))
      (pss_cons (ps_set (i := 6) sc_l_lines_spoilt.nd rfl (.inl rfl) (pe_callG G_l_take hg (hr.mono (by decide)) (by rfl) T.d_l_take.g T.d_l_take.fn.kp T.d_l_take.b .nil passL (pa_cons (pv 0) (pa_cons (pe_callB call_lenB (by rfl) T.n_len (by decide +kernel) (pa_cons (pv 4) pa_nil)) pa_nil))))
      (pss_cons (ps_if (pt_cmpR (op_eqA hr.units) (pv 3) pe_int (nomark _)) (pss_one (ps_ret (pe_bm PySem.F.plainAttrs_str PySem.F.slot_str_join PySem.F.type_str_join mt_joinA pe_str (pa_cons (pe_op op_addA (pe_slice sl_A (pv 4) po_none (po_some (pv 5))) (pe_slice sl_A (pv 4) (po_some (pe_op op_addA (pv 5) pe_int)) po_none)) pa_nil)))) pss_nil)
      (pss_cons (ps_if (pt_cmpR (op_eqA hr.units) (pv 3) pe_int (nomark _)) (pss_one (ps_ret (pe_bm PySem.F.plainAttrs_str PySem.F.slot_str_join PySem.F.type_str_join mt_joinA pe_str (pa_cons (pe_op op_addA (pe_op op_addA (pe_slice sl_A (pv 4) po_none (po_some (pv 5))) (pe_lst (pa_cons (pe_ix (ix_any hr.units) (pv 4) (pv 6) (fun _ _ => rfl)) pa_nil))) (pe_slice sl_A (pv 4) (po_some (pv 5)) po_none)) pa_nil)))) pss_nil)
      (pss_cons (ps_if (pt_cmpR (op_eqA hr.units) (pv 3) pe_int (nomark _)) (pss_cons (ps_asg (pe_tup (pa_cons (pe_ix (ix_any hr.units) (pv 4) (pv 6) (fun _ _ => rfl)) (pa_cons (pe_ix (ix_any hr.units) (pv 4) (pv 5) (fun _ _ => rfl)) pa_nil))) (pg_seq rfl (pgs_cons (pg_sub (pv 4) (pv 5) (set_any hr.units)) (pgs_cons (pg_sub (pv 4) (pv 6) (set_any hr.units)) pgs_nil))))
      (pss_one (ps_ret (pe_bm PySem.F.plainAttrs_str PySem.F.slot_str_join PySem.F.type_str_join mt_joinA pe_str (pa_cons (pv 4) pa_nil))))) pss_nil)
      (pss_cons (ps_if (pt_cmpR (op_eqA hr.units) (pv 3) pe_int (nomark _)) (pss_one (ps_ret (pe_ix (ix_any hr.units) (pe_lst (pa_cons (pe_op op_addA (pv 1) pe_str) (pa_cons (pe_op op_addA pe_str (pv 1)) (pa_cons (pe_op op_addA (pv 1) pe_str) (pa_cons (pe_op op_addA pe_str (pv 1)) (pa_cons pe_str pa_nil)))))) (pe_callG G_l_take hg (hr.mono (by decide)) (by rfl) T.d_l_take.g T.d_l_take.fn.kp T.d_l_take.b .nil passL (pa_cons (pv 0) (pa_cons pe_int pa_nil))) (fun _ _ => rfl)))) pss_nil)
      (pss_cons (ps_if (pt_cmpR (op_eqA hr.units) (pv 3) pe_int (nomark _)) (pss_cons (ps_set (i := 7) sc_l_lines_spoilt.nd rfl (.inl rfl) (pe_op op_addA (pe_op op_mulB pe_str (pe_ix (ix_any hr.units) (pe_lst (pa_cons pe_int (pa_cons pe_int pa_nil))) (pe_callTy call_intA (by rfl) T.n_int (by decide +kernel) (pa_cons (pe_cmpR op_ltA (pe_callB call_lenB (by rfl) T.n_len (by decide +kernel) (pa_cons (pv 1) pa_nil)) pe_int (nomark _)) pa_nil)) (fun _ _ => rfl))) pe_str))
      (pss_cons (ps_set (i := 8) sc_l_lines_spoilt.nd rfl (.inl rfl) (pe_ix (ix_any hr.units) (pe_lst (pa_cons (pe_ix (ix_any hr.units) (pe_bm PySem.F.plainAttrs_str PySem.F.slot_str_split PySem.F.type_str_split mt_splitA (pe_ix (ix_any hr.units) (pv 4) pe_int (fun _ _ => rfl)) (pa_cons pe_str pa_nil)) (pe_un un_negA pe_int) (fun _ _ => rfl)) (pa_cons (pv 2) (pa_cons pe_str (pa_cons (pv 7) pa_nil))))) (pe_callG G_l_take hg (hr.mono (by decide)) (by rfl) T.d_l_take.g T.d_l_take.fn.kp T.d_l_take.b .nil passL (pa_cons (pv 0) (pa_cons pe_int pa_nil))) (fun _ _ => rfl)))
      (pss_one (ps_ret (pe_op op_addA (pe_op op_addA (pe_op op_addA (pe_ix (ix_any hr.units) (pv 4) pe_int (fun _ _ => rfl)) pe_str) (pv 8)) (pe_slice sl_A (pv 1) (po_some (pe_callB call_lenB (by rfl) T.n_len (by decide +kernel) (pa_cons (pe_ix (ix_any hr.units) (pv 4) pe_int (fun _ _ => rfl)) pa_nil))) po_none)))))) pss_nil)
      (pss_cons (ps_if (pt_cmpR (op_eqA hr.units) (pv 3) pe_int (nomark _)) (pss_one (ps_ret (pe_bm PySem.F.plainAttrs_str PySem.F.slot_str_join PySem.F.type_str_join mt_joinA pe_str (pa_cons (pe_op op_addA (pv 4) (pe_op L2.op_rep (pe_slice sl_A (pv 4) (po_some pe_int) (po_some pe_int)) (pe_ix (ix_any hr.units) (pe_lst (pa_cons pe_int (pa_cons pe_int pa_nil))) (pe_callTy call_intA (by rfl) T.n_int (by decide +kernel) (pa_cons (pe_cmpR op_gtA (pe_callB call_lenB (by rfl) T.n_len (by decide +kernel) (pa_cons (pv 4) pa_nil)) pe_int (nomark _)) pa_nil)) (fun _ _ => rfl)))) pa_nil)))) pss_nil)
      (pss_one (ps_ret (pe_bm PySem.F.plainAttrs_str PySem.F.slot_str_join PySem.F.type_str_join mt_joinA pe_str (pa_cons (pe_op op_addA (pe_op op_addA (pe_slice sl_A (pv 4) po_none (po_some pe_int)) (pe_callB (call_sortG hg hr.units) (by rfl) T.n_sorted (by decide +kernel) (pa_cons (pe_slice sl_A (pv 4) (po_some pe_int) po_none) pa_nil))) (pe_lst (pa_cons (pe_bm PySem.F.plainAttrs_str PySem.F.slot_str_join PySem.F.type_str_join mt_joinA pe_str (pa_cons (pe_lst (pa_cons (pv 2) (pa_cons (pe_ix (ix_any hr.units) (pe_bm PySem.F.plainAttrs_str PySem.F.slot_str_split PySem.F.type_str_split mt_splitA (pe_ix (ix_any hr.units) (pv 4) pe_int (fun _ _ => rfl)) (pa_cons pe_str pa_nil)) (pe_un un_negA pe_int) (fun _ _ => rfl)) (pa_cons pe_str pa_nil)))) pa_nil)) pa_nil))) pa_nil))))))))))))))
theorem ok_l_words_spoilt (T : Txt K mg cn) (G_l_take : FnG P w K mg base (L2.CX P w) 1 T.a_l_take T.f_l_take ["_law_box_here", "_law_many"] (lift K S_l_take)) : FnG P w K mg base (L2.CX P w) 2 T.a_l_words_spoilt T.f_l_words_spoilt ["_law_box_here", "_law_text_here", "_law_spare"] (lift K S_l_words_spoilt) := by
  refine okGX T.d_l_words_spoilt.fn sc_l_words_spoilt (fun vs H Q E h => lift_len len_l_words_spoilt h) (fun cdv A outer s H vs Q E hg hr h => ⟨t_l_words_spoilt K cn, ?_, lift_WsC (n := 3) (m := 8) T.xf len_l_words_spoilt rfl ws_l_words_spoilt h⟩)
  exact (pss_cons (ps_set (i := 3) sc_l_words_spoilt.nd rfl (.inl rfl) (pe_callG G_l_take hg (hr.mono (by decide)) (by rfl) T.d_l_take.g T.d_l_take.fn.kp T.d_l_take.b .nil passL (pa_cons (pv 0) (pa_cons pe_int pa_nil))))
      (pss_cons (ps_set (i := 4) sc_l_words_spoilt.nd rfl (.inl rfl) (pe_bm PySem.F.plainAttrs_str PySem.F.slot_str_split PySem.F.type_str_split mt_splitA (pv 1) (pa_cons pe_str pa_nil)))
      (pss_cons (ps_set (i := 5) sc_l_words_spoilt.nd rfl (.inl rfl) (pe_callG G_l_take hg (hr.mono (by decide)) (by rfl) T.d_l_take.g T.d_l_take.fn.kp T.d_l_take.b .nil passL (pa_cons (pv 0) (pa_cons (pe_callB call_lenB (by rfl) T.n_len (by decide +kernel) (pa_cons (pv 4) pa_nil)) pa_nil))))
      (pss_cons (ps_set (i := 6) sc_l_words_spoilt.nd rfl (.inl rfl) (pe_bm PySem.F.plainAttrs_str PySem.F.slot_str_split PySem.F.type_str_split mt_splitA (pe_ix (ix_any hr.units) (pv 4) (pv 5) (fun _ _ => rfl)) (pa_cons pe_str pa_nil)))
      (pss_cons (ps_set (i := 7) sc_l_words_spoilt.nd rfl (.inl rfl) (pe_callG G_l_take hg (hr.mono (by decide)) (by rfl) T.d_l_take.g T.d_l_take.fn.kp T.d_l_take.b .nil passL (pa_cons (pv 0) (pa_cons (pe_callB call_lenB (by rfl) T.n_len (by decide +kernel) (pa_cons (pv 6) pa_nil)) pa_nil))))
      (pss_cons (ps_set (i := 8) sc_l_words_spoilt.nd rfl (.inl rfl) (pe_lst (pa_cons pe_str (pa_cons pe_str (pa_cons pe_str (pa_cons (pe_op op_mulB pe_str pe_int) (pa_cons (pe_op op_mulB pe_str pe_int) (pa_cons pe_str (pa_cons pe_str (pa_cons pe_str (pa_cons pe_str (pa_cons pe_str (pa_cons pe_str (pa_cons (pv 2) (pa_cons (pe_ix (ix_any hr.units) (pv 6) pe_int (fun _ _ => rfl)) (pa_cons pe_str pa_nil))))))))))))))))
      (pss_cons (ps_set (i := 9) sc_l_words_spoilt.nd rfl (.inl rfl) (pe_ix (ix_any hr.units) (pv 8) (pe_callG G_l_take hg (hr.mono (by decide)) (by rfl) T.d_l_take.g T.d_l_take.fn.kp T.d_l_take.b .nil passL (pa_cons (pv 0) (pa_cons pe_int pa_nil))) (fun _ _ => rfl)))
      (pss_cons (ps_set (i := 10) sc_l_words_spoilt.nd rfl (.inl rfl) (pe_lst (pa_cons (pe_op op_addA (pe_op op_addA (pe_slice sl_A (pv 6) po_none (po_some (pv 7))) (pe_lst (pa_cons (pv 9) pa_nil))) (pe_slice sl_A (pv 6) (po_some (pe_op op_addA (pv 7) pe_int)) po_none)) (pa_cons (pe_op op_addA (pe_op op_addA (pe_slice sl_A (pv 6) po_none (po_some (pv 7))) (pe_lst (pa_cons (pv 9) pa_nil))) (pe_slice sl_A (pv 6) (po_some (pv 7)) po_none)) pa_nil))))
      (pss_cons (ps_set (i := 10) sc_l_words_spoilt.nd rfl (.inl rfl) (pe_op op_addA (pv 10) (pe_lst (pa_cons (pe_op op_addA (pe_slice sl_A (pv 6) po_none (po_some (pv 7))) (pe_slice sl_A (pv 6) (po_some (pe_op op_addA (pv 7) pe_int)) po_none)) (pa_cons (pe_op op_addA (pe_op op_addA (pe_slice sl_A (pv 6) po_none (po_some (pv 7))) (pe_lst (pa_cons (pe_ix (ix_any hr.units) (pv 6) (pe_un un_negA pe_int) (fun _ _ => rfl)) pa_nil))) (pe_slice sl_A (pv 6) (po_some (pe_op op_addA (pv 7) pe_int)) po_none)) pa_nil)))))
      (pss_one (ps_ret (pe_bm PySem.F.plainAttrs_str PySem.F.slot_str_join PySem.F.type_str_join mt_joinA pe_str (pa_cons (pe_op op_addA (pe_op op_addA (pe_slice sl_A (pv 4) po_none (po_some (pv 5))) (pe_lst (pa_cons (pe_bm PySem.F.plainAttrs_str PySem.F.slot_str_join PySem.F.type_str_join mt_joinA pe_str (pa_cons (pe_ix (ix_any hr.units) (pv 10) (pv 3) (fun _ _ => rfl)) pa_nil)) pa_nil))) (pe_slice sl_A (pv 4) (po_some (pe_op op_addA (pv 5) pe_int)) po_none)) pa_nil)))))))))))))
theorem ok_l_spoilt (T : Txt K mg cn) (G_l_lines_spoilt : FnG P w K mg base (L2.CX P w) 2 T.a_l_lines_spoilt T.f_l_lines_spoilt ["_law_box_here", "_law_text_here", "_law_spare"] (lift K S_l_lines_spoilt)) (G_l_sign : FnG P w K mg base (L2.CX P w) 2 T.a_l_sign T.f_l_sign ["_law_box_here"] (lift K S_l_sign)) (G_l_take : FnG P w K mg base (L2.CX P w) 1 T.a_l_take T.f_l_take ["_law_box_here", "_law_many"] (lift K S_l_take)) (G_l_words_spoilt : FnG P w K mg base (L2.CX P w) 2 T.a_l_words_spoilt T.f_l_words_spoilt ["_law_box_here", "_law_text_here", "_law_spare"] (lift K S_l_words_spoilt)) : FnG P w K mg base (L2.CX P w) 3 T.a_l_spoilt T.f_l_spoilt ["_law_box_here", "_law_text_here", "_law_spare"] (lift K S_l_spoilt) := by
  refine okGX T.d_l_spoilt.fn sc_l_spoilt (fun vs H Q E h => lift_len len_l_spoilt h) (fun cdv A outer s H vs Q E hg hr h => ⟨t_l_spoilt K cn, ?_, lift_WsC (n := 3) (m := 4) T.xf len_l_spoilt rfl ws_l_spoilt h⟩)
  exact (pss_cons (ps_set (i := 3) sc_l_spoilt.nd rfl (.inl rfl) (pe_callG G_l_take hg (hr.mono (by decide)) (by rfl) T.d_l_take.g T.d_l_take.fn.kp T.d_l_take.b .nil passL (pa_cons (pv 0) (pa_cons pe_int pa_nil))))
      (pss_cons (ps_if (pt_cmpR op_ltA (pv 3) pe_int (nomark _)) (pss_one (ps_ret (pe_callG G_l_lines_spoilt hg (hr.mono (by decide)) (by rfl) T.d_l_lines_spoilt.g T.d_l_lines_spoilt.fn.kp T.d_l_lines_spoilt.b .nil passL (pa_cons (pv 0) (pa_cons (pv 1) (pa_cons (pv 2) pa_nil)))))) pss_nil)
      (pss_cons (ps_if (pt_cmpR op_ltA (pv 3) pe_int (nomark _)) (pss_one (ps_ret (pe_callG G_l_words_spoilt hg (hr.mono (by decide)) (by rfl) T.d_l_words_spoilt.g T.d_l_words_spoilt.fn.kp T.d_l_words_spoilt.b .nil passL (pa_cons (pv 0) (pa_cons (pv 1) (pa_cons (pv 2) pa_nil)))))) pss_nil)
      (pss_cons (ps_set (i := 4) sc_l_spoilt.nd rfl (.inl rfl) (pe_callG G_l_take hg (hr.mono (by decide)) (by rfl) T.d_l_take.g T.d_l_take.fn.kp T.d_l_take.b .nil passL (pa_cons (pv 0) (pa_cons (pe_op op_addA (pe_callB call_lenB (by rfl) T.n_len (by decide +kernel) (pa_cons (pv 1) pa_nil)) pe_int) pa_nil))))
      (pss_cons (ps_set (i := 5) sc_l_spoilt.nd rfl (.inl rfl) (pe_callG G_l_take hg (hr.mono (by decide)) (by rfl) T.d_l_take.g T.d_l_take.fn.kp T.d_l_take.b .nil passL (pa_cons (pv 0) (pa_cons pe_int pa_nil))))
      (pss_cons (ps_set (i := 6) sc_l_spoilt.nd rfl (.inl rfl) (pe_callG G_l_sign hg (hr.mono (by decide)) (by rfl) T.d_l_sign.g T.d_l_sign.fn.kp T.d_l_sign.b .nil passL (pa_cons (pv 0) pa_nil)))
      (pss_one (ps_ret (pe_op op_addA (pe_op op_addA (pe_slice sl_A (pv 1) po_none (po_some (pv 4))) (pe_ix (ix_any hr.units) (pe_lst (pa_cons (pv 6) (pa_cons (pv 6) (pa_cons pe_str pa_nil)))) (pv 5) (fun _ _ => rfl))) (pe_slice sl_A (pv 1) (po_some (pe_op op_addA (pv 4) (pe_ix (ix_any hr.units) (pe_lst (pa_cons pe_int (pa_cons pe_int (pa_cons pe_int pa_nil)))) (pv 5) (fun _ _ => rfl)))) po_none))))))))))
theorem ok_law (T : Txt K mg cn) (G_l_box : FnG P w K mg base (L2.CX P w) 1 T.a_l_box T.f_l_box ["_law_cell_here"] (lift K S_l_box)) (G_l_cell : FnG P w K mg base (L2.CX P w) 1 T.a_l_cell T.f_l_cell ["_law_script", "_law_k"] (lift K S_l_cell)) (G_l_due : FnG P w K mg base (L2.CX P w) 3 T.a_l_due T.f_l_due ["_law_thing"] (lift K S_l_due)) (G_l_spoilt : FnG P w K mg base (L2.CX P w) 3 T.a_l_spoilt T.f_l_spoilt ["_law_box_here", "_law_text_here", "_law_spare"] (lift K S_l_spoilt)) (G_l_take : FnG P w K mg base (L2.CX P w) 1 T.a_l_take T.f_l_take ["_law_box_here", "_law_many"] (lift K S_l_take)) (G_l_text : FnG P w K mg base (L2.CX P w) 3 T.a_l_text T.f_l_text ["_law_box_here", "_law_world_here"] (lift K S_l_text)) (G_l_tried : FnG P w K mg base (L2.CX P w) 8 T.a_l_tried T.f_l_tried ["_law_thing"] (lift K (S_l_tried cn))) (G_l_world : FnG P w K mg base (L2.CX P w) 3 T.a_l_world T.f_l_world ["_law_box_here"] (lift K S_l_world)) : FnG P w K mg base (L2.CX P w) 9 T.a_law T.f_law ["_law_script"] (lift K S_law) := by
  refine okGX T.d_law.fn sc_law (fun vs H Q E h => lift_len len_law h) (fun cdv A outer s H vs Q E hg hr h => ⟨t_law K cn, ?_, lift_WsC (n := 1) (m := 8) T.xf len_law rfl ws_law h⟩)
  exact (pss_cons (ps_for psX rfl (pi_range1 (by rfl) T.n_range (pa_cons (pe_callB (call_maxA rfl) (by rfl) T.n_max (by decide +kernel) (pa_cons pe_int (pa_cons (pe_callB (call_minA rfl) (by rfl) T.n_min (by decide +kernel) (pa_cons (pe_callB call_lenB (by rfl) T.n_len (by decide +kernel) (pa_cons (pv 0) pa_nil)) (pa_cons pe_int pa_nil))) pa_nil))) pa_nil)) (pg_name (i := 1) sc_law.nd rfl (.inl rfl)) (pss_cons (ps_set (i := 2) sc_law.nd rfl (.inl rfl) (pe_callG G_l_box hg (hr.mono (by decide)) (by rfl) T.d_l_box.g T.d_l_box.fn.kp T.d_l_box.b .nil passL (pa_cons (pe_callG G_l_cell hg (hr.mono (by decide)) (by rfl) T.d_l_cell.g T.d_l_cell.fn.kp T.d_l_cell.b .nil passL (pa_cons (pv 0) (pa_cons (pv 1) pa_nil))) pa_nil)))
      (pss_cons (ps_set (i := 3) sc_law.nd rfl (.inl rfl) (pe_callG G_l_take hg (hr.mono (by decide)) (by rfl) T.d_l_take.g T.d_l_take.fn.kp T.d_l_take.b .nil passL (pa_cons (pv 2) (pa_cons pe_int pa_nil))))
      (pss_cons (ps_set (i := 4) sc_law.nd rfl (.inl rfl) (pe_ix (ix_any hr.units) (pe_lst (pa_cons pe_non (pa_cons pe_int (pa_cons pe_bl (pa_cons (pe_lst (pa_cons pe_str pa_nil)) (pa_cons (pe_tup (pa_cons pe_str pa_nil)) (pa_cons pe_dnewK (pa_cons (pe_op op_powA pe_int pe_int) (pa_cons (pe_lst pa_nil) pa_nil))))))))) (pe_callG G_l_take hg (hr.mono (by decide)) (by rfl) T.d_l_take.g T.d_l_take.fn.kp T.d_l_take.b .nil passL (pa_cons (pv 2) (pa_cons pe_int pa_nil))) (fun _ _ => rfl)))
      (pss_cons (ps_set (i := 5) sc_law.nd rfl (.inl rfl) (pe_callG G_l_world hg (hr.mono (by decide)) (by rfl) T.d_l_world.g T.d_l_world.fn.kp T.d_l_world.b .nil passL (pa_cons (pv 2) pa_nil)))
      (pss_cons (ps_set (i := 6) sc_law.nd rfl (.inl rfl) (pe_callG G_l_text hg (hr.mono (by decide)) (by rfl) T.d_l_text.g T.d_l_text.fn.kp T.d_l_text.b .nil passL (pa_cons (pv 2) (pa_cons (pv 5) pa_nil))))
      (pss_cons (ps_if (pt_cmpR (op_neA hr.units) (pe_callB (call_reprA hg hr.units) (by rfl) T.n_repr (by decide +kernel) (pa_cons (pe_callG G_l_tried hg (hr.mono (by decide)) (by rfl) T.d_l_tried.g T.d_l_tried.fn.kp T.d_l_tried.b .nil passL (pa_cons (pv 6) pa_nil)) pa_nil)) (pe_callB (call_reprA hg hr.units) (by rfl) T.n_repr (by decide +kernel) (pa_cons (pe_callG G_l_due hg (hr.mono (by decide)) (by rfl) T.d_l_due.g T.d_l_due.fn.kp T.d_l_due.b .nil passL (pa_cons (pv 6) pa_nil)) pa_nil)) (nomark _)) (pss_one (ps_ret pe_bl)) pss_nil)
      (pss_cons (ps_for psX rfl (pi_range1 (by rfl) T.n_range (pa_cons (pv 3) pa_nil)) (pg_name (i := 7) sc_law.nd rfl (.inl rfl)) (pss_one (ps_set (i := 6) sc_law.nd rfl (.inl rfl) (pe_callG G_l_spoilt hg (hr.mono (by decide)) (by rfl) T.d_l_spoilt.g T.d_l_spoilt.fn.kp T.d_l_spoilt.b .nil passL (pa_cons (pv 2) (pa_cons (pv 6) (pa_cons (pe_ix (ix_any hr.units) (pe_ix (ix_any hr.units) (pv 5) pe_str (fun _ _ => rfl)) (pe_un un_negA pe_int) (fun _ _ => rfl)) pa_nil)))))))
      (pss_one (ps_for psX rfl (pi_any (pe_lst (pa_cons (pv 6) (pa_cons (pv 4) (pa_cons (pv 6) pa_nil))))) (pg_name (i := 8) sc_law.nd rfl (.inl rfl)) (pss_one (ps_if (pt_cmpR (op_neA hr.units) (pe_callB (call_reprA hg hr.units) (by rfl) T.n_repr (by decide +kernel) (pa_cons (pe_callG G_l_tried hg (hr.mono (by decide)) (by rfl) T.d_l_tried.g T.d_l_tried.fn.kp T.d_l_tried.b .nil passL (pa_cons (pv 8) pa_nil)) pa_nil)) (pe_callB (call_reprA hg hr.units) (by rfl) T.n_repr (by decide +kernel) (pa_cons (pe_callG G_l_due hg (hr.mono (by decide)) (by rfl) T.d_l_due.g T.d_l_due.fn.kp T.d_l_due.b .nil passL (pa_cons (pv 8) pa_nil)) pa_nil)) (nomark _)) (pss_one (ps_ret pe_bl)) pss_nil))))))))))))
      (pss_one (ps_ret pe_bl)))
theorem ok_all (T : Txt K mg cn) : FnG P w K mg base (L2.CX P w) 9 T.a_law T.f_law ["_law_script"] (lift K S_law) := by
  have G_is_whole : FnG P w K mg base (L2.CX P w) 1 T.a_is_whole T.f_is_whole ["thing", "low", "high"] (lift K S_is_whole) := ok_is_whole T
  have G_is_name : FnG P w K mg base (L2.CX P w) 1 T.a_is_name T.f_is_name ["thing"] (lift K S_is_name) := ok_is_name T
  have G_number_in : FnG P w K mg base (L2.CX P w) 1 T.a_number_in T.f_number_in ["thing", "low", "high"] (lift K S_number_in) := ok_number_in T
  have G_spots_of : FnG P w K mg base (L2.CX P w) 3 T.a_spots_of T.f_spots_of ["places"] (liftX K cn S_spots_of) := ok_spots_of T G_is_name
  have G_spot_of : FnG P w K mg base (L2.CX P w) 3 T.a_spot_of T.f_spot_of ["spots", "place"] (liftX K cn S_spot_of) := ok_spot_of T G_is_name
  have G_pair_of : FnG P w K mg base (L2.CX P w) 1 T.a_pair_of T.f_pair_of ["here", "there"] (lift K S_pair_of) := ok_pair_of T
  have G_lengths_of : FnG P w K mg base (L2.CX P w) 4 T.a_lengths_of T.f_lengths_of ["spots", "ties"] (liftX K cn S_lengths_of) := ok_lengths_of T G_is_whole G_pair_of G_spot_of
  have G_Web___init__ : FnG P w K mg base (L2.CX P w) 5 T.a_Web___init__ T.f_Web___init__ ["self", "places", "ties"] (liftX K cn (S_Web___init__ cn)) := ok_Web___init__ T G_lengths_of G_spots_of
  have G_Web_ties : FnG P w K mg base (L2.CX P w) 1 T.a_Web_ties T.f_Web_ties ["self"] (lift K (S_Web_ties cn)) := ok_Web_ties T
  have G_Web_told : FnG P w K mg base (L2.CX P w) 2 T.a_Web_told T.f_Web_told ["self"] (lift K (S_Web_told cn)) := ok_Web_told T G_Web_ties
  have G_tie_in : FnG P w K mg base (L2.CX P w) 2 T.a_tie_in T.f_tie_in ["words"] (lift K S_tie_in) := ok_tie_in T G_is_name G_number_in
  have G_read_web : FnG P w K mg base (L2.CX P w) 7 T.a_read_web T.f_read_web ["text"] (liftX K cn (S_read_web cn)) := ok_read_web T G_Web___init__ G_is_name G_tie_in
  have G_l_cell : FnG P w K mg base (L2.CX P w) 1 T.a_l_cell T.f_l_cell ["_law_script", "_law_k"] (lift K S_l_cell) := ok_l_cell T
  have G_l_box : FnG P w K mg base (L2.CX P w) 1 T.a_l_box T.f_l_box ["_law_cell_here"] (lift K S_l_box) := ok_l_box T
  have G_l_take : FnG P w K mg base (L2.CX P w) 1 T.a_l_take T.f_l_take ["_law_box_here", "_law_many"] (lift K S_l_take) := ok_l_take T
  have G_l_names : FnG P w K mg base (L2.CX P w) 2 T.a_l_names T.f_l_names ["_law_box_here", "_law_many"] (lift K S_l_names) := ok_l_names T G_l_take
  have G_l_length : FnG P w K mg base (L2.CX P w) 2 T.a_l_length T.f_l_length ["_law_box_here"] (lift K S_l_length) := ok_l_length T G_l_take
  have G_l_world : FnG P w K mg base (L2.CX P w) 3 T.a_l_world T.f_l_world ["_law_box_here"] (lift K S_l_world) := ok_l_world T G_l_length G_l_names G_l_take
  have G_l_handed : FnG P w K mg base (L2.CX P w) 2 T.a_l_handed T.f_l_handed ["_law_box_here", "_law_world_here"] (lift K S_l_handed) := ok_l_handed T G_l_take
  have G_l_tried : FnG P w K mg base (L2.CX P w) 8 T.a_l_tried T.f_l_tried ["_law_thing"] (lift K (S_l_tried cn)) := ok_l_tried T G_Web_told G_read_web
  have G_l_is_name : FnG P w K mg base (L2.CX P w) 1 T.a_l_is_name T.f_l_is_name ["_law_word"] (lift K S_l_is_name) := ok_l_is_name T
  have G_l_number : FnG P w K mg base (L2.CX P w) 1 T.a_l_number T.f_l_number ["_law_word"] (lift K S_l_number) := ok_l_number T
  have G_l_tie : FnG P w K mg base (L2.CX P w) 2 T.a_l_tie T.f_l_tie ["_law_line"] (lift K S_l_tie) := ok_l_tie T G_l_is_name G_l_number
  have G_l_tie_due : FnG P w K mg base (L2.CX P w) 1 T.a_l_tie_due T.f_l_tie_due ["_law_names_here", "_law_ties", "_law_at"] (lift K S_l_tie_due) := ok_l_tie_due T
  have G_l_web_due : FnG P w K mg base (L2.CX P w) 2 T.a_l_web_due T.f_l_web_due ["_law_names_here", "_law_ties"] (lift K S_l_web_due) := ok_l_web_due T G_l_tie_due
  have G_l_due : FnG P w K mg base (L2.CX P w) 3 T.a_l_due T.f_l_due ["_law_thing"] (lift K S_l_due) := ok_l_due T G_l_is_name G_l_tie G_l_web_due
  have G_l_text : FnG P w K mg base (L2.CX P w) 3 T.a_l_text T.f_l_text ["_law_box_here", "_law_world_here"] (lift K S_l_text) := ok_l_text T G_l_handed
  have G_l_sign : FnG P w K mg base (L2.CX P w) 2 T.a_l_sign T.f_l_sign ["_law_box_here"] (lift K S_l_sign) := ok_l_sign T G_l_take
  have G_l_lines_spoilt : FnG P w K mg base (L2.CX P w) 2 T.a_l_lines_spoilt T.f_l_lines_spoilt ["_law_box_here", "_law_text_here", "_law_spare"] (lift K S_l_lines_spoilt) := ok_l_lines_spoilt T G_l_take
  have G_l_words_spoilt : FnG P w K mg base (L2.CX P w) 2 T.a_l_words_spoilt T.f_l_words_spoilt ["_law_box_here", "_law_text_here", "_law_spare"] (lift K S_l_words_spoilt) := ok_l_words_spoilt T G_l_take
  have G_l_spoilt : FnG P w K mg base (L2.CX P w) 3 T.a_l_spoilt T.f_l_spoilt ["_law_box_here", "_law_text_here", "_law_spare"] (lift K S_l_spoilt) := ok_l_spoilt T G_l_lines_spoilt G_l_sign G_l_take G_l_words_spoilt
  have G_law : FnG P w K mg base (L2.CX P w) 9 T.a_law T.f_law ["_law_script"] (lift K S_law) := ok_law T G_l_box G_l_cell G_l_due G_l_spoilt G_l_take G_l_text G_l_tried G_l_world
  exact G_law
end
theorem all_mk {l : PySem.W.OpenLaw} {w : World} {K : PySem.W.Frag} {h : Heap} {mg : Str → Option Value} {fa : Addr} (X : K.In h) (G : h.Ns mainGlobals mg) (hfa : mg "law" = some (.ref fa))
    {od1 an1 od2 an2 od3 an3 od4 an4 od5 an5 od6 an6 od7 an7 od8 an8 od9 an9 od10 an10 od11 an11 od12 an12 od13 an13 od14 an14 od15 an15 od16 an16 od17 an17 od18 an18 od19 an19 od20 an20 od21 an21 od22 an22 od23 an23 od24 an24 od25 an25 od26 an26 od27 an27 od28 an28 od29 an29 od30 an30 od31 an31 od32 an32 : Option Addr}
    {sl1 sl2 sl3 sl4 sl5 sl6 sl7 sl8 sl9 sl10 sl11 sl12 sl13 sl14 sl15 sl16 sl17 sl18 sl19 sl20 sl21 sl22 sl23 sl24 sl25 sl26 sl27 sl28 sl29 sl30 sl31 sl32 : Array (Option Value)}
    {oc1 kV1 dc1 pm1 cd1 ct1 oc2 kV2 dc2 pm2 cd2 ct2 oc3 kV3 dc3 pm3 cd3 ct3 oc4 kV4 dc4 pm4 cd4 ct4 oc5 kV5 dc5 pm5 cd5 ct5 oc6 kV6 dc6 pm6 cd6 ct6 oc7 kV7 dc7 pm7 cd7 ct7 oc8 kV8 dc8 pm8 cd8 ct8 oc9 kV9 dc9 pm9 cd9 ct9 oc10 kV10 dc10 pm10 cd10 ct10 oc11 kV11 dc11 pm11 cd11 ct11 oc12 kV12 dc12 pm12 cd12 ct12 oc13 kV13 dc13 pm13 cd13 ct13 oc14 kV14 dc14 pm14 cd14 ct14 oc15 kV15 dc15 pm15 cd15 ct15 oc16 kV16 dc16 pm16 cd16 ct16 oc17 kV17 dc17 pm17 cd17 ct17 oc18 kV18 dc18 pm18 cd18 ct18 oc19 kV19 dc19 pm19 cd19 ct19 oc20 kV20 dc20 pm20 cd20 ct20 oc21 kV21 dc21 pm21 cd21 ct21 oc22 kV22 dc22 pm22 cd22 ct22 oc23 kV23 dc23 pm23 cd23 ct23 oc24 kV24 dc24 pm24 cd24 ct24 oc25 kV25 dc25 pm25 cd25 ct25 oc26 kV26 dc26 pm26 cd26 ct26 oc27 kV27 dc27 pm27 cd27 ct27 oc28 kV28 dc28 pm28 cd28 ct28 oc29 kV29 dc29 pm29 cd29 ct29 oc30 kV30 dc30 pm30 cd30 ct30 oc31 kV31 dc31 pm31 cd31 ct31 oc32 kV32 dc32 pm32 cd32 ct32 : Value}
    {f1 f2 f3 f4 f5 f6 f7 f8 f9 f10 f11 f12 f13 f14 f15 f16 f17 f18 f19 f20 f21 f22 f23 f24 f25 f26 f27 f28 f29 f30 f31 f32 : Addr}
    {tk_FIGURES tk_LETTERS tk_MOST_LENGTH tk_MOST_PLACES tk_MOST_READ tk_MOST_TIES : Tok}
    {C11 : Addr}
    {CB : Addr}
    {C0 fI0 N0 : Addr} {nm0 q0 : Str} {bs0 bm0 sub0 : List Value} {sn0 : List Str} {ab0 : Bool} {col0 : Option Bool} {dd0 od_0 an_0 : Option Addr} {k0_0 k1_0 k2_0 k3_0 k5_0 : Option Value} {oc_0 kV_0 dc_0 pm_0 cd_0 ct_0 : Value} {sl_0 : Array (Option Value)}
    {C1 fI1 N1 : Addr} {nm1 q1 : Str} {bs1 bm1 sub1 : List Value} {sn1 : List Str} {ab1 : Bool} {col1 : Option Bool} {dd1 od_1 an_1 : Option Addr} {k0_1 k1_1 k2_1 k3_1 k5_1 : Option Value} {oc_1 kV_1 dc_1 pm_1 cd_1 ct_1 : Value} {sl_1 : Array (Option Value)}
    {C2 fI2 N2 : Addr} {nm2 q2 : Str} {bs2 bm2 sub2 : List Value} {sn2 : List Str} {ab2 : Bool} {col2 : Option Bool} {dd2 od_2 an_2 : Option Addr} {k0_2 k1_2 k2_2 k3_2 k5_2 : Option Value} {oc_2 kV_2 dc_2 pm_2 cd_2 ct_2 : Value} {sl_2 : Array (Option Value)}
    {C3 fI3 N3 : Addr} {nm3 q3 : Str} {bs3 bm3 sub3 : List Value} {sn3 : List Str} {ab3 : Bool} {col3 : Option Bool} {dd3 od_3 an_3 : Option Addr} {k0_3 k1_3 k2_3 k3_3 k5_3 : Option Value} {oc_3 kV_3 dc_3 pm_3 cd_3 ct_3 : Value} {sl_3 : Array (Option Value)}
    {C4 fI4 N4 : Addr} {nm4 q4 : Str} {bs4 bm4 sub4 : List Value} {sn4 : List Str} {ab4 : Bool} {col4 : Option Bool} {dd4 od_4 an_4 : Option Addr} {k0_4 k1_4 k2_4 k3_4 k5_4 : Option Value} {oc_4 kV_4 dc_4 pm_4 cd_4 ct_4 : Value} {sl_4 : Array (Option Value)}
    {C5 fI5 N5 : Addr} {nm5 q5 : Str} {bs5 bm5 sub5 : List Value} {sn5 : List Str} {ab5 : Bool} {col5 : Option Bool} {dd5 od_5 an_5 : Option Addr} {k0_5 k1_5 k2_5 k3_5 k5_5 : Option Value} {oc_5 kV_5 dc_5 pm_5 cd_5 ct_5 : Value} {sl_5 : Array (Option Value)}
    {C6 fI6 N6 : Addr} {nm6 q6 : Str} {bs6 bm6 sub6 : List Value} {sn6 : List Str} {ab6 : Bool} {col6 : Option Bool} {dd6 od_6 an_6 : Option Addr} {k0_6 k1_6 k2_6 k3_6 k5_6 : Option Value} {oc_6 kV_6 dc_6 pm_6 cd_6 ct_6 : Value} {sl_6 : Array (Option Value)}
    {C7 fI7 N7 : Addr} {nm7 q7 : Str} {bs7 bm7 sub7 : List Value} {sn7 : List Str} {ab7 : Bool} {col7 : Option Bool} {dd7 od_7 an_7 : Option Addr} {k0_7 k1_7 k2_7 k3_7 k5_7 : Option Value} {oc_7 kV_7 dc_7 pm_7 cd_7 ct_7 : Value} {sl_7 : Array (Option Value)}
    {C8 fI8 N8 : Addr} {nm8 q8 : Str} {bs8 bm8 sub8 : List Value} {sn8 : List Str} {ab8 : Bool} {col8 : Option Bool} {dd8 od_8 an_8 : Option Addr} {k0_8 k1_8 k2_8 k3_8 k5_8 : Option Value} {oc_8 kV_8 dc_8 pm_8 cd_8 ct_8 : Value} {sl_8 : Array (Option Value)}
    {C9 fI9 N9 : Addr} {nm9 q9 : Str} {bs9 bm9 sub9 : List Value} {sn9 : List Str} {ab9 : Bool} {col9 : Option Bool} {dd9 od_9 an_9 : Option Addr} {k0_9 k1_9 k2_9 k3_9 k5_9 : Option Value} {oc_9 kV_9 dc_9 pm_9 cd_9 ct_9 : Value} {sl_9 : Array (Option Value)}
    {C10 fI10 N10 : Addr} {nm10 q10 : Str} {bs10 bm10 sub10 : List Value} {sn10 : List Str} {ab10 : Bool} {col10 : Option Bool} {dd10 od_10 an_10 : Option Addr} {k0_10 k1_10 k2_10 k3_10 k5_10 : Option Value} {oc_10 kV_10 dc_10 pm_10 cd_10 ct_10 : Value} {sl_10 : Array (Option Value)}
    (yc11 : PySem.W.nsIn K mainGlobals "Web" = some (some (.ref C11)))
    (yp11 : PySem.W.plainGet K C11 Str.empty = true)
    (yh11 : PySem.W.hasDictIn K C11 = true)
    (yo11 : PySem.W.plainOver K C11 = true)
    (ys11 : PySem.W.findIn K (.ref C11) "__setattr__" = some (some (.builtin "object.__setattr__")))
    (ym11 : PySem.W.makesIn K C11 = true)
    (yk11 : PySem.W.keepIn K (.ref C11) = true)
    (ynspots_11 : PySem.W.findIn K (.ref C11) "spots" = some none)
    (ynnames_11 : PySem.W.findIn K (.ref C11) "names" = some none)
    (ynlengths_11 : PySem.W.findIn K (.ref C11) "lengths" = some none)
    (a1 : PySem.W.nsIn K mainGlobals "is_whole" = some (some (.ref f1)))
    (l1 : K.lookup f1 = some ⟨oc1, od1, .func (PySem.W.fnOf "is_whole" "is_whole" (defArgs s_is_whole) (defBody s_is_whole) (defScope s_is_whole) .none kV1 dc1 pm1 an1 cd1 ct1), sl1⟩)
    (c1 : PySem.W.codeIn K cd1 "is_whole" = true) (k1 : PySem.W.keepIn K (.ref f1) = true)
    (a2 : PySem.W.nsIn K mainGlobals "is_name" = some (some (.ref f2)))
    (l2 : K.lookup f2 = some ⟨oc2, od2, .func (PySem.W.fnOf "is_name" "is_name" (defArgs s_is_name) (defBody s_is_name) (defScope s_is_name) .none kV2 dc2 pm2 an2 cd2 ct2), sl2⟩)
    (c2 : PySem.W.codeIn K cd2 "is_name" = true) (k2 : PySem.W.keepIn K (.ref f2) = true)
    (a3 : PySem.W.nsIn K mainGlobals "number_in" = some (some (.ref f3)))
    (l3 : K.lookup f3 = some ⟨oc3, od3, .func (PySem.W.fnOf "number_in" "number_in" (defArgs s_number_in) (defBody s_number_in) (defScope s_number_in) .none kV3 dc3 pm3 an3 cd3 ct3), sl3⟩)
    (c3 : PySem.W.codeIn K cd3 "number_in" = true) (k3 : PySem.W.keepIn K (.ref f3) = true)
    (a4 : PySem.W.nsIn K mainGlobals "spots_of" = some (some (.ref f4)))
    (l4 : K.lookup f4 = some ⟨oc4, od4, .func (PySem.W.fnOf "spots_of" "spots_of" (defArgs s_spots_of) (defBody s_spots_of) (defScope s_spots_of) .none kV4 dc4 pm4 an4 cd4 ct4), sl4⟩)
    (c4 : PySem.W.codeIn K cd4 "spots_of" = true) (k4 : PySem.W.keepIn K (.ref f4) = true)
    (a5 : PySem.W.nsIn K mainGlobals "spot_of" = some (some (.ref f5)))
    (l5 : K.lookup f5 = some ⟨oc5, od5, .func (PySem.W.fnOf "spot_of" "spot_of" (defArgs s_spot_of) (defBody s_spot_of) (defScope s_spot_of) .none kV5 dc5 pm5 an5 cd5 ct5), sl5⟩)
    (c5 : PySem.W.codeIn K cd5 "spot_of" = true) (k5 : PySem.W.keepIn K (.ref f5) = true)
    (a6 : PySem.W.nsIn K mainGlobals "pair_of" = some (some (.ref f6)))
    (l6 : K.lookup f6 = some ⟨oc6, od6, .func (PySem.W.fnOf "pair_of" "pair_of" (defArgs s_pair_of) (defBody s_pair_of) (defScope s_pair_of) .none kV6 dc6 pm6 an6 cd6 ct6), sl6⟩)
    (c6 : PySem.W.codeIn K cd6 "pair_of" = true) (k6 : PySem.W.keepIn K (.ref f6) = true)
    (a7 : PySem.W.nsIn K mainGlobals "lengths_of" = some (some (.ref f7)))
    (l7 : K.lookup f7 = some ⟨oc7, od7, .func (PySem.W.fnOf "lengths_of" "lengths_of" (defArgs s_lengths_of) (defBody s_lengths_of) (defScope s_lengths_of) .none kV7 dc7 pm7 an7 cd7 ct7), sl7⟩)
    (c7 : PySem.W.codeIn K cd7 "lengths_of" = true) (k7 : PySem.W.keepIn K (.ref f7) = true)
    (a8 : PySem.W.findIn K (.ref C11) "__init__" = some (some (.ref f8))) (y8 : PySem.W.isFn K (.ref f8) = true)
    (l8 : K.lookup f8 = some ⟨oc8, od8, .func (PySem.W.fnOf "__init__" "Web.__init__" (defArgs s_Web___init__) (defBody s_Web___init__) (defScope s_Web___init__) .none kV8 dc8 pm8 an8 cd8 ct8), sl8⟩)
    (c8 : PySem.W.codeIn K cd8 "Web.__init__" = true) (k8 : PySem.W.keepIn K (.ref f8) = true)
    (a9 : PySem.W.findIn K (.ref C11) "ties" = some (some (.ref f9))) (y9 : PySem.W.isFn K (.ref f9) = true)
    (l9 : K.lookup f9 = some ⟨oc9, od9, .func (PySem.W.fnOf "ties" "Web.ties" (defArgs s_Web_ties) (defBody s_Web_ties) (defScope s_Web_ties) .none kV9 dc9 pm9 an9 cd9 ct9), sl9⟩)
    (c9 : PySem.W.codeIn K cd9 "Web.ties" = true) (k9 : PySem.W.keepIn K (.ref f9) = true)
    (a10 : PySem.W.findIn K (.ref C11) "told" = some (some (.ref f10))) (y10 : PySem.W.isFn K (.ref f10) = true)
    (l10 : K.lookup f10 = some ⟨oc10, od10, .func (PySem.W.fnOf "told" "Web.told" (defArgs s_Web_told) (defBody s_Web_told) (defScope s_Web_told) .none kV10 dc10 pm10 an10 cd10 ct10), sl10⟩)
    (c10 : PySem.W.codeIn K cd10 "Web.told" = true) (k10 : PySem.W.keepIn K (.ref f10) = true)
    (a11 : PySem.W.nsIn K mainGlobals "tie_in" = some (some (.ref f11)))
    (l11 : K.lookup f11 = some ⟨oc11, od11, .func (PySem.W.fnOf "tie_in" "tie_in" (defArgs s_tie_in) (defBody s_tie_in) (defScope s_tie_in) .none kV11 dc11 pm11 an11 cd11 ct11), sl11⟩)
    (c11 : PySem.W.codeIn K cd11 "tie_in" = true) (k11 : PySem.W.keepIn K (.ref f11) = true)
    (a12 : PySem.W.nsIn K mainGlobals "read_web" = some (some (.ref f12)))
    (l12 : K.lookup f12 = some ⟨oc12, od12, .func (PySem.W.fnOf "read_web" "read_web" (defArgs s_read_web) (defBody s_read_web) (defScope s_read_web) .none kV12 dc12 pm12 an12 cd12 ct12), sl12⟩)
    (c12 : PySem.W.codeIn K cd12 "read_web" = true) (k12 : PySem.W.keepIn K (.ref f12) = true)
    (a13 : PySem.W.nsIn K mainGlobals "_law_cell" = some (some (.ref f13)))
    (l13 : K.lookup f13 = some ⟨oc13, od13, .func (PySem.W.fnOf "_law_cell" "_law_cell" (defArgs s_l_cell) (defBody s_l_cell) (defScope s_l_cell) .none kV13 dc13 pm13 an13 cd13 ct13), sl13⟩)
    (c13 : PySem.W.codeIn K cd13 "_law_cell" = true) (k13 : PySem.W.keepIn K (.ref f13) = true)
    (a14 : PySem.W.nsIn K mainGlobals "_law_box" = some (some (.ref f14)))
    (l14 : K.lookup f14 = some ⟨oc14, od14, .func (PySem.W.fnOf "_law_box" "_law_box" (defArgs s_l_box) (defBody s_l_box) (defScope s_l_box) .none kV14 dc14 pm14 an14 cd14 ct14), sl14⟩)
    (c14 : PySem.W.codeIn K cd14 "_law_box" = true) (k14 : PySem.W.keepIn K (.ref f14) = true)
    (a15 : PySem.W.nsIn K mainGlobals "_law_take" = some (some (.ref f15)))
    (l15 : K.lookup f15 = some ⟨oc15, od15, .func (PySem.W.fnOf "_law_take" "_law_take" (defArgs s_l_take) (defBody s_l_take) (defScope s_l_take) .none kV15 dc15 pm15 an15 cd15 ct15), sl15⟩)
    (c15 : PySem.W.codeIn K cd15 "_law_take" = true) (k15 : PySem.W.keepIn K (.ref f15) = true)
    (a16 : PySem.W.nsIn K mainGlobals "_law_names" = some (some (.ref f16)))
    (l16 : K.lookup f16 = some ⟨oc16, od16, .func (PySem.W.fnOf "_law_names" "_law_names" (defArgs s_l_names) (defBody s_l_names) (defScope s_l_names) .none kV16 dc16 pm16 an16 cd16 ct16), sl16⟩)
    (c16 : PySem.W.codeIn K cd16 "_law_names" = true) (k16 : PySem.W.keepIn K (.ref f16) = true)
    (a17 : PySem.W.nsIn K mainGlobals "_law_length" = some (some (.ref f17)))
    (l17 : K.lookup f17 = some ⟨oc17, od17, .func (PySem.W.fnOf "_law_length" "_law_length" (defArgs s_l_length) (defBody s_l_length) (defScope s_l_length) .none kV17 dc17 pm17 an17 cd17 ct17), sl17⟩)
    (c17 : PySem.W.codeIn K cd17 "_law_length" = true) (k17 : PySem.W.keepIn K (.ref f17) = true)
    (a18 : PySem.W.nsIn K mainGlobals "_law_world" = some (some (.ref f18)))
    (l18 : K.lookup f18 = some ⟨oc18, od18, .func (PySem.W.fnOf "_law_world" "_law_world" (defArgs s_l_world) (defBody s_l_world) (defScope s_l_world) .none kV18 dc18 pm18 an18 cd18 ct18), sl18⟩)
    (c18 : PySem.W.codeIn K cd18 "_law_world" = true) (k18 : PySem.W.keepIn K (.ref f18) = true)
    (a19 : PySem.W.nsIn K mainGlobals "_law_handed" = some (some (.ref f19)))
    (l19 : K.lookup f19 = some ⟨oc19, od19, .func (PySem.W.fnOf "_law_handed" "_law_handed" (defArgs s_l_handed) (defBody s_l_handed) (defScope s_l_handed) .none kV19 dc19 pm19 an19 cd19 ct19), sl19⟩)
    (c19 : PySem.W.codeIn K cd19 "_law_handed" = true) (k19 : PySem.W.keepIn K (.ref f19) = true)
    (a20 : PySem.W.nsIn K mainGlobals "_law_tried" = some (some (.ref f20)))
    (l20 : K.lookup f20 = some ⟨oc20, od20, .func (PySem.W.fnOf "_law_tried" "_law_tried" (defArgs s_l_tried) (defBody s_l_tried) (defScope s_l_tried) .none kV20 dc20 pm20 an20 cd20 ct20), sl20⟩)
    (c20 : PySem.W.codeIn K cd20 "_law_tried" = true) (k20 : PySem.W.keepIn K (.ref f20) = true)
    (a21 : PySem.W.nsIn K mainGlobals "_law_is_name" = some (some (.ref f21)))
    (l21 : K.lookup f21 = some ⟨oc21, od21, .func (PySem.W.fnOf "_law_is_name" "_law_is_name" (defArgs s_l_is_name) (defBody s_l_is_name) (defScope s_l_is_name) .none kV21 dc21 pm21 an21 cd21 ct21), sl21⟩)
    (c21 : PySem.W.codeIn K cd21 "_law_is_name" = true) (k21 : PySem.W.keepIn K (.ref f21) = true)
    (a22 : PySem.W.nsIn K mainGlobals "_law_number" = some (some (.ref f22)))
    (l22 : K.lookup f22 = some ⟨oc22, od22, .func (PySem.W.fnOf "_law_number" "_law_number" (defArgs s_l_number) (defBody s_l_number) (defScope s_l_number) .none kV22 dc22 pm22 an22 cd22 ct22), sl22⟩)
    (c22 : PySem.W.codeIn K cd22 "_law_number" = true) (k22 : PySem.W.keepIn K (.ref f22) = true)
    (a23 : PySem.W.nsIn K mainGlobals "_law_tie" = some (some (.ref f23)))
    (l23 : K.lookup f23 = some ⟨oc23, od23, .func (PySem.W.fnOf "_law_tie" "_law_tie" (defArgs s_l_tie) (defBody s_l_tie) (defScope s_l_tie) .none kV23 dc23 pm23 an23 cd23 ct23), sl23⟩)
    (c23 : PySem.W.codeIn K cd23 "_law_tie" = true) (k23 : PySem.W.keepIn K (.ref f23) = true)
    (a24 : PySem.W.nsIn K mainGlobals "_law_tie_due" = some (some (.ref f24)))
    (l24 : K.lookup f24 = some ⟨oc24, od24, .func (PySem.W.fnOf "_law_tie_due" "_law_tie_due" (defArgs s_l_tie_due) (defBody s_l_tie_due) (defScope s_l_tie_due) .none kV24 dc24 pm24 an24 cd24 ct24), sl24⟩)
    (c24 : PySem.W.codeIn K cd24 "_law_tie_due" = true) (k24 : PySem.W.keepIn K (.ref f24) = true)
    (a25 : PySem.W.nsIn K mainGlobals "_law_web_due" = some (some (.ref f25)))
    (l25 : K.lookup f25 = some ⟨oc25, od25, .func (PySem.W.fnOf "_law_web_due" "_law_web_due" (defArgs s_l_web_due) (defBody s_l_web_due) (defScope s_l_web_due) .none kV25 dc25 pm25 an25 cd25 ct25), sl25⟩)
    (c25 : PySem.W.codeIn K cd25 "_law_web_due" = true) (k25 : PySem.W.keepIn K (.ref f25) = true)
    (a26 : PySem.W.nsIn K mainGlobals "_law_due" = some (some (.ref f26)))
    (l26 : K.lookup f26 = some ⟨oc26, od26, .func (PySem.W.fnOf "_law_due" "_law_due" (defArgs s_l_due) (defBody s_l_due) (defScope s_l_due) .none kV26 dc26 pm26 an26 cd26 ct26), sl26⟩)
    (c26 : PySem.W.codeIn K cd26 "_law_due" = true) (k26 : PySem.W.keepIn K (.ref f26) = true)
    (a27 : PySem.W.nsIn K mainGlobals "_law_text" = some (some (.ref f27)))
    (l27 : K.lookup f27 = some ⟨oc27, od27, .func (PySem.W.fnOf "_law_text" "_law_text" (defArgs s_l_text) (defBody s_l_text) (defScope s_l_text) .none kV27 dc27 pm27 an27 cd27 ct27), sl27⟩)
    (c27 : PySem.W.codeIn K cd27 "_law_text" = true) (k27 : PySem.W.keepIn K (.ref f27) = true)
    (a28 : PySem.W.nsIn K mainGlobals "_law_sign" = some (some (.ref f28)))
    (l28 : K.lookup f28 = some ⟨oc28, od28, .func (PySem.W.fnOf "_law_sign" "_law_sign" (defArgs s_l_sign) (defBody s_l_sign) (defScope s_l_sign) .none kV28 dc28 pm28 an28 cd28 ct28), sl28⟩)
    (c28 : PySem.W.codeIn K cd28 "_law_sign" = true) (k28 : PySem.W.keepIn K (.ref f28) = true)
    (a29 : PySem.W.nsIn K mainGlobals "_law_lines_spoilt" = some (some (.ref f29)))
    (l29 : K.lookup f29 = some ⟨oc29, od29, .func (PySem.W.fnOf "_law_lines_spoilt" "_law_lines_spoilt" (defArgs s_l_lines_spoilt) (defBody s_l_lines_spoilt) (defScope s_l_lines_spoilt) .none kV29 dc29 pm29 an29 cd29 ct29), sl29⟩)
    (c29 : PySem.W.codeIn K cd29 "_law_lines_spoilt" = true) (k29 : PySem.W.keepIn K (.ref f29) = true)
    (a30 : PySem.W.nsIn K mainGlobals "_law_words_spoilt" = some (some (.ref f30)))
    (l30 : K.lookup f30 = some ⟨oc30, od30, .func (PySem.W.fnOf "_law_words_spoilt" "_law_words_spoilt" (defArgs s_l_words_spoilt) (defBody s_l_words_spoilt) (defScope s_l_words_spoilt) .none kV30 dc30 pm30 an30 cd30 ct30), sl30⟩)
    (c30 : PySem.W.codeIn K cd30 "_law_words_spoilt" = true) (k30 : PySem.W.keepIn K (.ref f30) = true)
    (a31 : PySem.W.nsIn K mainGlobals "_law_spoilt" = some (some (.ref f31)))
    (l31 : K.lookup f31 = some ⟨oc31, od31, .func (PySem.W.fnOf "_law_spoilt" "_law_spoilt" (defArgs s_l_spoilt) (defBody s_l_spoilt) (defScope s_l_spoilt) .none kV31 dc31 pm31 an31 cd31 ct31), sl31⟩)
    (c31 : PySem.W.codeIn K cd31 "_law_spoilt" = true) (k31 : PySem.W.keepIn K (.ref f31) = true)
    (a32 : PySem.W.nsIn K mainGlobals "law" = some (some (.ref f32)))
    (l32 : K.lookup f32 = some ⟨oc32, od32, .func (PySem.W.fnOf "law" "law" (defArgs s_law) (defBody s_law) (defScope s_law) .none kV32 dc32 pm32 an32 cd32 ct32), sl32⟩)
    (c32 : PySem.W.codeIn K cd32 "law" = true) (k32 : PySem.W.keepIn K (.ref f32) = true)
    (aB : PySem.W.nsIn K mainGlobals "MarkError" = some (some (.ref CB))) (bB1 : PySem.W.readsIn K CB (.type "type") = true) (bB2 : PySem.W.specialIn K (.ref CB) "__getattribute__" = some (some (.builtin "type.__getattribute__"))) (bB3 : PySem.W.findCls K (.ref CB) (.type "type") "__init__" = some (.val (.builtin "ValueError.__init__"))) (bB4 : PySem.W.subIn K (.ref CB) (.type "BaseException") = some true) (bB5 : PySem.W.hasDictIn K CB = true) (bB6 : PySem.W.typeIn K (.ref CB) = some (.type "type"))
    (oN : PySem.W.specialIn K (.builtin "object.__class__") "__get__" = some (some (.builtin "getset_descriptor.__get__"))) (oT : PySem.W.takesIn K (.builtin "object.__class__") = some true)
    (xa0 : PySem.W.nsIn K mainGlobals "NoPlaces" = some (some (.ref C0)))
    (xl0 : K.lookup C0 = some (excClassObj nm0 q0 C0 N0 bs0 bm0 true sn0 sub0 ab0 col0 dd0 k0_0 k1_0 k2_0 k3_0 k5_0 "ValueError.__new__"))
    (xm0 : PySem.HandSPX.refsVE bm0 = true)
    (xs0 : PySem.W.findIn K (.ref C0) "__setattr__" = some (some (.builtin "object.__setattr__")))
    (xe0 : PySem.W.subIn K (.ref C0) (.type "BaseException") = some true)
    (xt0 : PySem.W.typeIn K (.ref C0) = some (.type "type"))
    (xk0 : PySem.W.keepIn K (.ref C0) = true)
    (xga0 : PySem.W.findIn K (.ref C0) "__getattribute__" = some (some (.builtin "BaseException.__getattribute__")))
    (xgg0 : PySem.W.findIn K (.ref C0) "__getattr__" = some none)
    (xhd0 : PySem.W.hasDictIn K C0 = true)
    (xat0 : PySem.W.findIn K (.ref C0) "__class__" = some (some (.builtin "object.__class__")))
    (xmo0 : PySem.W.mroIn K C0 (.type "object") = some true)
    (xi0 : PySem.W.findIn K (.ref C0) "__init__" = some (some (.ref fI0)))
    (xti0 : PySem.W.typeIn K (.ref fI0) = some (.type "function"))
    (xli0 : K.lookup fI0 = some ⟨oc_0, od_0, .func (PySem.W.fnOf "__init__" "NoPlaces.__init__" (defArgs s_NoPlaces) (defBody s_NoPlaces) (defScope s_NoPlaces) .none kV_0 dc_0 pm_0 an_0 cd_0 ct_0), sl_0⟩)
    (xci0 : PySem.W.codeIn K cd_0 "NoPlaces.__init__" = true)
    (xki0 : PySem.W.keepIn K (.ref fI0) = true)
    (xsb0 : PySem.W.subIn K (.ref C0) (.ref CB) = some true)
    (xfo_0_0 : PySem.W.findIn K (.ref C0) "found" = some none)
    (xa1 : PySem.W.nsIn K mainGlobals "NoName" = some (some (.ref C1)))
    (xl1 : K.lookup C1 = some (excClassObj nm1 q1 C1 N1 bs1 bm1 true sn1 sub1 ab1 col1 dd1 k0_1 k1_1 k2_1 k3_1 k5_1 "ValueError.__new__"))
    (xm1 : PySem.HandSPX.refsVE bm1 = true)
    (xs1 : PySem.W.findIn K (.ref C1) "__setattr__" = some (some (.builtin "object.__setattr__")))
    (xe1 : PySem.W.subIn K (.ref C1) (.type "BaseException") = some true)
    (xt1 : PySem.W.typeIn K (.ref C1) = some (.type "type"))
    (xk1 : PySem.W.keepIn K (.ref C1) = true)
    (xga1 : PySem.W.findIn K (.ref C1) "__getattribute__" = some (some (.builtin "BaseException.__getattribute__")))
    (xgg1 : PySem.W.findIn K (.ref C1) "__getattr__" = some none)
    (xhd1 : PySem.W.hasDictIn K C1 = true)
    (xat1 : PySem.W.findIn K (.ref C1) "__class__" = some (some (.builtin "object.__class__")))
    (xmo1 : PySem.W.mroIn K C1 (.type "object") = some true)
    (xi1 : PySem.W.findIn K (.ref C1) "__init__" = some (some (.ref fI1)))
    (xti1 : PySem.W.typeIn K (.ref fI1) = some (.type "function"))
    (xli1 : K.lookup fI1 = some ⟨oc_1, od_1, .func (PySem.W.fnOf "__init__" "NoName.__init__" (defArgs s_NoName) (defBody s_NoName) (defScope s_NoName) .none kV_1 dc_1 pm_1 an_1 cd_1 ct_1), sl_1⟩)
    (xci1 : PySem.W.codeIn K cd_1 "NoName.__init__" = true)
    (xki1 : PySem.W.keepIn K (.ref fI1) = true)
    (xsb1 : PySem.W.subIn K (.ref C1) (.ref CB) = some true)
    (xfo_0_1 : PySem.W.findIn K (.ref C1) "found" = some none)
    (xa2 : PySem.W.nsIn K mainGlobals "Twice" = some (some (.ref C2)))
    (xl2 : K.lookup C2 = some (excClassObj nm2 q2 C2 N2 bs2 bm2 true sn2 sub2 ab2 col2 dd2 k0_2 k1_2 k2_2 k3_2 k5_2 "ValueError.__new__"))
    (xm2 : PySem.HandSPX.refsVE bm2 = true)
    (xs2 : PySem.W.findIn K (.ref C2) "__setattr__" = some (some (.builtin "object.__setattr__")))
    (xe2 : PySem.W.subIn K (.ref C2) (.type "BaseException") = some true)
    (xt2 : PySem.W.typeIn K (.ref C2) = some (.type "type"))
    (xk2 : PySem.W.keepIn K (.ref C2) = true)
    (xga2 : PySem.W.findIn K (.ref C2) "__getattribute__" = some (some (.builtin "BaseException.__getattribute__")))
    (xgg2 : PySem.W.findIn K (.ref C2) "__getattr__" = some none)
    (xhd2 : PySem.W.hasDictIn K C2 = true)
    (xat2 : PySem.W.findIn K (.ref C2) "__class__" = some (some (.builtin "object.__class__")))
    (xmo2 : PySem.W.mroIn K C2 (.type "object") = some true)
    (xi2 : PySem.W.findIn K (.ref C2) "__init__" = some (some (.ref fI2)))
    (xti2 : PySem.W.typeIn K (.ref fI2) = some (.type "function"))
    (xli2 : K.lookup fI2 = some ⟨oc_2, od_2, .func (PySem.W.fnOf "__init__" "Twice.__init__" (defArgs s_Twice) (defBody s_Twice) (defScope s_Twice) .none kV_2 dc_2 pm_2 an_2 cd_2 ct_2), sl_2⟩)
    (xci2 : PySem.W.codeIn K cd_2 "Twice.__init__" = true)
    (xki2 : PySem.W.keepIn K (.ref fI2) = true)
    (xsb2 : PySem.W.subIn K (.ref C2) (.ref CB) = some true)
    (xfo_0_2 : PySem.W.findIn K (.ref C2) "found" = some none)
    (xa3 : PySem.W.nsIn K mainGlobals "NoTies" = some (some (.ref C3)))
    (xl3 : K.lookup C3 = some (excClassObj nm3 q3 C3 N3 bs3 bm3 true sn3 sub3 ab3 col3 dd3 k0_3 k1_3 k2_3 k3_3 k5_3 "ValueError.__new__"))
    (xm3 : PySem.HandSPX.refsVE bm3 = true)
    (xs3 : PySem.W.findIn K (.ref C3) "__setattr__" = some (some (.builtin "object.__setattr__")))
    (xe3 : PySem.W.subIn K (.ref C3) (.type "BaseException") = some true)
    (xt3 : PySem.W.typeIn K (.ref C3) = some (.type "type"))
    (xk3 : PySem.W.keepIn K (.ref C3) = true)
    (xga3 : PySem.W.findIn K (.ref C3) "__getattribute__" = some (some (.builtin "BaseException.__getattribute__")))
    (xgg3 : PySem.W.findIn K (.ref C3) "__getattr__" = some none)
    (xhd3 : PySem.W.hasDictIn K C3 = true)
    (xat3 : PySem.W.findIn K (.ref C3) "__class__" = some (some (.builtin "object.__class__")))
    (xmo3 : PySem.W.mroIn K C3 (.type "object") = some true)
    (xi3 : PySem.W.findIn K (.ref C3) "__init__" = some (some (.ref fI3)))
    (xti3 : PySem.W.typeIn K (.ref fI3) = some (.type "function"))
    (xli3 : K.lookup fI3 = some ⟨oc_3, od_3, .func (PySem.W.fnOf "__init__" "NoTies.__init__" (defArgs s_NoTies) (defBody s_NoTies) (defScope s_NoTies) .none kV_3 dc_3 pm_3 an_3 cd_3 ct_3), sl_3⟩)
    (xci3 : PySem.W.codeIn K cd_3 "NoTies.__init__" = true)
    (xki3 : PySem.W.keepIn K (.ref fI3) = true)
    (xsb3 : PySem.W.subIn K (.ref C3) (.ref CB) = some true)
    (xfo_0_3 : PySem.W.findIn K (.ref C3) "found" = some none)
    (xa4 : PySem.W.nsIn K mainGlobals "NoTie" = some (some (.ref C4)))
    (xl4 : K.lookup C4 = some (excClassObj nm4 q4 C4 N4 bs4 bm4 true sn4 sub4 ab4 col4 dd4 k0_4 k1_4 k2_4 k3_4 k5_4 "ValueError.__new__"))
    (xm4 : PySem.HandSPX.refsVE bm4 = true)
    (xs4 : PySem.W.findIn K (.ref C4) "__setattr__" = some (some (.builtin "object.__setattr__")))
    (xe4 : PySem.W.subIn K (.ref C4) (.type "BaseException") = some true)
    (xt4 : PySem.W.typeIn K (.ref C4) = some (.type "type"))
    (xk4 : PySem.W.keepIn K (.ref C4) = true)
    (xga4 : PySem.W.findIn K (.ref C4) "__getattribute__" = some (some (.builtin "BaseException.__getattribute__")))
    (xgg4 : PySem.W.findIn K (.ref C4) "__getattr__" = some none)
    (xhd4 : PySem.W.hasDictIn K C4 = true)
    (xat4 : PySem.W.findIn K (.ref C4) "__class__" = some (some (.builtin "object.__class__")))
    (xmo4 : PySem.W.mroIn K C4 (.type "object") = some true)
    (xi4 : PySem.W.findIn K (.ref C4) "__init__" = some (some (.ref fI4)))
    (xti4 : PySem.W.typeIn K (.ref fI4) = some (.type "function"))
    (xli4 : K.lookup fI4 = some ⟨oc_4, od_4, .func (PySem.W.fnOf "__init__" "NoTie.__init__" (defArgs s_NoTie) (defBody s_NoTie) (defScope s_NoTie) .none kV_4 dc_4 pm_4 an_4 cd_4 ct_4), sl_4⟩)
    (xci4 : PySem.W.codeIn K cd_4 "NoTie.__init__" = true)
    (xki4 : PySem.W.keepIn K (.ref fI4) = true)
    (xsb4 : PySem.W.subIn K (.ref C4) (.ref CB) = some true)
    (xfo_0_4 : PySem.W.findIn K (.ref C4) "found" = some none)
    (xa5 : PySem.W.nsIn K mainGlobals "NoPlace" = some (some (.ref C5)))
    (xl5 : K.lookup C5 = some (excClassObj nm5 q5 C5 N5 bs5 bm5 true sn5 sub5 ab5 col5 dd5 k0_5 k1_5 k2_5 k3_5 k5_5 "ValueError.__new__"))
    (xm5 : PySem.HandSPX.refsVE bm5 = true)
    (xs5 : PySem.W.findIn K (.ref C5) "__setattr__" = some (some (.builtin "object.__setattr__")))
    (xe5 : PySem.W.subIn K (.ref C5) (.type "BaseException") = some true)
    (xt5 : PySem.W.typeIn K (.ref C5) = some (.type "type"))
    (xk5 : PySem.W.keepIn K (.ref C5) = true)
    (xga5 : PySem.W.findIn K (.ref C5) "__getattribute__" = some (some (.builtin "BaseException.__getattribute__")))
    (xgg5 : PySem.W.findIn K (.ref C5) "__getattr__" = some none)
    (xhd5 : PySem.W.hasDictIn K C5 = true)
    (xat5 : PySem.W.findIn K (.ref C5) "__class__" = some (some (.builtin "object.__class__")))
    (xmo5 : PySem.W.mroIn K C5 (.type "object") = some true)
    (xi5 : PySem.W.findIn K (.ref C5) "__init__" = some (some (.ref fI5)))
    (xti5 : PySem.W.typeIn K (.ref fI5) = some (.type "function"))
    (xli5 : K.lookup fI5 = some ⟨oc_5, od_5, .func (PySem.W.fnOf "__init__" "NoPlace.__init__" (defArgs s_NoPlace) (defBody s_NoPlace) (defScope s_NoPlace) .none kV_5 dc_5 pm_5 an_5 cd_5 ct_5), sl_5⟩)
    (xci5 : PySem.W.codeIn K cd_5 "NoPlace.__init__" = true)
    (xki5 : PySem.W.keepIn K (.ref fI5) = true)
    (xsb5 : PySem.W.subIn K (.ref C5) (.ref CB) = some true)
    (xfo_0_5 : PySem.W.findIn K (.ref C5) "found" = some none)
    (xa6 : PySem.W.nsIn K mainGlobals "Loop" = some (some (.ref C6)))
    (xl6 : K.lookup C6 = some (excClassObj nm6 q6 C6 N6 bs6 bm6 true sn6 sub6 ab6 col6 dd6 k0_6 k1_6 k2_6 k3_6 k5_6 "ValueError.__new__"))
    (xm6 : PySem.HandSPX.refsVE bm6 = true)
    (xs6 : PySem.W.findIn K (.ref C6) "__setattr__" = some (some (.builtin "object.__setattr__")))
    (xe6 : PySem.W.subIn K (.ref C6) (.type "BaseException") = some true)
    (xt6 : PySem.W.typeIn K (.ref C6) = some (.type "type"))
    (xk6 : PySem.W.keepIn K (.ref C6) = true)
    (xga6 : PySem.W.findIn K (.ref C6) "__getattribute__" = some (some (.builtin "BaseException.__getattribute__")))
    (xgg6 : PySem.W.findIn K (.ref C6) "__getattr__" = some none)
    (xhd6 : PySem.W.hasDictIn K C6 = true)
    (xat6 : PySem.W.findIn K (.ref C6) "__class__" = some (some (.builtin "object.__class__")))
    (xmo6 : PySem.W.mroIn K C6 (.type "object") = some true)
    (xi6 : PySem.W.findIn K (.ref C6) "__init__" = some (some (.ref fI6)))
    (xti6 : PySem.W.typeIn K (.ref fI6) = some (.type "function"))
    (xli6 : K.lookup fI6 = some ⟨oc_6, od_6, .func (PySem.W.fnOf "__init__" "Loop.__init__" (defArgs s_Loop) (defBody s_Loop) (defScope s_Loop) .none kV_6 dc_6 pm_6 an_6 cd_6 ct_6), sl_6⟩)
    (xci6 : PySem.W.codeIn K cd_6 "Loop.__init__" = true)
    (xki6 : PySem.W.keepIn K (.ref fI6) = true)
    (xsb6 : PySem.W.subIn K (.ref C6) (.ref CB) = some true)
    (xfo_0_6 : PySem.W.findIn K (.ref C6) "found" = some none)
    (xa7 : PySem.W.nsIn K mainGlobals "NoLength" = some (some (.ref C7)))
    (xl7 : K.lookup C7 = some (excClassObj nm7 q7 C7 N7 bs7 bm7 true sn7 sub7 ab7 col7 dd7 k0_7 k1_7 k2_7 k3_7 k5_7 "ValueError.__new__"))
    (xm7 : PySem.HandSPX.refsVE bm7 = true)
    (xs7 : PySem.W.findIn K (.ref C7) "__setattr__" = some (some (.builtin "object.__setattr__")))
    (xe7 : PySem.W.subIn K (.ref C7) (.type "BaseException") = some true)
    (xt7 : PySem.W.typeIn K (.ref C7) = some (.type "type"))
    (xk7 : PySem.W.keepIn K (.ref C7) = true)
    (xga7 : PySem.W.findIn K (.ref C7) "__getattribute__" = some (some (.builtin "BaseException.__getattribute__")))
    (xgg7 : PySem.W.findIn K (.ref C7) "__getattr__" = some none)
    (xhd7 : PySem.W.hasDictIn K C7 = true)
    (xat7 : PySem.W.findIn K (.ref C7) "__class__" = some (some (.builtin "object.__class__")))
    (xmo7 : PySem.W.mroIn K C7 (.type "object") = some true)
    (xi7 : PySem.W.findIn K (.ref C7) "__init__" = some (some (.ref fI7)))
    (xti7 : PySem.W.typeIn K (.ref fI7) = some (.type "function"))
    (xli7 : K.lookup fI7 = some ⟨oc_7, od_7, .func (PySem.W.fnOf "__init__" "NoLength.__init__" (defArgs s_NoLength) (defBody s_NoLength) (defScope s_NoLength) .none kV_7 dc_7 pm_7 an_7 cd_7 ct_7), sl_7⟩)
    (xci7 : PySem.W.codeIn K cd_7 "NoLength.__init__" = true)
    (xki7 : PySem.W.keepIn K (.ref fI7) = true)
    (xsb7 : PySem.W.subIn K (.ref C7) (.ref CB) = some true)
    (xfo_0_7 : PySem.W.findIn K (.ref C7) "found" = some none)
    (xa8 : PySem.W.nsIn K mainGlobals "NoText" = some (some (.ref C8)))
    (xl8 : K.lookup C8 = some (excClassObj nm8 q8 C8 N8 bs8 bm8 true sn8 sub8 ab8 col8 dd8 k0_8 k1_8 k2_8 k3_8 k5_8 "ValueError.__new__"))
    (xm8 : PySem.HandSPX.refsVE bm8 = true)
    (xs8 : PySem.W.findIn K (.ref C8) "__setattr__" = some (some (.builtin "object.__setattr__")))
    (xe8 : PySem.W.subIn K (.ref C8) (.type "BaseException") = some true)
    (xt8 : PySem.W.typeIn K (.ref C8) = some (.type "type"))
    (xk8 : PySem.W.keepIn K (.ref C8) = true)
    (xga8 : PySem.W.findIn K (.ref C8) "__getattribute__" = some (some (.builtin "BaseException.__getattribute__")))
    (xgg8 : PySem.W.findIn K (.ref C8) "__getattr__" = some none)
    (xhd8 : PySem.W.hasDictIn K C8 = true)
    (xat8 : PySem.W.findIn K (.ref C8) "__class__" = some (some (.builtin "object.__class__")))
    (xmo8 : PySem.W.mroIn K C8 (.type "object") = some true)
    (xi8 : PySem.W.findIn K (.ref C8) "__init__" = some (some (.ref fI8)))
    (xti8 : PySem.W.typeIn K (.ref fI8) = some (.type "function"))
    (xli8 : K.lookup fI8 = some ⟨oc_8, od_8, .func (PySem.W.fnOf "__init__" "NoText.__init__" (defArgs s_NoText) (defBody s_NoText) (defScope s_NoText) .none kV_8 dc_8 pm_8 an_8 cd_8 ct_8), sl_8⟩)
    (xci8 : PySem.W.codeIn K cd_8 "NoText.__init__" = true)
    (xki8 : PySem.W.keepIn K (.ref fI8) = true)
    (xsb8 : PySem.W.subIn K (.ref C8) (.ref CB) = some true)
    (xfo_0_8 : PySem.W.findIn K (.ref C8) "found" = some none)
    (xa9 : PySem.W.nsIn K mainGlobals "Tied" = some (some (.ref C9)))
    (xl9 : K.lookup C9 = some (excClassObj nm9 q9 C9 N9 bs9 bm9 true sn9 sub9 ab9 col9 dd9 k0_9 k1_9 k2_9 k3_9 k5_9 "ValueError.__new__"))
    (xm9 : PySem.HandSPX.refsVE bm9 = true)
    (xs9 : PySem.W.findIn K (.ref C9) "__setattr__" = some (some (.builtin "object.__setattr__")))
    (xe9 : PySem.W.subIn K (.ref C9) (.type "BaseException") = some true)
    (xt9 : PySem.W.typeIn K (.ref C9) = some (.type "type"))
    (xk9 : PySem.W.keepIn K (.ref C9) = true)
    (xga9 : PySem.W.findIn K (.ref C9) "__getattribute__" = some (some (.builtin "BaseException.__getattribute__")))
    (xgg9 : PySem.W.findIn K (.ref C9) "__getattr__" = some none)
    (xhd9 : PySem.W.hasDictIn K C9 = true)
    (xat9 : PySem.W.findIn K (.ref C9) "__class__" = some (some (.builtin "object.__class__")))
    (xmo9 : PySem.W.mroIn K C9 (.type "object") = some true)
    (xi9 : PySem.W.findIn K (.ref C9) "__init__" = some (some (.ref fI9)))
    (xti9 : PySem.W.typeIn K (.ref fI9) = some (.type "function"))
    (xli9 : K.lookup fI9 = some ⟨oc_9, od_9, .func (PySem.W.fnOf "__init__" "Tied.__init__" (defArgs s_Tied) (defBody s_Tied) (defScope s_Tied) .none kV_9 dc_9 pm_9 an_9 cd_9 ct_9), sl_9⟩)
    (xci9 : PySem.W.codeIn K cd_9 "Tied.__init__" = true)
    (xki9 : PySem.W.keepIn K (.ref fI9) = true)
    (xsb9 : PySem.W.subIn K (.ref C9) (.ref CB) = some true)
    (xfo_0_9 : PySem.W.findIn K (.ref C9) "other" = some none)
    (xfo_1_9 : PySem.W.findIn K (.ref C9) "one" = some none)
    (xa10 : PySem.W.nsIn K mainGlobals "BadLine" = some (some (.ref C10)))
    (xl10 : K.lookup C10 = some (excClassObj nm10 q10 C10 N10 bs10 bm10 true sn10 sub10 ab10 col10 dd10 k0_10 k1_10 k2_10 k3_10 k5_10 "ValueError.__new__"))
    (xm10 : PySem.HandSPX.refsVE bm10 = true)
    (xs10 : PySem.W.findIn K (.ref C10) "__setattr__" = some (some (.builtin "object.__setattr__")))
    (xe10 : PySem.W.subIn K (.ref C10) (.type "BaseException") = some true)
    (xt10 : PySem.W.typeIn K (.ref C10) = some (.type "type"))
    (xk10 : PySem.W.keepIn K (.ref C10) = true)
    (xga10 : PySem.W.findIn K (.ref C10) "__getattribute__" = some (some (.builtin "BaseException.__getattribute__")))
    (xgg10 : PySem.W.findIn K (.ref C10) "__getattr__" = some none)
    (xhd10 : PySem.W.hasDictIn K C10 = true)
    (xat10 : PySem.W.findIn K (.ref C10) "__class__" = some (some (.builtin "object.__class__")))
    (xmo10 : PySem.W.mroIn K C10 (.type "object") = some true)
    (xi10 : PySem.W.findIn K (.ref C10) "__init__" = some (some (.ref fI10)))
    (xti10 : PySem.W.typeIn K (.ref fI10) = some (.type "function"))
    (xli10 : K.lookup fI10 = some ⟨oc_10, od_10, .func (PySem.W.fnOf "__init__" "BadLine.__init__" (defArgs s_BadLine) (defBody s_BadLine) (defScope s_BadLine) .none kV_10 dc_10 pm_10 an_10 cd_10 ct_10), sl_10⟩)
    (xci10 : PySem.W.codeIn K cd_10 "BadLine.__init__" = true)
    (xki10 : PySem.W.keepIn K (.ref fI10) = true)
    (xsb10 : PySem.W.subIn K (.ref C10) (.ref CB) = some true)
    (xfo_0_10 : PySem.W.findIn K (.ref C10) "at" = some none)
    (xq0_0 : PySem.W.kitOne K (.ref C0) (.ref C0) = some true)
    (xq0_2 : PySem.W.kitOne K (.ref C0) (.ref C2) = some false)
    (xq0_3 : PySem.W.kitOne K (.ref C0) (.ref C3) = some false)
    (xq0_5 : PySem.W.kitOne K (.ref C0) (.ref C5) = some false)
    (xq0_6 : PySem.W.kitOne K (.ref C0) (.ref C6) = some false)
    (xq0_7 : PySem.W.kitOne K (.ref C0) (.ref C7) = some false)
    (xq0_8 : PySem.W.kitOne K (.ref C0) (.ref C8) = some false)
    (xq0_9 : PySem.W.kitOne K (.ref C0) (.ref C9) = some false)
    (xq0_10 : PySem.W.kitOne K (.ref C0) (.ref C10) = some false)
    (xq1_0 : PySem.W.kitOne K (.ref C1) (.ref C0) = some false)
    (xq1_2 : PySem.W.kitOne K (.ref C1) (.ref C2) = some false)
    (xq1_3 : PySem.W.kitOne K (.ref C1) (.ref C3) = some false)
    (xq1_5 : PySem.W.kitOne K (.ref C1) (.ref C5) = some false)
    (xq1_6 : PySem.W.kitOne K (.ref C1) (.ref C6) = some false)
    (xq1_7 : PySem.W.kitOne K (.ref C1) (.ref C7) = some false)
    (xq1_8 : PySem.W.kitOne K (.ref C1) (.ref C8) = some false)
    (xq1_9 : PySem.W.kitOne K (.ref C1) (.ref C9) = some false)
    (xq1_10 : PySem.W.kitOne K (.ref C1) (.ref C10) = some false)
    (xq2_0 : PySem.W.kitOne K (.ref C2) (.ref C0) = some false)
    (xq2_2 : PySem.W.kitOne K (.ref C2) (.ref C2) = some true)
    (xq2_3 : PySem.W.kitOne K (.ref C2) (.ref C3) = some false)
    (xq2_5 : PySem.W.kitOne K (.ref C2) (.ref C5) = some false)
    (xq2_6 : PySem.W.kitOne K (.ref C2) (.ref C6) = some false)
    (xq2_7 : PySem.W.kitOne K (.ref C2) (.ref C7) = some false)
    (xq2_8 : PySem.W.kitOne K (.ref C2) (.ref C8) = some false)
    (xq2_9 : PySem.W.kitOne K (.ref C2) (.ref C9) = some false)
    (xq2_10 : PySem.W.kitOne K (.ref C2) (.ref C10) = some false)
    (xq3_0 : PySem.W.kitOne K (.ref C3) (.ref C0) = some false)
    (xq3_2 : PySem.W.kitOne K (.ref C3) (.ref C2) = some false)
    (xq3_3 : PySem.W.kitOne K (.ref C3) (.ref C3) = some true)
    (xq3_5 : PySem.W.kitOne K (.ref C3) (.ref C5) = some false)
    (xq3_6 : PySem.W.kitOne K (.ref C3) (.ref C6) = some false)
    (xq3_7 : PySem.W.kitOne K (.ref C3) (.ref C7) = some false)
    (xq3_8 : PySem.W.kitOne K (.ref C3) (.ref C8) = some false)
    (xq3_9 : PySem.W.kitOne K (.ref C3) (.ref C9) = some false)
    (xq3_10 : PySem.W.kitOne K (.ref C3) (.ref C10) = some false)
    (xq4_0 : PySem.W.kitOne K (.ref C4) (.ref C0) = some false)
    (xq4_2 : PySem.W.kitOne K (.ref C4) (.ref C2) = some false)
    (xq4_3 : PySem.W.kitOne K (.ref C4) (.ref C3) = some false)
    (xq4_5 : PySem.W.kitOne K (.ref C4) (.ref C5) = some false)
    (xq4_6 : PySem.W.kitOne K (.ref C4) (.ref C6) = some false)
    (xq4_7 : PySem.W.kitOne K (.ref C4) (.ref C7) = some false)
    (xq4_8 : PySem.W.kitOne K (.ref C4) (.ref C8) = some false)
    (xq4_9 : PySem.W.kitOne K (.ref C4) (.ref C9) = some false)
    (xq4_10 : PySem.W.kitOne K (.ref C4) (.ref C10) = some false)
    (xq5_0 : PySem.W.kitOne K (.ref C5) (.ref C0) = some false)
    (xq5_2 : PySem.W.kitOne K (.ref C5) (.ref C2) = some false)
    (xq5_3 : PySem.W.kitOne K (.ref C5) (.ref C3) = some false)
    (xq5_5 : PySem.W.kitOne K (.ref C5) (.ref C5) = some true)
    (xq5_6 : PySem.W.kitOne K (.ref C5) (.ref C6) = some false)
    (xq5_7 : PySem.W.kitOne K (.ref C5) (.ref C7) = some false)
    (xq5_8 : PySem.W.kitOne K (.ref C5) (.ref C8) = some false)
    (xq5_9 : PySem.W.kitOne K (.ref C5) (.ref C9) = some false)
    (xq5_10 : PySem.W.kitOne K (.ref C5) (.ref C10) = some false)
    (xq6_0 : PySem.W.kitOne K (.ref C6) (.ref C0) = some false)
    (xq6_2 : PySem.W.kitOne K (.ref C6) (.ref C2) = some false)
    (xq6_3 : PySem.W.kitOne K (.ref C6) (.ref C3) = some false)
    (xq6_5 : PySem.W.kitOne K (.ref C6) (.ref C5) = some false)
    (xq6_6 : PySem.W.kitOne K (.ref C6) (.ref C6) = some true)
    (xq6_7 : PySem.W.kitOne K (.ref C6) (.ref C7) = some false)
    (xq6_8 : PySem.W.kitOne K (.ref C6) (.ref C8) = some false)
    (xq6_9 : PySem.W.kitOne K (.ref C6) (.ref C9) = some false)
    (xq6_10 : PySem.W.kitOne K (.ref C6) (.ref C10) = some false)
    (xq7_0 : PySem.W.kitOne K (.ref C7) (.ref C0) = some false)
    (xq7_2 : PySem.W.kitOne K (.ref C7) (.ref C2) = some false)
    (xq7_3 : PySem.W.kitOne K (.ref C7) (.ref C3) = some false)
    (xq7_5 : PySem.W.kitOne K (.ref C7) (.ref C5) = some false)
    (xq7_6 : PySem.W.kitOne K (.ref C7) (.ref C6) = some false)
    (xq7_7 : PySem.W.kitOne K (.ref C7) (.ref C7) = some true)
    (xq7_8 : PySem.W.kitOne K (.ref C7) (.ref C8) = some false)
    (xq7_9 : PySem.W.kitOne K (.ref C7) (.ref C9) = some false)
    (xq7_10 : PySem.W.kitOne K (.ref C7) (.ref C10) = some false)
    (xq8_0 : PySem.W.kitOne K (.ref C8) (.ref C0) = some false)
    (xq8_2 : PySem.W.kitOne K (.ref C8) (.ref C2) = some false)
    (xq8_3 : PySem.W.kitOne K (.ref C8) (.ref C3) = some false)
    (xq8_5 : PySem.W.kitOne K (.ref C8) (.ref C5) = some false)
    (xq8_6 : PySem.W.kitOne K (.ref C8) (.ref C6) = some false)
    (xq8_7 : PySem.W.kitOne K (.ref C8) (.ref C7) = some false)
    (xq8_8 : PySem.W.kitOne K (.ref C8) (.ref C8) = some true)
    (xq8_9 : PySem.W.kitOne K (.ref C8) (.ref C9) = some false)
    (xq8_10 : PySem.W.kitOne K (.ref C8) (.ref C10) = some false)
    (xq9_0 : PySem.W.kitOne K (.ref C9) (.ref C0) = some false)
    (xq9_2 : PySem.W.kitOne K (.ref C9) (.ref C2) = some false)
    (xq9_3 : PySem.W.kitOne K (.ref C9) (.ref C3) = some false)
    (xq9_5 : PySem.W.kitOne K (.ref C9) (.ref C5) = some false)
    (xq9_6 : PySem.W.kitOne K (.ref C9) (.ref C6) = some false)
    (xq9_7 : PySem.W.kitOne K (.ref C9) (.ref C7) = some false)
    (xq9_8 : PySem.W.kitOne K (.ref C9) (.ref C8) = some false)
    (xq9_9 : PySem.W.kitOne K (.ref C9) (.ref C9) = some true)
    (xq9_10 : PySem.W.kitOne K (.ref C9) (.ref C10) = some false)
    (xq10_0 : PySem.W.kitOne K (.ref C10) (.ref C0) = some false)
    (xq10_2 : PySem.W.kitOne K (.ref C10) (.ref C2) = some false)
    (xq10_3 : PySem.W.kitOne K (.ref C10) (.ref C3) = some false)
    (xq10_5 : PySem.W.kitOne K (.ref C10) (.ref C5) = some false)
    (xq10_6 : PySem.W.kitOne K (.ref C10) (.ref C6) = some false)
    (xq10_7 : PySem.W.kitOne K (.ref C10) (.ref C7) = some false)
    (xq10_8 : PySem.W.kitOne K (.ref C10) (.ref C8) = some false)
    (xq10_9 : PySem.W.kitOne K (.ref C10) (.ref C9) = some false)
    (xq10_10 : PySem.W.kitOne K (.ref C10) (.ref C10) = some true)
    (z_all : PySem.W.nsIn K mainGlobals "all" = some none)
    (z_bool : PySem.W.nsIn K mainGlobals "bool" = some none)
    (z_enumerate : PySem.W.nsIn K mainGlobals "enumerate" = some none)
    (z_int : PySem.W.nsIn K mainGlobals "int" = some none)
    (z_isinstance : PySem.W.nsIn K mainGlobals "isinstance" = some none)
    (z_len : PySem.W.nsIn K mainGlobals "len" = some none)
    (z_list : PySem.W.nsIn K mainGlobals "list" = some none)
    (z_max : PySem.W.nsIn K mainGlobals "max" = some none)
    (z_min : PySem.W.nsIn K mainGlobals "min" = some none)
    (z_range : PySem.W.nsIn K mainGlobals "range" = some none)
    (z_repr : PySem.W.nsIn K mainGlobals "repr" = some none)
    (z_sorted : PySem.W.nsIn K mainGlobals "sorted" = some none)
    (z_str : PySem.W.nsIn K mainGlobals "str" = some none)
    (z_tuple : PySem.W.nsIn K mainGlobals "tuple" = some none)
    (v_FIGURES : PySem.W.nsIn K mainGlobals "FIGURES" = some (some (.str "0123456789" tk_FIGURES)))
    (v_LETTERS : PySem.W.nsIn K mainGlobals "LETTERS" = some (some (.str "abcdefghijklmnopqrstuvwxyz" tk_LETTERS)))
    (v_MOST_LENGTH : PySem.W.nsIn K mainGlobals "MOST_LENGTH" = some (some (.int 1000000 tk_MOST_LENGTH)))
    (v_MOST_PLACES : PySem.W.nsIn K mainGlobals "MOST_PLACES" = some (some (.int 12 tk_MOST_PLACES)))
    (v_MOST_READ : PySem.W.nsIn K mainGlobals "MOST_READ" = some (some (.int 999999999999999999999999999999 tk_MOST_READ)))
    (v_MOST_TIES : PySem.W.nsIn K mainGlobals "MOST_TIES" = some (some (.int 40 tk_MOST_TIES))) :
    ∃ fd : FuncData, (∀ (s : Shared) (v : Value), BindsTo s fd ⟨[v], []⟩ [("_law_script", v)]) ∧ ∀ base : Heap, K.In base → base.Ns mainGlobals mg → FnG l.prog w K mg base (L2.CX l.prog w) 9 fa fd ["_law_script"] (lift K S_law) := by
  have e := hfa.symm.trans (PySem.W.mg_of X G a32)
  cases e
  have F1 := fun_mk (st := s_is_whole) l1 c1 k1
  have b1 := F1.binds (ps := ["thing", "low", "high"]) fun _ _ _ _ _ _ us hl => match us, hl with | [_, _, _], _ => rfl
  have F2 := fun_mk (st := s_is_name) l2 c2 k2
  have b2 := F2.binds (ps := ["thing"]) fun _ _ _ _ _ _ us hl => match us, hl with | [_], _ => rfl
  have F3 := fun_mk (st := s_number_in) l3 c3 k3
  have b3 := F3.binds (ps := ["thing", "low", "high"]) fun _ _ _ _ _ _ us hl => match us, hl with | [_, _, _], _ => rfl
  have F4 := fun_mk (st := s_spots_of) l4 c4 k4
  have b4 := F4.binds (ps := ["places"]) fun _ _ _ _ _ _ us hl => match us, hl with | [_], _ => rfl
  have F5 := fun_mk (st := s_spot_of) l5 c5 k5
  have b5 := F5.binds (ps := ["spots", "place"]) fun _ _ _ _ _ _ us hl => match us, hl with | [_, _], _ => rfl
  have F6 := fun_mk (st := s_pair_of) l6 c6 k6
  have b6 := F6.binds (ps := ["here", "there"]) fun _ _ _ _ _ _ us hl => match us, hl with | [_, _], _ => rfl
  have F7 := fun_mk (st := s_lengths_of) l7 c7 k7
  have b7 := F7.binds (ps := ["spots", "ties"]) fun _ _ _ _ _ _ us hl => match us, hl with | [_, _], _ => rfl
  have F8 := fun_mk (st := s_Web___init__) l8 c8 k8
  have b8 := F8.binds (ps := ["self", "places", "ties"]) fun _ _ _ _ _ _ us hl => match us, hl with | [_, _, _], _ => rfl
  have F9 := fun_mk (st := s_Web_ties) l9 c9 k9
  have b9 := F9.binds (ps := ["self"]) fun _ _ _ _ _ _ us hl => match us, hl with | [_], _ => rfl
  have F10 := fun_mk (st := s_Web_told) l10 c10 k10
  have b10 := F10.binds (ps := ["self"]) fun _ _ _ _ _ _ us hl => match us, hl with | [_], _ => rfl
  have F11 := fun_mk (st := s_tie_in) l11 c11 k11
  have b11 := F11.binds (ps := ["words"]) fun _ _ _ _ _ _ us hl => match us, hl with | [_], _ => rfl
  have F12 := fun_mk (st := s_read_web) l12 c12 k12
  have b12 := F12.binds (ps := ["text"]) fun _ _ _ _ _ _ us hl => match us, hl with | [_], _ => rfl
  have F13 := fun_mk (st := s_l_cell) l13 c13 k13
  have b13 := F13.binds (ps := ["_law_script", "_law_k"]) fun _ _ _ _ _ _ us hl => match us, hl with | [_, _], _ => rfl
  have F14 := fun_mk (st := s_l_box) l14 c14 k14
  have b14 := F14.binds (ps := ["_law_cell_here"]) fun _ _ _ _ _ _ us hl => match us, hl with | [_], _ => rfl
  have F15 := fun_mk (st := s_l_take) l15 c15 k15
  have b15 := F15.binds (ps := ["_law_box_here", "_law_many"]) fun _ _ _ _ _ _ us hl => match us, hl with | [_, _], _ => rfl
  have F16 := fun_mk (st := s_l_names) l16 c16 k16
  have b16 := F16.binds (ps := ["_law_box_here", "_law_many"]) fun _ _ _ _ _ _ us hl => match us, hl with | [_, _], _ => rfl
  have F17 := fun_mk (st := s_l_length) l17 c17 k17
  have b17 := F17.binds (ps := ["_law_box_here"]) fun _ _ _ _ _ _ us hl => match us, hl with | [_], _ => rfl
  have F18 := fun_mk (st := s_l_world) l18 c18 k18
  have b18 := F18.binds (ps := ["_law_box_here"]) fun _ _ _ _ _ _ us hl => match us, hl with | [_], _ => rfl
  have F19 := fun_mk (st := s_l_handed) l19 c19 k19
  have b19 := F19.binds (ps := ["_law_box_here", "_law_world_here"]) fun _ _ _ _ _ _ us hl => match us, hl with | [_, _], _ => rfl
  have F20 := fun_mk (st := s_l_tried) l20 c20 k20
  have b20 := F20.binds (ps := ["_law_thing"]) fun _ _ _ _ _ _ us hl => match us, hl with | [_], _ => rfl
  have F21 := fun_mk (st := s_l_is_name) l21 c21 k21
  have b21 := F21.binds (ps := ["_law_word"]) fun _ _ _ _ _ _ us hl => match us, hl with | [_], _ => rfl
  have F22 := fun_mk (st := s_l_number) l22 c22 k22
  have b22 := F22.binds (ps := ["_law_word"]) fun _ _ _ _ _ _ us hl => match us, hl with | [_], _ => rfl
  have F23 := fun_mk (st := s_l_tie) l23 c23 k23
  have b23 := F23.binds (ps := ["_law_line"]) fun _ _ _ _ _ _ us hl => match us, hl with | [_], _ => rfl
  have F24 := fun_mk (st := s_l_tie_due) l24 c24 k24
  have b24 := F24.binds (ps := ["_law_names_here", "_law_ties", "_law_at"]) fun _ _ _ _ _ _ us hl => match us, hl with | [_, _, _], _ => rfl
  have F25 := fun_mk (st := s_l_web_due) l25 c25 k25
  have b25 := F25.binds (ps := ["_law_names_here", "_law_ties"]) fun _ _ _ _ _ _ us hl => match us, hl with | [_, _], _ => rfl
  have F26 := fun_mk (st := s_l_due) l26 c26 k26
  have b26 := F26.binds (ps := ["_law_thing"]) fun _ _ _ _ _ _ us hl => match us, hl with | [_], _ => rfl
  have F27 := fun_mk (st := s_l_text) l27 c27 k27
  have b27 := F27.binds (ps := ["_law_box_here", "_law_world_here"]) fun _ _ _ _ _ _ us hl => match us, hl with | [_, _], _ => rfl
  have F28 := fun_mk (st := s_l_sign) l28 c28 k28
  have b28 := F28.binds (ps := ["_law_box_here"]) fun _ _ _ _ _ _ us hl => match us, hl with | [_], _ => rfl
  have F29 := fun_mk (st := s_l_lines_spoilt) l29 c29 k29
  have b29 := F29.binds (ps := ["_law_box_here", "_law_text_here", "_law_spare"]) fun _ _ _ _ _ _ us hl => match us, hl with | [_, _, _], _ => rfl
  have F30 := fun_mk (st := s_l_words_spoilt) l30 c30 k30
  have b30 := F30.binds (ps := ["_law_box_here", "_law_text_here", "_law_spare"]) fun _ _ _ _ _ _ us hl => match us, hl with | [_, _, _], _ => rfl
  have F31 := fun_mk (st := s_l_spoilt) l31 c31 k31
  have b31 := F31.binds (ps := ["_law_box_here", "_law_text_here", "_law_spare"]) fun _ _ _ _ _ _ us hl => match us, hl with | [_, _, _], _ => rfl
  have F32 := fun_mk (st := s_law) l32 c32 k32
  have b32 := F32.binds (ps := ["_law_script"]) fun _ _ _ _ _ _ us hl => match us, hl with | [_], _ => rfl
  let cn : Cn := { ad := fun n => [C0, C1, C2, C3, C4, C5, C6, C7, C8, C9, C10, C11].getD n 0, fl := fun n => ([["found"], ["found"], ["found"], ["found"], ["found"], ["found"], ["found"], ["found"], ["found"], ["other", "one"], ["at"]] : List (List Str)).getD n [], bs := CB }
  have hx0 : ExcAll K C0 ["found"] := ⟨⟨⟨_, _, _, _, _, _, _, _, _, _, _, _, _, _, _, xl0, xm0⟩, xs0, xe0, xt0, xk0⟩, ⟨xga0, xgg0, xe0, xhd0⟩, fun f hf => by cases List.mem_singleton.mp hf; exact xfo_0_0, by obtain ⟨_, hc, _⟩ := PySem.W.any_some xhd0; rw [hc]; rfl, xat0, xmo0, oN, oT⟩
  have hF0 := fun_mk (st := s_NoPlaces) xli0 xci0 xki0
  have hb0 := hF0.binds (ps := ["self", "found"]) fun _ _ _ _ _ _ us hl => match us, hl with | [_, _], _ => rfl
  have hx1 : ExcAll K C1 ["found"] := ⟨⟨⟨_, _, _, _, _, _, _, _, _, _, _, _, _, _, _, xl1, xm1⟩, xs1, xe1, xt1, xk1⟩, ⟨xga1, xgg1, xe1, xhd1⟩, fun f hf => by cases List.mem_singleton.mp hf; exact xfo_0_1, by obtain ⟨_, hc, _⟩ := PySem.W.any_some xhd1; rw [hc]; rfl, xat1, xmo1, oN, oT⟩
  have hF1 := fun_mk (st := s_NoName) xli1 xci1 xki1
  have hb1 := hF1.binds (ps := ["self", "found"]) fun _ _ _ _ _ _ us hl => match us, hl with | [_, _], _ => rfl
  have hx2 : ExcAll K C2 ["found"] := ⟨⟨⟨_, _, _, _, _, _, _, _, _, _, _, _, _, _, _, xl2, xm2⟩, xs2, xe2, xt2, xk2⟩, ⟨xga2, xgg2, xe2, xhd2⟩, fun f hf => by cases List.mem_singleton.mp hf; exact xfo_0_2, by obtain ⟨_, hc, _⟩ := PySem.W.any_some xhd2; rw [hc]; rfl, xat2, xmo2, oN, oT⟩
  have hF2 := fun_mk (st := s_Twice) xli2 xci2 xki2
  have hb2 := hF2.binds (ps := ["self", "found"]) fun _ _ _ _ _ _ us hl => match us, hl with | [_, _], _ => rfl
  have hx3 : ExcAll K C3 ["found"] := ⟨⟨⟨_, _, _, _, _, _, _, _, _, _, _, _, _, _, _, xl3, xm3⟩, xs3, xe3, xt3, xk3⟩, ⟨xga3, xgg3, xe3, xhd3⟩, fun f hf => by cases List.mem_singleton.mp hf; exact xfo_0_3, by obtain ⟨_, hc, _⟩ := PySem.W.any_some xhd3; rw [hc]; rfl, xat3, xmo3, oN, oT⟩
  have hF3 := fun_mk (st := s_NoTies) xli3 xci3 xki3
  have hb3 := hF3.binds (ps := ["self", "found"]) fun _ _ _ _ _ _ us hl => match us, hl with | [_, _], _ => rfl
  have hx4 : ExcAll K C4 ["found"] := ⟨⟨⟨_, _, _, _, _, _, _, _, _, _, _, _, _, _, _, xl4, xm4⟩, xs4, xe4, xt4, xk4⟩, ⟨xga4, xgg4, xe4, xhd4⟩, fun f hf => by cases List.mem_singleton.mp hf; exact xfo_0_4, by obtain ⟨_, hc, _⟩ := PySem.W.any_some xhd4; rw [hc]; rfl, xat4, xmo4, oN, oT⟩
  have hF4 := fun_mk (st := s_NoTie) xli4 xci4 xki4
  have hb4 := hF4.binds (ps := ["self", "found"]) fun _ _ _ _ _ _ us hl => match us, hl with | [_, _], _ => rfl
  have hx5 : ExcAll K C5 ["found"] := ⟨⟨⟨_, _, _, _, _, _, _, _, _, _, _, _, _, _, _, xl5, xm5⟩, xs5, xe5, xt5, xk5⟩, ⟨xga5, xgg5, xe5, xhd5⟩, fun f hf => by cases List.mem_singleton.mp hf; exact xfo_0_5, by obtain ⟨_, hc, _⟩ := PySem.W.any_some xhd5; rw [hc]; rfl, xat5, xmo5, oN, oT⟩
  have hF5 := fun_mk (st := s_NoPlace) xli5 xci5 xki5
  have hb5 := hF5.binds (ps := ["self", "found"]) fun _ _ _ _ _ _ us hl => match us, hl with | [_, _], _ => rfl
  have hx6 : ExcAll K C6 ["found"] := ⟨⟨⟨_, _, _, _, _, _, _, _, _, _, _, _, _, _, _, xl6, xm6⟩, xs6, xe6, xt6, xk6⟩, ⟨xga6, xgg6, xe6, xhd6⟩, fun f hf => by cases List.mem_singleton.mp hf; exact xfo_0_6, by obtain ⟨_, hc, _⟩ := PySem.W.any_some xhd6; rw [hc]; rfl, xat6, xmo6, oN, oT⟩
  have hF6 := fun_mk (st := s_Loop) xli6 xci6 xki6
  have hb6 := hF6.binds (ps := ["self", "found"]) fun _ _ _ _ _ _ us hl => match us, hl with | [_, _], _ => rfl
  have hx7 : ExcAll K C7 ["found"] := ⟨⟨⟨_, _, _, _, _, _, _, _, _, _, _, _, _, _, _, xl7, xm7⟩, xs7, xe7, xt7, xk7⟩, ⟨xga7, xgg7, xe7, xhd7⟩, fun f hf => by cases List.mem_singleton.mp hf; exact xfo_0_7, by obtain ⟨_, hc, _⟩ := PySem.W.any_some xhd7; rw [hc]; rfl, xat7, xmo7, oN, oT⟩
  have hF7 := fun_mk (st := s_NoLength) xli7 xci7 xki7
  have hb7 := hF7.binds (ps := ["self", "found"]) fun _ _ _ _ _ _ us hl => match us, hl with | [_, _], _ => rfl
  have hx8 : ExcAll K C8 ["found"] := ⟨⟨⟨_, _, _, _, _, _, _, _, _, _, _, _, _, _, _, xl8, xm8⟩, xs8, xe8, xt8, xk8⟩, ⟨xga8, xgg8, xe8, xhd8⟩, fun f hf => by cases List.mem_singleton.mp hf; exact xfo_0_8, by obtain ⟨_, hc, _⟩ := PySem.W.any_some xhd8; rw [hc]; rfl, xat8, xmo8, oN, oT⟩
  have hF8 := fun_mk (st := s_NoText) xli8 xci8 xki8
  have hb8 := hF8.binds (ps := ["self", "found"]) fun _ _ _ _ _ _ us hl => match us, hl with | [_, _], _ => rfl
  have hx9 : ExcAll K C9 ["other", "one"] := ⟨⟨⟨_, _, _, _, _, _, _, _, _, _, _, _, _, _, _, xl9, xm9⟩, xs9, xe9, xt9, xk9⟩, ⟨xga9, xgg9, xe9, xhd9⟩, fun f hf => (List.mem_cons.mp hf).elim (fun e => by subst e; exact xfo_0_9) (fun e => by cases List.mem_singleton.mp e; exact xfo_1_9), by obtain ⟨_, hc, _⟩ := PySem.W.any_some xhd9; rw [hc]; rfl, xat9, xmo9, oN, oT⟩
  have hF9 := fun_mk (st := s_Tied) xli9 xci9 xki9
  have hb9 := hF9.binds (ps := ["self", "one", "other"]) fun _ _ _ _ _ _ us hl => match us, hl with | [_, _, _], _ => rfl
  have hx10 : ExcAll K C10 ["at"] := ⟨⟨⟨_, _, _, _, _, _, _, _, _, _, _, _, _, _, _, xl10, xm10⟩, xs10, xe10, xt10, xk10⟩, ⟨xga10, xgg10, xe10, xhd10⟩, fun f hf => by cases List.mem_singleton.mp hf; exact xfo_0_10, by obtain ⟨_, hc, _⟩ := PySem.W.any_some xhd10; rw [hc]; rfl, xat10, xmo10, oN, oT⟩
  have hF10 := fun_mk (st := s_BadLine) xli10 xci10 xki10
  have hb10 := hF10.binds (ps := ["self", "at"]) fun _ _ _ _ _ _ us hl => match us, hl with | [_, _], _ => rfl
  have hxf : XF K cn := { all_NoPlaces := hx0, fl_NoPlaces := rfl, ex_NoPlaces := PySem.W.exm_ref bB4 bB5 bB6 xsb0, kit_NoPlaces_NoPlaces := xq0_0, kit_NoPlaces_Twice := xq0_2, kit_NoPlaces_NoTies := xq0_3, kit_NoPlaces_NoPlace := xq0_5, kit_NoPlaces_Loop := xq0_6, kit_NoPlaces_NoLength := xq0_7, kit_NoPlaces_NoText := xq0_8, kit_NoPlaces_Tied := xq0_9, kit_NoPlaces_BadLine := xq0_10, all_NoName := hx1, fl_NoName := rfl, ex_NoName := PySem.W.exm_ref bB4 bB5 bB6 xsb1, kit_NoName_NoPlaces := xq1_0, kit_NoName_Twice := xq1_2, kit_NoName_NoTies := xq1_3, kit_NoName_NoPlace := xq1_5, kit_NoName_Loop := xq1_6, kit_NoName_NoLength := xq1_7, kit_NoName_NoText := xq1_8, kit_NoName_Tied := xq1_9, kit_NoName_BadLine := xq1_10, all_Twice := hx2, fl_Twice := rfl, ex_Twice := PySem.W.exm_ref bB4 bB5 bB6 xsb2, kit_Twice_NoPlaces := xq2_0, kit_Twice_Twice := xq2_2, kit_Twice_NoTies := xq2_3, kit_Twice_NoPlace := xq2_5, kit_Twice_Loop := xq2_6, kit_Twice_NoLength := xq2_7, kit_Twice_NoText := xq2_8, kit_Twice_Tied := xq2_9, kit_Twice_BadLine := xq2_10, all_NoTies := hx3, fl_NoTies := rfl, ex_NoTies := PySem.W.exm_ref bB4 bB5 bB6 xsb3, kit_NoTies_NoPlaces := xq3_0, kit_NoTies_Twice := xq3_2, kit_NoTies_NoTies := xq3_3, kit_NoTies_NoPlace := xq3_5, kit_NoTies_Loop := xq3_6, kit_NoTies_NoLength := xq3_7, kit_NoTies_NoText := xq3_8, kit_NoTies_Tied := xq3_9, kit_NoTies_BadLine := xq3_10, all_NoTie := hx4, fl_NoTie := rfl, ex_NoTie := PySem.W.exm_ref bB4 bB5 bB6 xsb4, kit_NoTie_NoPlaces := xq4_0, kit_NoTie_Twice := xq4_2, kit_NoTie_NoTies := xq4_3, kit_NoTie_NoPlace := xq4_5, kit_NoTie_Loop := xq4_6, kit_NoTie_NoLength := xq4_7, kit_NoTie_NoText := xq4_8, kit_NoTie_Tied := xq4_9, kit_NoTie_BadLine := xq4_10, all_NoPlace := hx5, fl_NoPlace := rfl, ex_NoPlace := PySem.W.exm_ref bB4 bB5 bB6 xsb5, kit_NoPlace_NoPlaces := xq5_0, kit_NoPlace_Twice := xq5_2, kit_NoPlace_NoTies := xq5_3, kit_NoPlace_NoPlace := xq5_5, kit_NoPlace_Loop := xq5_6, kit_NoPlace_NoLength := xq5_7, kit_NoPlace_NoText := xq5_8, kit_NoPlace_Tied := xq5_9, kit_NoPlace_BadLine := xq5_10, all_Loop := hx6, fl_Loop := rfl, ex_Loop := PySem.W.exm_ref bB4 bB5 bB6 xsb6, kit_Loop_NoPlaces := xq6_0, kit_Loop_Twice := xq6_2, kit_Loop_NoTies := xq6_3, kit_Loop_NoPlace := xq6_5, kit_Loop_Loop := xq6_6, kit_Loop_NoLength := xq6_7, kit_Loop_NoText := xq6_8, kit_Loop_Tied := xq6_9, kit_Loop_BadLine := xq6_10, all_NoLength := hx7, fl_NoLength := rfl, ex_NoLength := PySem.W.exm_ref bB4 bB5 bB6 xsb7, kit_NoLength_NoPlaces := xq7_0, kit_NoLength_Twice := xq7_2, kit_NoLength_NoTies := xq7_3, kit_NoLength_NoPlace := xq7_5, kit_NoLength_Loop := xq7_6, kit_NoLength_NoLength := xq7_7, kit_NoLength_NoText := xq7_8, kit_NoLength_Tied := xq7_9, kit_NoLength_BadLine := xq7_10, all_NoText := hx8, fl_NoText := rfl, ex_NoText := PySem.W.exm_ref bB4 bB5 bB6 xsb8, kit_NoText_NoPlaces := xq8_0, kit_NoText_Twice := xq8_2, kit_NoText_NoTies := xq8_3, kit_NoText_NoPlace := xq8_5, kit_NoText_Loop := xq8_6, kit_NoText_NoLength := xq8_7, kit_NoText_NoText := xq8_8, kit_NoText_Tied := xq8_9, kit_NoText_BadLine := xq8_10, all_Tied := hx9, fl_Tied := rfl, ex_Tied := PySem.W.exm_ref bB4 bB5 bB6 xsb9, kit_Tied_NoPlaces := xq9_0, kit_Tied_Twice := xq9_2, kit_Tied_NoTies := xq9_3, kit_Tied_NoPlace := xq9_5, kit_Tied_Loop := xq9_6, kit_Tied_NoLength := xq9_7, kit_Tied_NoText := xq9_8, kit_Tied_Tied := xq9_9, kit_Tied_BadLine := xq9_10, all_BadLine := hx10, fl_BadLine := rfl, ex_BadLine := PySem.W.exm_ref bB4 bB5 bB6 xsb10, kit_BadLine_NoPlaces := xq10_0, kit_BadLine_Twice := xq10_2, kit_BadLine_NoTies := xq10_3, kit_BadLine_NoPlace := xq10_5, kit_BadLine_Loop := xq10_6, kit_BadLine_NoLength := xq10_7, kit_BadLine_NoText := xq10_8, kit_BadLine_Tied := xq10_9, kit_BadLine_BadLine := xq10_10, cls_Web := ⟨yp11, yh11, yo11, ys11⟩, na_Web_spots := ynspots_11, na_Web_names := ynnames_11, na_Web_lengths := ynlengths_11 }
  let T : Txt K mg cn := { xf := hxf, xb := ⟨PySem.W.mg_of X G aB, ⟨bB1, bB2⟩, bB3⟩, fi_NoPlaces := _, fd_NoPlaces := _, x_NoPlaces := ⟨hx0, PySem.W.mg_of X G xa0, xi0, xti0, hF0, hb0⟩, fi_NoName := _, fd_NoName := _, x_NoName := ⟨hx1, PySem.W.mg_of X G xa1, xi1, xti1, hF1, hb1⟩, fi_Twice := _, fd_Twice := _, x_Twice := ⟨hx2, PySem.W.mg_of X G xa2, xi2, xti2, hF2, hb2⟩, fi_NoTies := _, fd_NoTies := _, x_NoTies := ⟨hx3, PySem.W.mg_of X G xa3, xi3, xti3, hF3, hb3⟩, fi_NoTie := _, fd_NoTie := _, x_NoTie := ⟨hx4, PySem.W.mg_of X G xa4, xi4, xti4, hF4, hb4⟩, fi_NoPlace := _, fd_NoPlace := _, x_NoPlace := ⟨hx5, PySem.W.mg_of X G xa5, xi5, xti5, hF5, hb5⟩, fi_Loop := _, fd_Loop := _, x_Loop := ⟨hx6, PySem.W.mg_of X G xa6, xi6, xti6, hF6, hb6⟩, fi_NoLength := _, fd_NoLength := _, x_NoLength := ⟨hx7, PySem.W.mg_of X G xa7, xi7, xti7, hF7, hb7⟩, fi_NoText := _, fd_NoText := _, x_NoText := ⟨hx8, PySem.W.mg_of X G xa8, xi8, xti8, hF8, hb8⟩, fi_Tied := _, fd_Tied := _, x_Tied := ⟨hx9, PySem.W.mg_of X G xa9, xi9, xti9, hF9, hb9⟩, fi_BadLine := _, fd_BadLine := _, x_BadLine := ⟨hx10, PySem.W.mg_of X G xa10, xi10, xti10, hF10, hb10⟩, a_is_whole := _, f_is_whole := _, d_is_whole := ⟨F1, b1, PySem.W.mg_of X G a1⟩, a_is_name := _, f_is_name := _, d_is_name := ⟨F2, b2, PySem.W.mg_of X G a2⟩, a_number_in := _, f_number_in := _, d_number_in := ⟨F3, b3, PySem.W.mg_of X G a3⟩, a_spots_of := _, f_spots_of := _, d_spots_of := ⟨F4, b4, PySem.W.mg_of X G a4⟩, a_spot_of := _, f_spot_of := _, d_spot_of := ⟨F5, b5, PySem.W.mg_of X G a5⟩, a_pair_of := _, f_pair_of := _, d_pair_of := ⟨F6, b6, PySem.W.mg_of X G a6⟩, a_lengths_of := _, f_lengths_of := _, d_lengths_of := ⟨F7, b7, PySem.W.mg_of X G a7⟩, a_Web___init__ := _, f_Web___init__ := _, d_Web___init__ := ⟨F8, b8, ⟨a8, y8, k8⟩⟩, a_Web_ties := _, f_Web_ties := _, d_Web_ties := ⟨F9, b9, ⟨a9, y9, k9⟩⟩, a_Web_told := _, f_Web_told := _, d_Web_told := ⟨F10, b10, ⟨a10, y10, k10⟩⟩, a_tie_in := _, f_tie_in := _, d_tie_in := ⟨F11, b11, PySem.W.mg_of X G a11⟩, a_read_web := _, f_read_web := _, d_read_web := ⟨F12, b12, PySem.W.mg_of X G a12⟩, a_l_cell := _, f_l_cell := _, d_l_cell := ⟨F13, b13, PySem.W.mg_of X G a13⟩, a_l_box := _, f_l_box := _, d_l_box := ⟨F14, b14, PySem.W.mg_of X G a14⟩, a_l_take := _, f_l_take := _, d_l_take := ⟨F15, b15, PySem.W.mg_of X G a15⟩, a_l_names := _, f_l_names := _, d_l_names := ⟨F16, b16, PySem.W.mg_of X G a16⟩, a_l_length := _, f_l_length := _, d_l_length := ⟨F17, b17, PySem.W.mg_of X G a17⟩, a_l_world := _, f_l_world := _, d_l_world := ⟨F18, b18, PySem.W.mg_of X G a18⟩, a_l_handed := _, f_l_handed := _, d_l_handed := ⟨F19, b19, PySem.W.mg_of X G a19⟩, a_l_tried := _, f_l_tried := _, d_l_tried := ⟨F20, b20, PySem.W.mg_of X G a20⟩, a_l_is_name := _, f_l_is_name := _, d_l_is_name := ⟨F21, b21, PySem.W.mg_of X G a21⟩, a_l_number := _, f_l_number := _, d_l_number := ⟨F22, b22, PySem.W.mg_of X G a22⟩, a_l_tie := _, f_l_tie := _, d_l_tie := ⟨F23, b23, PySem.W.mg_of X G a23⟩, a_l_tie_due := _, f_l_tie_due := _, d_l_tie_due := ⟨F24, b24, PySem.W.mg_of X G a24⟩, a_l_web_due := _, f_l_web_due := _, d_l_web_due := ⟨F25, b25, PySem.W.mg_of X G a25⟩, a_l_due := _, f_l_due := _, d_l_due := ⟨F26, b26, PySem.W.mg_of X G a26⟩, a_l_text := _, f_l_text := _, d_l_text := ⟨F27, b27, PySem.W.mg_of X G a27⟩, a_l_sign := _, f_l_sign := _, d_l_sign := ⟨F28, b28, PySem.W.mg_of X G a28⟩, a_l_lines_spoilt := _, f_l_lines_spoilt := _, d_l_lines_spoilt := ⟨F29, b29, PySem.W.mg_of X G a29⟩, a_l_words_spoilt := _, f_l_words_spoilt := _, d_l_words_spoilt := ⟨F30, b30, PySem.W.mg_of X G a30⟩, a_l_spoilt := _, f_l_spoilt := _, d_l_spoilt := ⟨F31, b31, PySem.W.mg_of X G a31⟩, a_law := _, f_law := _, d_law := ⟨F32, b32, PySem.W.mg_of X G a32⟩, cls_Web := ⟨yp11, yh11, yo11, ys11⟩, g_Web := PySem.W.mg_of X G yc11, mk_Web := ⟨ym11, a8, y8, yk11⟩, n_all := PySem.W.mg_none_of X G z_all, n_bool := PySem.W.mg_none_of X G z_bool, n_enumerate := PySem.W.mg_none_of X G z_enumerate, n_int := PySem.W.mg_none_of X G z_int, n_isinstance := PySem.W.mg_none_of X G z_isinstance, n_len := PySem.W.mg_none_of X G z_len, n_list := PySem.W.mg_none_of X G z_list, n_max := PySem.W.mg_none_of X G z_max, n_min := PySem.W.mg_none_of X G z_min, n_range := PySem.W.mg_none_of X G z_range, n_repr := PySem.W.mg_none_of X G z_repr, n_sorted := PySem.W.mg_none_of X G z_sorted, n_str := PySem.W.mg_none_of X G z_str, n_tuple := PySem.W.mg_none_of X G z_tuple, c_FIGURES := ⟨_, PySem.W.mg_of X G v_FIGURES⟩, c_LETTERS := ⟨_, PySem.W.mg_of X G v_LETTERS⟩, c_MOST_LENGTH := ⟨_, PySem.W.mg_of X G v_MOST_LENGTH⟩, c_MOST_PLACES := ⟨_, PySem.W.mg_of X G v_MOST_PLACES⟩, c_MOST_READ := ⟨_, PySem.W.mg_of X G v_MOST_READ⟩, c_MOST_TIES := ⟨_, PySem.W.mg_of X G v_MOST_TIES⟩ }
  exact ⟨PySem.W.fnOf "law" "law" (defArgs s_law) (defBody s_law) (defScope s_law) .none kV32 dc32 pm32 an32 cd32 ct32, fun s v => .of_eq rfl, fun base _ _ => ok_all T⟩

end Lw
open PySem PySem.W PyProof.Rows
set_option maxHeartbeats 0 in
theorem PySem.Challenge.cw_farmarks_k16_texts_refused_holds : PySem.Challenge.rw_farmarks_k16_texts_refused.Holds := by
  w_on; o_law; k_head; (case hw => w_witness2)
  k_fill
  refine DL.walk_ofG (l := PySem.Challenge.rw_farmarks_k16_texts_refused) (n := 63) (k := 9) (x := "_law_script") (CX := fun w => L2.CX PySem.Challenge.rw_farmarks_k16_texts_refused.prog w) (sp := fun w => DL.lift _ Lw.S_law) (by decide +kernel) rfl (by decide) rfl ⟨rfl, by decide, by decide⟩ (fun w h Y => PySem.W.kIn_of Y) ?F (fun _ H a ns hl hb _ hS => Lw.law_in hl hb hS) (fun _ _ _ _ _ h => by obtain ⟨_, _, _, _, _, _, _, _, _, _, _, _, z⟩ := h; exact z.elim)
  case F =>
    intro w mg fa h KX G hmg
    refine' Lw.all_mk KX G hmg ?yc11 ?yp11 ?yh11 ?yo11 ?ys11 ?ym11 ?yk11 ?ynspots_11 ?ynnames_11 ?ynlengths_11 ?a1 ?l1 ?c1 ?k1 ?a2 ?l2 ?c2 ?k2 ?a3 ?l3 ?c3 ?k3 ?a4 ?l4 ?c4 ?k4 ?a5 ?l5 ?c5 ?k5 ?a6 ?l6 ?c6 ?k6 ?a7 ?l7 ?c7 ?k7 ?a8 ?y8 ?l8 ?c8 ?k8 ?a9 ?y9 ?l9 ?c9 ?k9 ?a10 ?y10 ?l10 ?c10 ?k10 ?a11 ?l11 ?c11 ?k11 ?a12 ?l12 ?c12 ?k12 ?a13 ?l13 ?c13 ?k13 ?a14 ?l14 ?c14 ?k14 ?a15 ?l15 ?c15 ?k15 ?a16 ?l16 ?c16 ?k16 ?a17 ?l17 ?c17 ?k17 ?a18 ?l18 ?c18 ?k18 ?a19 ?l19 ?c19 ?k19 ?a20 ?l20 ?c20 ?k20 ?a21 ?l21 ?c21 ?k21 ?a22 ?l22 ?c22 ?k22 ?a23 ?l23 ?c23 ?k23 ?a24 ?l24 ?c24 ?k24 ?a25 ?l25 ?c25 ?k25 ?a26 ?l26 ?c26 ?k26 ?a27 ?l27 ?c27 ?k27 ?a28 ?l28 ?c28 ?k28 ?a29 ?l29 ?c29 ?k29 ?a30 ?l30 ?c30 ?k30 ?a31 ?l31 ?c31 ?k31 ?a32 ?l32 ?c32 ?k32 ?aB ?bB1 ?bB2 ?bB3 ?bB4 ?bB5 ?bB6 ?oN ?oT ?xa0 ?xl0 ?xm0 ?xs0 ?xe0 ?xt0 ?xk0 ?xga0 ?xgg0 ?xhd0 ?xat0 ?xmo0 ?xi0 ?xti0 ?xli0 ?xci0 ?xki0 ?xsb0 ?xfo_0_0 ?xa1 ?xl1 ?xm1 ?xs1 ?xe1 ?xt1 ?xk1 ?xga1 ?xgg1 ?xhd1 ?xat1 ?xmo1 ?xi1 ?xti1 ?xli1 ?xci1 ?xki1 ?xsb1 ?xfo_0_1 ?xa2 ?xl2 ?xm2 ?xs2 ?xe2 ?xt2 ?xk2 ?xga2 ?xgg2 ?xhd2 ?xat2 ?xmo2 ?xi2 ?xti2 ?xli2 ?xci2 ?xki2 ?xsb2 ?xfo_0_2 ?xa3 ?xl3 ?xm3 ?xs3 ?xe3 ?xt3 ?xk3 ?xga3 ?xgg3 ?xhd3 ?xat3 ?xmo3 ?xi3 ?xti3 ?xli3 ?xci3 ?xki3 ?xsb3 ?xfo_0_3 ?xa4 ?xl4 ?xm4 ?xs4 ?xe4 ?xt4 ?xk4 ?xga4 ?xgg4 ?xhd4 ?xat4 ?xmo4 ?xi4 ?xti4 ?xli4 ?xci4 ?xki4 ?xsb4 ?xfo_0_4 ?xa5 ?xl5 ?xm5 ?xs5 ?xe5 ?xt5 ?xk5 ?xga5 ?xgg5 ?xhd5 ?xat5 ?xmo5 ?xi5 ?xti5 ?xli5 ?xci5 ?xki5 ?xsb5 ?xfo_0_5 ?xa6 ?xl6 ?xm6 ?xs6 ?xe6 ?xt6 ?xk6 ?xga6 ?xgg6 ?xhd6 ?xat6 ?xmo6 ?xi6 ?xti6 ?xli6 ?xci6 ?xki6 ?xsb6 ?xfo_0_6 ?xa7 ?xl7 ?xm7 ?xs7 ?xe7 ?xt7 ?xk7 ?xga7 ?xgg7 ?xhd7 ?xat7 ?xmo7 ?xi7 ?xti7 ?xli7 ?xci7 ?xki7 ?xsb7 ?xfo_0_7 ?xa8 ?xl8 ?xm8 ?xs8 ?xe8 ?xt8 ?xk8 ?xga8 ?xgg8 ?xhd8 ?xat8 ?xmo8 ?xi8 ?xti8 ?xli8 ?xci8 ?xki8 ?xsb8 ?xfo_0_8 ?xa9 ?xl9 ?xm9 ?xs9 ?xe9 ?xt9 ?xk9 ?xga9 ?xgg9 ?xhd9 ?xat9 ?xmo9 ?xi9 ?xti9 ?xli9 ?xci9 ?xki9 ?xsb9 ?xfo_0_9 ?xfo_1_9 ?xa10 ?xl10 ?xm10 ?xs10 ?xe10 ?xt10 ?xk10 ?xga10 ?xgg10 ?xhd10 ?xat10 ?xmo10 ?xi10 ?xti10 ?xli10 ?xci10 ?xki10 ?xsb10 ?xfo_0_10 ?xq0_0 ?xq0_2 ?xq0_3 ?xq0_5 ?xq0_6 ?xq0_7 ?xq0_8 ?xq0_9 ?xq0_10 ?xq1_0 ?xq1_2 ?xq1_3 ?xq1_5 ?xq1_6 ?xq1_7 ?xq1_8 ?xq1_9 ?xq1_10 ?xq2_0 ?xq2_2 ?xq2_3 ?xq2_5 ?xq2_6 ?xq2_7 ?xq2_8 ?xq2_9 ?xq2_10 ?xq3_0 ?xq3_2 ?xq3_3 ?xq3_5 ?xq3_6 ?xq3_7 ?xq3_8 ?xq3_9 ?xq3_10 ?xq4_0 ?xq4_2 ?xq4_3 ?xq4_5 ?xq4_6 ?xq4_7 ?xq4_8 ?xq4_9 ?xq4_10 ?xq5_0 ?xq5_2 ?xq5_3 ?xq5_5 ?xq5_6 ?xq5_7 ?xq5_8 ?xq5_9 ?xq5_10 ?xq6_0 ?xq6_2 ?xq6_3 ?xq6_5 ?xq6_6 ?xq6_7 ?xq6_8 ?xq6_9 ?xq6_10 ?xq7_0 ?xq7_2 ?xq7_3 ?xq7_5 ?xq7_6 ?xq7_7 ?xq7_8 ?xq7_9 ?xq7_10 ?xq8_0 ?xq8_2 ?xq8_3 ?xq8_5 ?xq8_6 ?xq8_7 ?xq8_8 ?xq8_9 ?xq8_10 ?xq9_0 ?xq9_2 ?xq9_3 ?xq9_5 ?xq9_6 ?xq9_7 ?xq9_8 ?xq9_9 ?xq9_10 ?xq10_0 ?xq10_2 ?xq10_3 ?xq10_5 ?xq10_6 ?xq10_7 ?xq10_8 ?xq10_9 ?xq10_10 ?z_all ?z_bool ?z_enumerate ?z_int ?z_isinstance ?z_len ?z_list ?z_max ?z_min ?z_range ?z_repr ?z_sorted ?z_str ?z_tuple ?v_FIGURES ?v_LETTERS ?v_MOST_LENGTH ?v_MOST_PLACES ?v_MOST_READ ?v_MOST_TIES
    (case yc11 => k_is); (case yp11 => k_is); (case yh11 => k_is); (case yo11 => k_is); (case ys11 => k_is); (case ym11 => k_is); (case yk11 => k_is); (case ynspots_11 => k_is); (case ynnames_11 => k_is); (case ynlengths_11 => k_is); (case a1 => k_is); (case l1 => k_is); (case c1 => k_is); (case k1 => k_is); (case a2 => k_is); (case l2 => k_is); (case c2 => k_is); (case k2 => k_is); (case a3 => k_is); (case l3 => k_is); (case c3 => k_is); (case k3 => k_is); (case a4 => k_is); (case l4 => k_is); (case c4 => k_is); (case k4 => k_is); (case a5 => k_is); (case l5 => k_is); (case c5 => k_is); (case k5 => k_is); (case a6 => k_is); (case l6 => k_is); (case c6 => k_is); (case k6 => k_is); (case a7 => k_is); (case l7 => k_is); (case c7 => k_is); (case k7 => k_is); (case a8 => k_is); (case y8 => k_is); (case l8 => k_is); (case c8 => k_is); (case k8 => k_is); (case a9 => k_is); (case y9 => k_is); (case l9 => k_is); (case c9 => k_is); (case k9 => k_is); (case a10 => k_is); (case y10 => k_is); (case l10 => k_is); (case c10 => k_is); (case k10 => k_is); (case a11 => k_is); (case l11 => k_is); (case c11 => k_is); (case k11 => k_is); (case a12 => k_is); (case l12 => k_is); (case c12 => k_is); (case k12 => k_is); (case a13 => k_is); (case l13 => k_is); (case c13 => k_is); (case k13 => k_is); (case a14 => k_is); (case l14 => k_is); (case c14 => k_is); (case k14 => k_is); (case a15 => k_is); (case l15 => k_is); (case c15 => k_is); (case k15 => k_is); (case a16 => k_is); (case l16 => k_is); (case c16 => k_is); (case k16 => k_is); (case a17 => k_is); (case l17 => k_is); (case c17 => k_is); (case k17 => k_is); (case a18 => k_is); (case l18 => k_is); (case c18 => k_is); (case k18 => k_is); (case a19 => k_is); (case l19 => k_is); (case c19 => k_is); (case k19 => k_is); (case a20 => k_is); (case l20 => k_is); (case c20 => k_is); (case k20 => k_is); (case a21 => k_is); (case l21 => k_is); (case c21 => k_is); (case k21 => k_is); (case a22 => k_is); (case l22 => k_is); (case c22 => k_is); (case k22 => k_is); (case a23 => k_is); (case l23 => k_is); (case c23 => k_is); (case k23 => k_is); (case a24 => k_is); (case l24 => k_is); (case c24 => k_is); (case k24 => k_is); (case a25 => k_is); (case l25 => k_is); (case c25 => k_is); (case k25 => k_is); (case a26 => k_is); (case l26 => k_is); (case c26 => k_is); (case k26 => k_is); (case a27 => k_is); (case l27 => k_is); (case c27 => k_is); (case k27 => k_is); (case a28 => k_is); (case l28 => k_is); (case c28 => k_is); (case k28 => k_is); (case a29 => k_is); (case l29 => k_is); (case c29 => k_is); (case k29 => k_is); (case a30 => k_is); (case l30 => k_is); (case c30 => k_is); (case k30 => k_is); (case a31 => k_is); (case l31 => k_is); (case c31 => k_is); (case k31 => k_is); (case a32 => k_is); (case l32 => k_is); (case c32 => k_is); (case k32 => k_is); (case aB => k_is); (case bB1 => k_is); (case bB2 => k_is); (case bB3 => k_is); (case bB4 => k_is); (case bB5 => k_is); (case bB6 => k_is); (case oN => k_is); (case oT => k_is); (case xa0 => k_is); (case xl0 => k_is); (case xm0 => rfl); (case xs0 => k_is); (case xe0 => k_is); (case xt0 => k_is); (case xk0 => k_is); (case xga0 => k_is); (case xgg0 => k_is); (case xhd0 => k_is); (case xat0 => k_is); (case xmo0 => k_is); (case xi0 => k_is); (case xti0 => k_is); (case xli0 => k_is); (case xci0 => k_is); (case xki0 => k_is); (case xsb0 => k_is); (case xfo_0_0 => k_is); (case xa1 => k_is); (case xl1 => k_is); (case xm1 => rfl); (case xs1 => k_is); (case xe1 => k_is); (case xt1 => k_is); (case xk1 => k_is); (case xga1 => k_is); (case xgg1 => k_is); (case xhd1 => k_is); (case xat1 => k_is); (case xmo1 => k_is); (case xi1 => k_is); (case xti1 => k_is); (case xli1 => k_is); (case xci1 => k_is); (case xki1 => k_is); (case xsb1 => k_is); (case xfo_0_1 => k_is); (case xa2 => k_is); (case xl2 => k_is); (case xm2 => rfl); (case xs2 => k_is); (case xe2 => k_is); (case xt2 => k_is); (case xk2 => k_is); (case xga2 => k_is); (case xgg2 => k_is); (case xhd2 => k_is); (case xat2 => k_is); (case xmo2 => k_is); (case xi2 => k_is); (case xti2 => k_is); (case xli2 => k_is); (case xci2 => k_is); (case xki2 => k_is); (case xsb2 => k_is); (case xfo_0_2 => k_is); (case xa3 => k_is); (case xl3 => k_is); (case xm3 => rfl); (case xs3 => k_is); (case xe3 => k_is); (case xt3 => k_is); (case xk3 => k_is); (case xga3 => k_is); (case xgg3 => k_is); (case xhd3 => k_is); (case xat3 => k_is); (case xmo3 => k_is); (case xi3 => k_is); (case xti3 => k_is); (case xli3 => k_is); (case xci3 => k_is); (case xki3 => k_is); (case xsb3 => k_is); (case xfo_0_3 => k_is); (case xa4 => k_is); (case xl4 => k_is); (case xm4 => rfl); (case xs4 => k_is); (case xe4 => k_is); (case xt4 => k_is); (case xk4 => k_is); (case xga4 => k_is); (case xgg4 => k_is); (case xhd4 => k_is); (case xat4 => k_is); (case xmo4 => k_is); (case xi4 => k_is); (case xti4 => k_is); (case xli4 => k_is); (case xci4 => k_is); (case xki4 => k_is); (case xsb4 => k_is); (case xfo_0_4 => k_is); (case xa5 => k_is); (case xl5 => k_is); (case xm5 => rfl); (case xs5 => k_is); (case xe5 => k_is); (case xt5 => k_is); (case xk5 => k_is); (case xga5 => k_is); (case xgg5 => k_is); (case xhd5 => k_is); (case xat5 => k_is); (case xmo5 => k_is); (case xi5 => k_is); (case xti5 => k_is); (case xli5 => k_is); (case xci5 => k_is); (case xki5 => k_is); (case xsb5 => k_is); (case xfo_0_5 => k_is); (case xa6 => k_is); (case xl6 => k_is); (case xm6 => rfl); (case xs6 => k_is); (case xe6 => k_is); (case xt6 => k_is); (case xk6 => k_is); (case xga6 => k_is); (case xgg6 => k_is); (case xhd6 => k_is); (case xat6 => k_is); (case xmo6 => k_is); (case xi6 => k_is); (case xti6 => k_is); (case xli6 => k_is); (case xci6 => k_is); (case xki6 => k_is); (case xsb6 => k_is); (case xfo_0_6 => k_is); (case xa7 => k_is); (case xl7 => k_is); (case xm7 => rfl); (case xs7 => k_is); (case xe7 => k_is); (case xt7 => k_is); (case xk7 => k_is); (case xga7 => k_is); (case xgg7 => k_is); (case xhd7 => k_is); (case xat7 => k_is); (case xmo7 => k_is); (case xi7 => k_is); (case xti7 => k_is); (case xli7 => k_is); (case xci7 => k_is); (case xki7 => k_is); (case xsb7 => k_is); (case xfo_0_7 => k_is); (case xa8 => k_is); (case xl8 => k_is); (case xm8 => rfl); (case xs8 => k_is); (case xe8 => k_is); (case xt8 => k_is); (case xk8 => k_is); (case xga8 => k_is); (case xgg8 => k_is); (case xhd8 => k_is); (case xat8 => k_is); (case xmo8 => k_is); (case xi8 => k_is); (case xti8 => k_is); (case xli8 => k_is); (case xci8 => k_is); (case xki8 => k_is); (case xsb8 => k_is); (case xfo_0_8 => k_is); (case xa9 => k_is); (case xl9 => k_is); (case xm9 => rfl); (case xs9 => k_is); (case xe9 => k_is); (case xt9 => k_is); (case xk9 => k_is); (case xga9 => k_is); (case xgg9 => k_is); (case xhd9 => k_is); (case xat9 => k_is); (case xmo9 => k_is); (case xi9 => k_is); (case xti9 => k_is); (case xli9 => k_is); (case xci9 => k_is); (case xki9 => k_is); (case xsb9 => k_is); (case xfo_0_9 => k_is); (case xfo_1_9 => k_is); (case xa10 => k_is); (case xl10 => k_is); (case xm10 => rfl); (case xs10 => k_is); (case xe10 => k_is); (case xt10 => k_is); (case xk10 => k_is); (case xga10 => k_is); (case xgg10 => k_is); (case xhd10 => k_is); (case xat10 => k_is); (case xmo10 => k_is); (case xi10 => k_is); (case xti10 => k_is); (case xli10 => k_is); (case xci10 => k_is); (case xki10 => k_is); (case xsb10 => k_is); (case xfo_0_10 => k_is); (case xq0_0 => kit_is); (case xq0_2 => kit_is); (case xq0_3 => kit_is); (case xq0_5 => kit_is); (case xq0_6 => kit_is); (case xq0_7 => kit_is); (case xq0_8 => kit_is); (case xq0_9 => kit_is); (case xq0_10 => kit_is); (case xq1_0 => kit_is); (case xq1_2 => kit_is); (case xq1_3 => kit_is); (case xq1_5 => kit_is); (case xq1_6 => kit_is); (case xq1_7 => kit_is); (case xq1_8 => kit_is); (case xq1_9 => kit_is); (case xq1_10 => kit_is); (case xq2_0 => kit_is); (case xq2_2 => kit_is); (case xq2_3 => kit_is); (case xq2_5 => kit_is); (case xq2_6 => kit_is); (case xq2_7 => kit_is); (case xq2_8 => kit_is); (case xq2_9 => kit_is); (case xq2_10 => kit_is); (case xq3_0 => kit_is); (case xq3_2 => kit_is); (case xq3_3 => kit_is); (case xq3_5 => kit_is); (case xq3_6 => kit_is); (case xq3_7 => kit_is); (case xq3_8 => kit_is); (case xq3_9 => kit_is); (case xq3_10 => kit_is); (case xq4_0 => kit_is); (case xq4_2 => kit_is); (case xq4_3 => kit_is); (case xq4_5 => kit_is); (case xq4_6 => kit_is); (case xq4_7 => kit_is); (case xq4_8 => kit_is); (case xq4_9 => kit_is); (case xq4_10 => kit_is); (case xq5_0 => kit_is); (case xq5_2 => kit_is); (case xq5_3 => kit_is); (case xq5_5 => kit_is); (case xq5_6 => kit_is); (case xq5_7 => kit_is); (case xq5_8 => kit_is); (case xq5_9 => kit_is); (case xq5_10 => kit_is); (case xq6_0 => kit_is); (case xq6_2 => kit_is); (case xq6_3 => kit_is); (case xq6_5 => kit_is); (case xq6_6 => kit_is); (case xq6_7 => kit_is); (case xq6_8 => kit_is); (case xq6_9 => kit_is); (case xq6_10 => kit_is); (case xq7_0 => kit_is); (case xq7_2 => kit_is); (case xq7_3 => kit_is); (case xq7_5 => kit_is); (case xq7_6 => kit_is); (case xq7_7 => kit_is); (case xq7_8 => kit_is); (case xq7_9 => kit_is); (case xq7_10 => kit_is); (case xq8_0 => kit_is); (case xq8_2 => kit_is); (case xq8_3 => kit_is); (case xq8_5 => kit_is); (case xq8_6 => kit_is); (case xq8_7 => kit_is); (case xq8_8 => kit_is); (case xq8_9 => kit_is); (case xq8_10 => kit_is); (case xq9_0 => kit_is); (case xq9_2 => kit_is); (case xq9_3 => kit_is); (case xq9_5 => kit_is); (case xq9_6 => kit_is); (case xq9_7 => kit_is); (case xq9_8 => kit_is); (case xq9_9 => kit_is); (case xq9_10 => kit_is); (case xq10_0 => kit_is); (case xq10_2 => kit_is); (case xq10_3 => kit_is); (case xq10_5 => kit_is); (case xq10_6 => kit_is); (case xq10_7 => kit_is); (case xq10_8 => kit_is); (case xq10_9 => kit_is); (case xq10_10 => kit_is); (case z_all => k_is); (case z_bool => k_is); (case z_enumerate => k_is); (case z_int => k_is); (case z_isinstance => k_is); (case z_len => k_is); (case z_list => k_is); (case z_max => k_is); (case z_min => k_is); (case z_range => k_is); (case z_repr => k_is); (case z_sorted => k_is); (case z_str => k_is); (case z_tuple => k_is); (case v_FIGURES => k_is); (case v_LETTERS => k_is); (case v_MOST_LENGTH => k_is); (case v_MOST_PLACES => k_is); (case v_MOST_READ => k_is); (case v_MOST_TIES => k_is)
