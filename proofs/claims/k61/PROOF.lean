import PyProof.Rows.All
import Wide.All
import OpenK.AllK
import Wide.FinOn
import HandS.ForMost
import HandS.Evl
import HandS.EndBits
import HandS.Wide
import HandS.IsInst
import HandS.Flow
import HandS.Walk
import HandS.WideBits
import HandS.Style
import HandS.StrMore
import HandS.ExcInit
import HandS.WordsExc
import HandS.ClsMeth
import HandS.ExcField
import HandS.ExcIs
import HandS.ExcOwn
import KE.KExcIs
import KE.RegKIsAll
import HandS.TryMany
import HandS.TryOnly
import HandS.Dict
import HandS.Small
import HandS.More
import HandS.SortInts
import HandS.SortRule
import HandS.Conv
import HandS.DictTup
import KE.KDictSum
import KE.KDictCopyH
import PyProof.DictUpdate
import HandS.SortKw
import KE.KMinKey
import KE.LtData
import PyProof.ListStr
import KE.KDictPairs
import KE.KDictKeyed
import HandS.FStr
import KE.SortData
import PyProof.P3In
import HandS.Replace
import HandS.Rev
import KE.KDictZip
import HandS.SetKeys
import KE.GoesEnum
import HandS.TupAny
import PySem.Challenge.RW_farmarks_k61_bridges_told
set_option Elab.async false
set_option linter.all false
set_option maxRecDepth 100000
set_option maxHeartbeats 4000000
/-! DL: values as data, slots that own, and the words WE, WT, WS over the readings. -/
namespace DL
open PySem PySem.Spec PyProof.Rows L2
open Evl (Ex)
abbrev St := L2.St

inductive D where
  | non | bl (b : Bool) | int (i : Int) | str (x : Str) | ty (n : String) | ptr (a : Addr)
  | lst (xs : List D) | ro (xs : List D) | tup (xs : List D) | dct (kvs : List (Key × D)) | dcT (kvs : List (List Key × D)) | obj (C : Addr) (fs : List (Str × D))

section
variable (K : PySem.W.Frag) (G : Hp)
mutual
def Rep : D → V → Prop
  | .non, v => v = .non
  | .bl b, v => v = .bl b
  | .int i, v => v = .int i
  | .str x, v => v = .str x
  | .ty n, v => v = .ty n
  | .ptr a, v => v = .ref a
  | .lst ds, v => ∃ a xs, v = .ref a ∧ G a = some (.lst xs) ∧ Reps ds xs
  | .ro ds, v => ∃ a xs, v = .ref a ∧ SqL K G a xs ∧ Reps ds xs
  | .tup ds, v => ∃ a xs, v = .ref a ∧ G a = some (.tup xs) ∧ Reps ds xs
  | .dct kds, v => ∃ a kvs, v = .ref a ∧ Rd G a (.dK kvs) ∧ RepK kds kvs
  | .dcT kds, v => ∃ a kvs, v = .ref a ∧ Rd G a (.dT kvs) ∧ RepT kds kvs
  | .obj C fs, v => ∃ a dx fvs, v = .ref a ∧ G a = some (.ins C dx fvs) ∧ RepF fs fvs
def Reps : List D → List V → Prop
  | [], vs => vs = []
  | d :: ds, vs => ∃ v vr, vs = v :: vr ∧ Rep d v ∧ Reps ds vr
def RepK : List (Key × D) → List (Key × V) → Prop
  | [], vs => vs = []
  | (k, d) :: ds, vs => ∃ v vr, vs = (k, v) :: vr ∧ Rep d v ∧ RepK ds vr
def RepT : List (List Key × D) → List (List Key × V) → Prop
  | [], vs => vs = []
  | (k, d) :: ds, vs => ∃ v vr, vs = (k, v) :: vr ∧ Rep d v ∧ RepT ds vr
def RepF : List (Str × D) → List (Str × V) → Prop
  | [], vs => vs = []
  | (k, d) :: ds, vs => ∃ v vr, vs = (k, v) :: vr ∧ Rep d v ∧ RepF ds vr
end
end
section
variable {K : PySem.W.Frag} {G G' : Hp}
mutual
theorem Rep.mono (e : Ex G G') : ∀ {d : D} {v : V}, Rep K G d v → Rep K G' d v
  | .non, _, h => h
  | .bl _, _, h => h
  | .int _, _, h => h
  | .str _, _, h => h
  | .ty _, _, h => h
  | .ptr _, _, h => h
  | .lst ds, v, h => by
    unfold Rep at h ⊢
    obtain ⟨a, xs, e1, h1, h2⟩ := h
    exact ⟨a, xs, e1, e _ _ h1, Reps.mono e h2⟩
  | .ro ds, v, h => by
    unfold Rep at h ⊢
    obtain ⟨a, xs, e1, h1, h2⟩ := h
    exact ⟨a, xs, e1, Evl.ex_l e h1, Reps.mono e h2⟩
  | .tup ds, v, h => by
    unfold Rep at h ⊢
    obtain ⟨a, xs, e1, h1, h2⟩ := h
    exact ⟨a, xs, e1, e _ _ h1, Reps.mono e h2⟩
  | .dct ds, v, h => by
    unfold Rep at h ⊢
    obtain ⟨a, xs, e1, h1, h2⟩ := h
    exact ⟨a, xs, e1, Evl.ex_rd e h1, RepK.mono e h2⟩
  | .dcT ds, v, h => by
    unfold Rep at h ⊢
    obtain ⟨a, xs, e1, h1, h2⟩ := h
    exact ⟨a, xs, e1, Evl.ex_rd e h1, RepT.mono e h2⟩
  | .obj C fs, v, h => by
    unfold Rep at h ⊢
    obtain ⟨a, dx, xs, e1, h1, h2⟩ := h
    exact ⟨a, dx, xs, e1, e _ _ h1, RepF.mono e h2⟩
theorem Reps.mono (e : Ex G G') : ∀ {ds : List D} {vs : List V}, Reps K G ds vs → Reps K G' ds vs
  | [], _, h => h
  | d :: ds, vs, h => by
    unfold Reps at h ⊢
    obtain ⟨v, vr, e1, h1, h2⟩ := h
    exact ⟨v, vr, e1, Rep.mono e h1, Reps.mono e h2⟩
theorem RepK.mono (e : Ex G G') : ∀ {ds : List (Key × D)} {vs : List (Key × V)}, RepK K G ds vs → RepK K G' ds vs
  | [], _, h => h
  | (k, d) :: ds, vs, h => by
    unfold RepK at h ⊢
    obtain ⟨v, vr, e1, h1, h2⟩ := h
    exact ⟨v, vr, e1, Rep.mono e h1, RepK.mono e h2⟩
theorem RepT.mono (e : Ex G G') : ∀ {ds : List (List Key × D)} {vs : List (List Key × V)}, RepT K G ds vs → RepT K G' ds vs
  | [], _, h => h
  | (k, d) :: ds, vs, h => by
    unfold RepT at h ⊢
    obtain ⟨v, vr, e1, h1, h2⟩ := h
    exact ⟨v, vr, e1, Rep.mono e h1, RepT.mono e h2⟩
theorem RepF.mono (e : Ex G G') : ∀ {ds : List (Str × D)} {vs : List (Str × V)}, RepF K G ds vs → RepF K G' ds vs
  | [], _, h => h
  | (k, d) :: ds, vs, h => by
    unfold RepF at h ⊢
    obtain ⟨v, vr, e1, h1, h2⟩ := h
    exact ⟨v, vr, e1, Rep.mono e h1, RepF.mono e h2⟩
end
theorem reps_length : ∀ {ds : List D} {vs : List V}, Reps K G ds vs → vs.length = ds.length
  | [], vs, h => by unfold Reps at h; subst h; rfl
  | d :: ds, vs, h => by
    unfold Reps at h
    obtain ⟨v, vr, e1, _, h2⟩ := h
    subst e1
    simp [reps_length h2]
theorem reps_get : ∀ {ds : List D} {vs : List V} {i : Nat} {x : D}, Reps K G ds vs → ds[i]? = some x → ∃ v, vs[i]? = some v ∧ Rep K G x v
  | [], vs, i, x, h, e => by simp at e
  | d :: ds, vs, 0, x, h, e => by
    unfold Reps at h
    obtain ⟨v, vr, e1, h1, _⟩ := h
    subst e1
    have e2 : d = x := by simpa using e
    subst e2
    exact ⟨v, rfl, h1⟩
  | d :: ds, vs, i + 1, x, h, e => by
    unfold Reps at h
    obtain ⟨v, vr, e1, _, h2⟩ := h
    subst e1
    obtain ⟨w, h3, h4⟩ := reps_get (i := i) h2 (by simpa using e)
    exact ⟨w, by simpa using h3, h4⟩
theorem reps_getV {ds : List D} {vs : List V} {i : Nat} {v : V} (h : Reps K G ds vs) (e : vs[i]? = some v) : ∃ x, ds[i]? = some x ∧ Rep K G x v := by
  have hl := reps_length h
  have hi : i < vs.length := (List.getElem?_eq_some_iff.mp e).1
  have hd : ds[i]? = some (ds[i]'(by omega)) := List.getElem?_eq_getElem (by omega)
  obtain ⟨w, h1, h2⟩ := reps_get h hd
  rw [e] at h1
  cases h1
  exact ⟨_, hd, h2⟩
theorem reps_append : ∀ {ds es : List D} {vs ws : List V}, Reps K G ds vs → Reps K G es ws → Reps K G (ds ++ es) (vs ++ ws)
  | [], es, vs, ws, h, h' => by unfold Reps at h; subst h; exact h'
  | d :: ds, es, vs, ws, h, h' => by
    unfold Reps at h
    obtain ⟨v, vr, e1, h1, h2⟩ := h
    subst e1
    show Reps K G (d :: (ds ++ es)) (v :: (vr ++ ws))
    unfold Reps
    exact ⟨v, _, rfl, h1, reps_append h2 h'⟩
theorem reps_take : ∀ {ds : List D} {vs : List V} (n : Nat), Reps K G ds vs → Reps K G (ds.take n) (vs.take n)
  | ds, vs, 0, h => by
    show Reps K G [] _
    unfold Reps
    simp
  | [], vs, n + 1, h => by unfold Reps at h; subst h; show Reps K G [] []; unfold Reps; rfl
  | d :: ds, vs, n + 1, h => by
    unfold Reps at h
    obtain ⟨v, vr, e1, h1, h2⟩ := h
    subst e1
    show Reps K G (d :: ds.take n) (v :: vr.take n)
    unfold Reps
    exact ⟨v, _, rfl, h1, reps_take n h2⟩
theorem reps_drop : ∀ {ds : List D} {vs : List V} (n : Nat), Reps K G ds vs → Reps K G (ds.drop n) (vs.drop n)
  | ds, vs, 0, h => h
  | [], vs, n + 1, h => by unfold Reps at h; subst h; show Reps K G [] []; unfold Reps; rfl
  | d :: ds, vs, n + 1, h => by
    unfold Reps at h
    obtain ⟨v, vr, e1, h1, h2⟩ := h
    subst e1
    exact reps_drop n h2
theorem reps_set : ∀ {ds : List D} {vs : List V} {x : D} {v : V} (i : Nat), Reps K G ds vs → Rep K G x v → Reps K G (ds.set i x) (vs.set i v)
  | [], vs, x, v, i, h, _ => by unfold Reps at h; subst h; show Reps K G [] []; unfold Reps; rfl
  | d :: ds, vs, x, v, 0, h, hx => by
    unfold Reps at h
    obtain ⟨w, vr, e1, h1, h2⟩ := h
    subst e1
    show Reps K G (x :: ds) (v :: vr)
    unfold Reps
    exact ⟨v, _, rfl, hx, h2⟩
  | d :: ds, vs, x, v, i + 1, h, hx => by
    unfold Reps at h
    obtain ⟨w, vr, e1, h1, h2⟩ := h
    subst e1
    show Reps K G (d :: ds.set i x) (w :: vr.set i v)
    unfold Reps
    exact ⟨w, _, rfl, h1, reps_set i h2 hx⟩
theorem reps_one {x : D} {v : V} (h : Rep K G x v) : Reps K G [x] [v] := by
  unfold Reps
  exact ⟨v, [], rfl, h, by unfold Reps; rfl⟩
theorem reps_nil : Reps K G [] [] := by unfold Reps; rfl
theorem reps_cons {x : D} {v : V} {ds : List D} {vs : List V} (h : Rep K G x v) (h' : Reps K G ds vs) : Reps K G (x :: ds) (v :: vs) := by
  unfold Reps
  exact ⟨v, vs, rfl, h, h'⟩
theorem reps_rev : ∀ {ds : List D} {vs : List V}, Reps K G ds vs → Reps K G ds.reverse vs.reverse
  | [], vs, h => by unfold Reps at h; subst h; exact reps_nil
  | d :: ds, vs, h => by
    unfold Reps at h
    obtain ⟨w, vr, e1, h1, h2⟩ := h
    subst e1
    rw [List.reverse_cons, List.reverse_cons]
    exact reps_append (reps_rev h2) (reps_one h1)
end

/-! ### slots -/
/-- deep: an own object, and own objects gs that are reached through its content -/
inductive Sl where
  | no | d (x : D) | own (a : Addr) (x : D) | deep (a : Addr) (x : D) (gs : List (Addr × D))
/-- what an expression hands on: data, a new object of one's own, a slot's own object -/
inductive R where
  | d (x : D) | own (a : Addr) (x : D) | deep (a : Addr) (x : D) (gs : List (Addr × D)) | bor (i : Nat) (a : Addr)
def owned : List Sl → List Addr
  | [] => []
  | .own a _ :: r => a :: owned r
  | .deep a _ gs :: r => a :: (gs.map Prod.fst ++ owned r)
  | _ :: r => owned r
/-- a slot's own addresses -/
def ads : Sl → List Addr
  | .own a _ => [a]
  | .deep a _ gs => a :: gs.map Prod.fst
  | _ => []
theorem owned_cons (s : Sl) (δ : List Sl) : owned (s :: δ) = ads s ++ owned δ := by cases s <;> rfl
def OwnR (K : PySem.W.Frag) (G H : Hp) (a : Addr) : D → Prop
  | .lst ds => ∃ xs, H a = some (.lst xs) ∧ Reps K G ds xs
  | .dct ds => ∃ xs, H a = some (.dK xs) ∧ RepK K G ds xs
  | .dcT ds => ∃ xs, H a = some (.dT xs) ∧ RepT K G ds xs
  | .obj C fs => ∃ dx xs, H a = some (.ins C dx xs) ∧ RepF K G fs xs
  | _ => False
def OwnG (K : PySem.W.Frag) (G H : Hp) (gs : List (Addr × D)) : Prop := ∀ q ∈ gs, OwnR K G H q.1 q.2
def SlR (K : PySem.W.Frag) (G H : Hp) : Sl → Option V → Prop
  | .no, _ => True
  | .d x, ov => ∃ v, ov = some v ∧ Rep K G x v
  | .own a x, ov => ov = some (.ref a) ∧ OwnR K G H a x
  | .deep a x gs, ov => ov = some (.ref a) ∧ OwnR K G H a x ∧ OwnG K G H gs
def SlsR (K : PySem.W.Frag) (G H : Hp) : List Sl → St → Prop
  | [], σ => σ = []
  | s :: δ, σ => ∃ ov σr, σ = ov :: σr ∧ SlR K G H s ov ∧ SlsR K G H δ σr
/-- one of them knows nothing of the address, or a tuple stands there: it never changes -/
abbrev AptV (x y : Option HO) : Prop := x = none ∨ y = none ∨ ∃ xs, y = some (.tup xs)
structure Frame (K : PySem.W.Frag) (B G H : Hp) (σ : St) (δ : List Sl) : Prop where
  exB : Ex B H
  exG : Ex G H
  dis : ∀ b, AptV (B b) (G b)
  sl : SlsR K G H δ σ
  own : ∀ a ∈ owned δ, B a = none ∧ G a = none
  nd : (owned δ).Nodup
/-- the data that stands behind a thing -/
def view (δ : List Sl) : R → Option D
  | .d x => some x
  | .own _ x => some x
  | .deep _ _ _ => none
  | .bor i a => match δ[i]? with
    | some (.own b x) => if a = b then some x else none
    | some (.deep b x gs) => if a = b then some x else gs.lookup a
    | _ => none
def RV (K : PySem.W.Frag) (B G H : Hp) (δ : List Sl) : R → V → Prop
  | .d x, v => Rep K G x v
  | .own a x, v => v = .ref a ∧ OwnR K G H a x ∧ B a = none ∧ G a = none ∧ a ∉ owned δ
  | .deep a x gs, v => v = .ref a ∧ OwnR K G H a x ∧ OwnG K G H gs ∧ (∀ b ∈ a :: gs.map Prod.fst, B b = none ∧ G b = none ∧ b ∉ owned δ) ∧ (a :: gs.map Prod.fst).Nodup
  | .bor i a, v => v = .ref a ∧ ∃ x, view δ (.bor i a) = some x

section
variable {K : PySem.W.Frag} {B G G' H H' : Hp} {σ : St} {δ : List Sl}
theorem OwnR.mono {a : Addr} {x : D} (eG : Ex G G') (h : OwnR K G H a x) (hH : H' a = H a) : OwnR K G' H' a x := by
  cases x with
  | lst ds => obtain ⟨xs, h1, h2⟩ := h; exact ⟨xs, hH.trans h1, h2.mono eG⟩
  | dct ds => obtain ⟨xs, h1, h2⟩ := h; exact ⟨xs, hH.trans h1, h2.mono eG⟩
  | dcT ds => obtain ⟨xs, h1, h2⟩ := h; exact ⟨xs, hH.trans h1, h2.mono eG⟩
  | obj C ds => obtain ⟨dx, xs, h1, h2⟩ := h; exact ⟨dx, xs, hH.trans h1, h2.mono eG⟩
  | _ => exact h.elim
theorem OwnR.there {a : Addr} {x : D} (h : OwnR K G H a x) : ∃ o, H a = some o := by
  cases x with
  | lst ds => obtain ⟨xs, h1, h2⟩ := h; exact ⟨_, h1⟩
  | dct ds => obtain ⟨xs, h1, h2⟩ := h; exact ⟨_, h1⟩
  | dcT ds => obtain ⟨xs, h1, h2⟩ := h; exact ⟨_, h1⟩
  | obj C ds => obtain ⟨dx, xs, h1, h2⟩ := h; exact ⟨_, h1⟩
  | _ => exact h.elim
theorem OwnR.ex {a : Addr} {x : D} (eG : Ex G G') (eH : Ex H H') (h : OwnR K G H a x) : OwnR K G' H' a x := by
  obtain ⟨o, ho⟩ := h.there
  exact h.mono eG ((eH _ _ ho).trans ho.symm)
theorem OwnG.mono {gs : List (Addr × D)} (eG : Ex G G') (h : OwnG K G H gs) (hH : ∀ b ∈ gs.map Prod.fst, H' b = H b) : OwnG K G' H' gs :=
  fun q hq => (h q hq).mono eG (hH _ (List.mem_map_of_mem hq))
theorem OwnG.there {gs : List (Addr × D)} {b : Addr} (h : OwnG K G H gs) (hb : b ∈ gs.map Prod.fst) : ∃ o, H b = some o := by
  obtain ⟨q, hq, e⟩ := List.mem_map.mp hb
  subst e
  exact (h q hq).there
theorem OwnG.ex {gs : List (Addr × D)} (eG : Ex G G') (eH : Ex H H') (h : OwnG K G H gs) : OwnG K G' H' gs := fun q hq => (h q hq).ex eG eH
theorem OwnG.get {gs : List (Addr × D)} {b : Addr} {y : D} (h : OwnG K G H gs) (e : gs.lookup b = some y) : OwnR K G H b y := by
  induction gs with
  | nil => simp at e
  | cons q gs ih =>
    obtain ⟨c, z⟩ := q
    rw [List.lookup_cons] at e
    by_cases hc : b = c
    · subst hc
      simp at e
      subst e
      exact h _ List.mem_cons_self
    · have hc' : (b == c) = false := by simp [hc]
      rw [hc'] at e
      exact ih (fun q hq => h q (List.mem_cons_of_mem _ hq)) e
theorem SlR.ex {s : Sl} {ov : Option V} (eG : Ex G G') (eH : ∀ a ∈ ads s, H' a = H a) (h : SlR K G H s ov) : SlR K G' H' s ov := by
  cases s with
  | no => trivial
  | d x => obtain ⟨v, e, r⟩ := h; exact ⟨v, e, r.mono eG⟩
  | own a x => obtain ⟨e, r⟩ := h; exact ⟨e, r.mono eG (eH a (List.mem_singleton.mpr rfl))⟩
  | deep a x gs => obtain ⟨e, r, g⟩ := h; exact ⟨e, r.mono eG (eH a List.mem_cons_self), g.mono eG fun b hb => eH b (List.mem_cons_of_mem _ hb)⟩
theorem SlR.there {s : Sl} {ov : Option V} {a : Addr} (h : SlR K G H s ov) (ha : a ∈ ads s) : ∃ o, H a = some o := by
  cases s with
  | no => cases ha
  | d x => cases ha
  | own b x => cases List.mem_singleton.mp ha; exact h.2.there
  | deep b x gs =>
    rcases List.mem_cons.mp ha with q | q
    · subst q; exact h.2.1.there
    · exact h.2.2.there q
theorem SlsR.ex : ∀ {δ : List Sl} {σ : St}, Ex G G' → (∀ a ∈ owned δ, H' a = H a) → SlsR K G H δ σ → SlsR K G' H' δ σ
  | [], σ, _, _, h => h
  | s :: δ, σ, eG, eH, h => by
    obtain ⟨ov, σr, e, h1, h2⟩ := h
    rw [owned_cons] at eH
    exact ⟨ov, σr, e, h1.ex eG fun a ha => eH a (List.mem_append_left _ ha), SlsR.ex eG (fun a ha => eH a (List.mem_append_right _ ha)) h2⟩
theorem SlsR.len : ∀ {δ : List Sl} {σ : St}, SlsR K G H δ σ → σ.length = δ.length
  | [], σ, h => by
    have e : σ = [] := h
    subst e
    rfl
  | s :: δ, σ, h => by
    obtain ⟨ov, σr, e, h1, h2⟩ := h
    subst e
    simp [SlsR.len h2]
theorem SlsR.get : ∀ {δ : List Sl} {σ : St} {i : Nat} {s : Sl}, SlsR K G H δ σ → δ[i]? = some s → ∃ ov, σ[i]? = some ov ∧ SlR K G H s ov
  | [], σ, i, s, h, e => by simp at e
  | t :: δ, σ, 0, s, h, e => by
    obtain ⟨ov, σr, e1, h1, h2⟩ := h
    subst e1
    have e2 : t = s := by simpa using e
    subst e2
    exact ⟨ov, rfl, h1⟩
  | t :: δ, σ, i + 1, s, h, e => by
    obtain ⟨ov, σr, e1, h1, h2⟩ := h
    subst e1
    obtain ⟨w, h3, h4⟩ := SlsR.get (i := i) h2 (by simpa using e)
    exact ⟨w, by simpa using h3, h4⟩
theorem SlsR.set : ∀ {δ : List Sl} {σ : St} {s : Sl} {ov : Option V} (i : Nat), SlsR K G H δ σ → SlR K G H s ov → SlsR K G H (δ.set i s) (σ.set i ov)
  | [], σ, s, ov, i, h, _ => by
    have e : σ = [] := h
    subst e
    exact (rfl : ([] : St) = [])
  | t :: δ, σ, s, ov, 0, h, hs => by
    obtain ⟨w, σr, e1, h1, h2⟩ := h
    subst e1
    exact ⟨ov, σr, rfl, hs, h2⟩
  | t :: δ, σ, s, ov, i + 1, h, hs => by
    obtain ⟨w, σr, e1, h1, h2⟩ := h
    subst e1
    exact ⟨w, _, rfl, h1, SlsR.set i h2 hs⟩
/-- a slot's word alone is changed -/
theorem SlsR.setS : ∀ {δ : List Sl} {σ : St} {s : Sl} {ov : Option V} (i : Nat), SlsR K G H δ σ → (∀ ov, σ[i]? = some ov → SlR K G H s ov) → SlsR K G H (δ.set i s) σ
  | [], σ, s, ov, i, h, _ => h
  | t :: δ, σ, s, ov, 0, h, hs => by
    obtain ⟨w, σr, e1, h1, h2⟩ := h
    subst e1
    exact ⟨w, σr, rfl, hs w rfl, h2⟩
  | t :: δ, σ, s, ov, i + 1, h, hs => by
    obtain ⟨w, σr, e1, h1, h2⟩ := h
    subst e1
    exact ⟨w, _, rfl, h1, SlsR.setS (ov := ov) i h2 fun ov e => hs ov (by simpa using e)⟩
theorem owned_getA : ∀ {δ : List Sl} {i : Nat} {s : Sl} {a : Addr}, δ[i]? = some s → a ∈ ads s → a ∈ owned δ
  | [], i, s, a, e, _ => by simp at e
  | t :: δ, 0, s, a, e, h => by
    have e2 : t = s := by simpa using e
    subst e2
    rw [owned_cons]
    exact List.mem_append_left _ h
  | t :: δ, i + 1, s, a, e, h => by
    rw [owned_cons]
    exact List.mem_append_right _ (owned_getA (δ := δ) (i := i) (by simpa using e) h)
theorem owned_get {δ : List Sl} {i : Nat} {a : Addr} {x : D} (e : δ[i]? = some (.own a x)) : a ∈ owned δ := owned_getA e (List.mem_singleton.mpr rfl)
theorem owned_set_no : ∀ {δ : List Sl} {i : Nat} {s : Sl}, ads s = [] → (owned (δ.set i s)).Sublist (owned δ)
  | [], i, s, _ => List.Sublist.refl _
  | t :: δ, 0, s, h => by
    show (owned (s :: δ)).Sublist _
    rw [owned_cons, owned_cons, h, List.nil_append]
    exact List.sublist_append_right _ _
  | t :: δ, i + 1, s, h => by
    show (owned (t :: δ.set i s)).Sublist _
    rw [owned_cons, owned_cons]
    exact (List.Sublist.refl _).append (owned_set_no (δ := δ) (i := i) h)
theorem owned_set_in : ∀ {δ : List Sl} {i : Nat} {s : Sl} {b : Addr}, b ∈ owned (δ.set i s) → b ∈ ads s ∨ b ∈ owned δ
  | [], i, s, b, h => .inr h
  | t :: δ, 0, s, b, h => by
    have h' : b ∈ owned (s :: δ) := h
    rw [owned_cons] at h' ⊢
    rcases List.mem_append.mp h' with e | e
    · exact .inl e
    · exact .inr (List.mem_append_right _ e)
  | t :: δ, i + 1, s, b, h => by
    have h' : b ∈ owned (t :: δ.set i s) := h
    rw [owned_cons] at h' ⊢
    rcases List.mem_append.mp h' with e | e
    · exact .inr (List.mem_append_left _ e)
    · rcases owned_set_in (δ := δ) (i := i) e with e | e
      · exact .inl e
      · exact .inr (List.mem_append_right _ e)
theorem owned_set_own {δ : List Sl} {i : Nat} {a b : Addr} {x : D} (h : b ∈ owned (δ.set i (.own a x))) : b = a ∨ b ∈ owned δ :=
  (owned_set_in h).imp List.mem_singleton.mp id
theorem nodup_set : ∀ {δ : List Sl} {i : Nat} {s : Sl}, (owned δ).Nodup → (ads s).Nodup → (∀ b ∈ ads s, b ∉ owned δ) → (owned (δ.set i s)).Nodup
  | [], i, s, h, _, _ => h
  | t :: δ, 0, s, h, hs, hn => by
    show (owned (s :: δ)).Nodup
    rw [owned_cons] at h ⊢
    rw [owned_cons] at hn
    exact List.nodup_append.mpr ⟨hs, (List.nodup_append.mp h).2.1, fun a ha b hb e => hn a ha (by rw [e]; exact List.mem_append_right _ hb)⟩
  | t :: δ, i + 1, s, h, hs, hn => by
    show (owned (t :: δ.set i s)).Nodup
    rw [owned_cons] at h ⊢
    rw [owned_cons] at hn
    have h' := List.nodup_append.mp h
    refine List.nodup_append.mpr ⟨h'.1, nodup_set (δ := δ) (i := i) h'.2.1 hs fun b hb z => hn b hb (List.mem_append_right _ z), fun a ha b hb e => ?_⟩
    rcases owned_set_in hb with q | q
    · exact hn b q (by rw [← e]; exact List.mem_append_left _ ha)
    · exact h'.2.2 a ha b q e
theorem nodup_set_own {δ : List Sl} {i : Nat} {a : Addr} {x : D} (h : (owned δ).Nodup) (hn : a ∉ owned δ) : (owned (δ.set i (.own a x))).Nodup :=
  nodup_set h (show [a].Nodup by simp) fun b hb => by rw [List.mem_singleton.mp hb]; exact hn
/-- the owned of a list where an owned object's content alone is told otherwise -/
theorem owned_set_sameA : ∀ {δ : List Sl} {i : Nat} {s t : Sl}, δ[i]? = some s → ads t = ads s → owned (δ.set i t) = owned δ
  | [], i, s, t, h, _ => by simp at h
  | u :: δ, 0, s, t, h, e => by
    have e2 : u = s := by simpa using h
    subst e2
    show owned (t :: δ) = _
    rw [owned_cons, owned_cons, e]
  | u :: δ, i + 1, s, t, h, e => by
    show owned (u :: δ.set i t) = _
    rw [owned_cons, owned_cons, owned_set_sameA (δ := δ) (i := i) (by simpa using h) e]
theorem owned_set_same {δ : List Sl} {i : Nat} {a : Addr} {x y : D} (h : δ[i]? = some (.own a x)) : owned (δ.set i (.own a y)) = owned δ := owned_set_sameA h rfl
theorem owned_append : ∀ {δ ε : List Sl}, owned (δ ++ ε) = owned δ ++ owned ε
  | [], ε => rfl
  | s :: δ, ε => by
    show owned (s :: (δ ++ ε)) = _
    rw [owned_cons, owned_cons, owned_append (δ := δ) (ε := ε), List.append_assoc]
theorem owned_no (n : Nat) : owned (List.replicate n .no) = [] := by
  induction n with
  | zero => rfl
  | succ n ih => exact ih
theorem SlsR.append : ∀ {δ ε : List Sl} {σ τ : St}, SlsR K G H δ σ → SlsR K G H ε τ → SlsR K G H (δ ++ ε) (σ ++ τ)
  | [], ε, σ, τ, h, h' => by
    have e : σ = [] := h
    subst e
    exact h'
  | s :: δ, ε, σ, τ, h, h' => by
    obtain ⟨ov, σr, e, h1, h2⟩ := h
    subst e
    exact ⟨ov, _, rfl, h1, SlsR.append h2 h'⟩
theorem SlsR.nos : ∀ (σ : St), SlsR K G H (List.replicate σ.length .no) σ
  | [] => rfl
  | ov :: σ => ⟨ov, σ, rfl, trivial, SlsR.nos σ⟩
/-! Frame's turns -/
theorem Frame.there (F : Frame K B G H σ δ) {a : Addr} (ha : a ∈ owned δ) : ∃ o, H a = some o := by
  have there : ∀ {δ : List Sl} {σ : St}, SlsR K G H δ σ → a ∈ owned δ → ∃ o, H a = some o := by
    intro δ
    induction δ with
    | nil => intro σ _ z; cases z
    | cons s δ ih =>
      intro σ h z
      obtain ⟨ov, σr, e, h1, h2⟩ := h
      rw [owned_cons] at z
      rcases List.mem_append.mp z with q | q
      · exact h1.there q
      · exact ih h2 q
  exact there F.sl ha
theorem Frame.ex (F : Frame K B G H σ δ) (e : Ex H H') : Frame K B G H' σ δ := by
  refine ⟨F.exB.trans e, F.exG.trans e, F.dis, F.sl.ex (Ex.refl G) (fun a ha => ?_), F.own, F.nd⟩
  obtain ⟨o, ho⟩ := F.there ha
  exact (e _ _ ho).trans ho.symm
theorem Frame.disN (F : Frame K B G H σ δ) {b : Addr} {o : HO} (h : B b = some o) (n : ∀ xs, o ≠ .tup xs) : G b = none := by
  rcases F.dis b with q | q | ⟨xs, q⟩
  · rw [h] at q; cases q
  · exact q
  · have h1 := F.exB b o h
    have h2 := F.exG b _ q
    rw [h1] at h2
    cases h2
    exact absurd rfl (n xs)
theorem OwnR.obj {a : Addr} {x : D} (h : OwnR K G H a x) : ∃ o, H a = some o ∧ ∀ xs, o ≠ .tup xs := by
  cases x with
  | lst ds => obtain ⟨xs, h1, h2⟩ := h; exact ⟨_, h1, fun _ z => nomatch z⟩
  | dct ds => obtain ⟨xs, h1, h2⟩ := h; exact ⟨_, h1, fun _ z => nomatch z⟩
  | dcT ds => obtain ⟨xs, h1, h2⟩ := h; exact ⟨_, h1, fun _ z => nomatch z⟩
  | obj C ds => obtain ⟨dx, xs, h1, h2⟩ := h; exact ⟨_, h1, fun _ z => nomatch z⟩
  | _ => exact h.elim
theorem SlR.obj {s : Sl} {ov : Option V} {a : Addr} (h : SlR K G H s ov) (ha : a ∈ ads s) : ∃ o, H a = some o ∧ ∀ xs, o ≠ .tup xs := by
  cases s with
  | no => cases ha
  | d x => cases ha
  | own b x => cases List.mem_singleton.mp ha; exact h.2.obj
  | deep b x gs =>
    rcases List.mem_cons.mp ha with q | q
    · subst q; exact h.2.1.obj
    · obtain ⟨w, hw, e⟩ := List.mem_map.mp q
      subst e
      exact (h.2.2 w hw).obj
theorem Frame.obj (F : Frame K B G H σ δ) {a : Addr} (ha : a ∈ owned δ) : ∃ o, H a = some o ∧ ∀ xs, o ≠ .tup xs := by
  have there : ∀ {δ : List Sl} {σ : St}, SlsR K G H δ σ → a ∈ owned δ → ∃ o, H a = some o ∧ ∀ xs, o ≠ .tup xs := by
    intro δ
    induction δ with
    | nil => intro σ _ z; cases z
    | cons s δ ih =>
      intro σ h z
      obtain ⟨ov, σr, e, h1, h2⟩ := h
      rw [owned_cons] at z
      rcases List.mem_append.mp z with q | q
      · exact h1.obj q
      · exact ih h2 q
  exact there F.sl ha
/-- frozen things more -/
theorem Frame.more (F : Frame K B G H σ δ) (eG : Ex G G') (eH : Ex G' H) (dis : ∀ b, AptV (B b) (G' b)) (hn : ∀ a ∈ owned δ, G' a = none) : Frame K B G' H σ δ :=
  ⟨F.exB, eH, dis, F.sl.ex eG (fun _ _ => rfl), fun a ha => ⟨(F.own a ha).1, hn a ha⟩, F.nd⟩
/-- a new frozen object p -/
theorem Frame.fresh (F : Frame K B G H σ δ) {p : Addr} (hp : H p = none) : B p = none ∧ G p = none ∧ p ∉ owned δ := by
  refine ⟨Evl.fresh_back F.exB hp, Evl.fresh_back F.exG hp, fun z => ?_⟩
  obtain ⟨o, ho⟩ := F.there z
  rw [ho] at hp
  cases hp
theorem Frame.laid (F : Frame K B G H σ δ) {p : Addr} {o : HO} (hp : H p = none) : Frame K B (upd G p o) (upd H p o) σ δ := by
  obtain ⟨h1, h2, h3⟩ := F.fresh hp
  refine (F.ex (Ex.new hp)).more (Ex.new h2) (fun a u e => ?_) (fun b => ?_) (fun a ha => ?_)
  · by_cases hb : a = p
    · subst hb; rw [upd_same] at e ⊢; exact e
    · rw [upd_ne hb] at e ⊢; exact F.exG _ _ e
  · by_cases hb : b = p
    · subst hb; exact .inl h1
    · rw [upd_ne hb]; exact F.dis b
  · rw [upd_ne (fun z => h3 (by rw [← z]; exact ha))]
    exact (F.own a ha).2
/-- tuples that stand there are told as frozen -/
theorem Frame.tups (F : Frame K B G H σ δ) (L : List Addr) (hL : ∀ b ∈ L, ∃ xs, H b = some (.tup xs)) : ∃ G1, Ex G G1 ∧ (∀ b ∈ L, G1 b = H b) ∧ Frame K B G1 H σ δ := by
  classical
  let G1 : Hp := fun b => if b ∈ L then H b else G b
  have g1 : ∀ b, b ∈ L → G1 b = H b := fun b hb => if_pos hb
  have g2 : ∀ b, b ∉ L → G1 b = G b := fun b hb => if_neg hb
  have eG : Ex G G1 := fun b o h => by
    by_cases hb : b ∈ L
    · rw [g1 b hb]; exact F.exG b o h
    · rw [g2 b hb]; exact h
  refine ⟨G1, eG, g1, F.more eG (fun b o h => ?_) (fun b => ?_) fun a ha => ?_⟩
  · by_cases hb : b ∈ L
    · rw [g1 b hb] at h; exact h
    · rw [g2 b hb] at h; exact F.exG b o h
  · by_cases hb : b ∈ L
    · obtain ⟨xs, hx⟩ := hL b hb
      exact .inr (.inr ⟨xs, (g1 b hb).trans hx⟩)
    · rw [g2 b hb]; exact F.dis b
  · have hn : a ∉ L := fun hb => by
      obtain ⟨xs, hx⟩ := hL a hb
      obtain ⟨o, ho, n⟩ := F.obj ha
      rw [hx] at ho
      cases ho
      exact n xs rfl
    rw [g2 a hn]
    exact (F.own a ha).2
/-- an object of one's own is told as frozen -/
theorem Frame.freeze (F : Frame K B G H σ δ) {a : Addr} {o : HO} (ha : H a = some o) (hB : B a = none) (hG : G a = none) (hn : a ∉ owned δ) : Frame K B (upd G a o) H σ δ := by
  refine F.more (Ex.new hG) (fun b u e => ?_) (fun b => ?_) (fun b hb => ?_)
  · by_cases q : b = a
    · subst q; rw [upd_same] at e; rw [ha]; exact e
    · rw [upd_ne q] at e; exact F.exG _ _ e
  · by_cases q : b = a
    · subst q; exact .inl hB
    · rw [upd_ne q]; exact F.dis b
  · rw [upd_ne (fun z => hn (by rw [← z]; exact hb))]
    exact (F.own b hb).2
theorem OwnR.rep {a : Addr} {x : D} {o : HO} (h : OwnR K G H a x) (ho : H a = some o) (hG : G a = none) : Rep K (upd G a o) x (.ref a) := by
  cases x with
  | lst ds =>
    obtain ⟨xs, h1, h2⟩ := h
    rw [ho] at h1
    cases h1
    unfold Rep
    exact ⟨a, xs, rfl, upd_same, h2.mono (Ex.new hG)⟩
  | dct ds =>
    obtain ⟨xs, h1, h2⟩ := h
    rw [ho] at h1
    cases h1
    unfold Rep
    exact ⟨a, xs, rfl, Rd.of upd_same, h2.mono (Ex.new hG)⟩
  | dcT ds =>
    obtain ⟨xs, h1, h2⟩ := h
    rw [ho] at h1
    cases h1
    unfold Rep
    exact ⟨a, xs, rfl, Rd.of upd_same, h2.mono (Ex.new hG)⟩
  | obj C ds =>
    obtain ⟨dx, xs, h1, h2⟩ := h
    rw [ho] at h1
    cases h1
    unfold Rep
    exact ⟨a, dx, xs, rfl, upd_same, h2.mono (Ex.new hG)⟩
  | _ => exact h.elim
/-- what is told of a thing's content: at H, its items frozen in G -/
theorem OwnR.repH {a : Addr} {x : D} (eG : Ex G H) (h : OwnR K G H a x) : Rep K H x (.ref a) := by
  cases x with
  | lst ds =>
    obtain ⟨xs, h1, h2⟩ := h
    unfold Rep
    exact ⟨a, xs, rfl, h1, h2.mono eG⟩
  | dct ds =>
    obtain ⟨xs, h1, h2⟩ := h
    unfold Rep
    exact ⟨a, xs, rfl, Rd.of h1, h2.mono eG⟩
  | dcT ds =>
    obtain ⟨xs, h1, h2⟩ := h
    unfold Rep
    exact ⟨a, xs, rfl, Rd.of h1, h2.mono eG⟩
  | obj C ds =>
    obtain ⟨dx, xs, h1, h2⟩ := h
    unfold Rep
    exact ⟨a, dx, xs, rfl, h1, h2.mono eG⟩
  | _ => exact h.elim
theorem Frame.get (F : Frame K B G H σ δ) {i : Nat} {s : Sl} (e : δ[i]? = some s) : ∃ ov, σ[i]? = some ov ∧ SlR K G H s ov := F.sl.get e
theorem view_bor {i : Nat} {a : Addr} {y : D} (h : δ[i]? = some (.own a y)) : view δ (.bor i a) = some y := by simp [view, h]
theorem view_deep {i : Nat} {a : Addr} {y : D} {gs : List (Addr × D)} (h : δ[i]? = some (.deep a y gs)) : view δ (.bor i a) = some y := by simp [view, h]
/-- a slot's own object, or one behind it -/
theorem view_own (F : Frame K B G H σ δ) {i : Nat} {a : Addr} {y : D} (h : view δ (.bor i a) = some y) : OwnR K G H a y ∧ a ∈ owned δ := by
  unfold view at h
  simp only at h
  split at h
  · rename_i b x e
    split at h
    · rename_i q
      subst q
      cases h
      obtain ⟨ov, _, h3⟩ := F.get e
      exact ⟨h3.2, owned_get e⟩
    · cases h
  · rename_i b x gs e
    obtain ⟨ov, _, _, h3, h4⟩ := F.get e
    split at h
    · rename_i q
      subst q
      cases h
      exact ⟨h3, owned_getA e List.mem_cons_self⟩
    · refine ⟨h4.get h, owned_getA e (List.mem_cons_of_mem _ ?_)⟩
      clear h3 h4 e
      induction gs with
      | nil => simp at h
      | cons q gs ih =>
        obtain ⟨c, z⟩ := q
        rw [List.lookup_cons] at h
        by_cases hc : a = c
        · subst hc; exact List.mem_cons_self
        · have hc' : (a == c) = false := by simp [hc]
          rw [hc'] at h
          exact List.mem_cons_of_mem _ (ih h)
  · cases h
/-- a thing as an operand: a new object is frozen -/
def frz : R → R
  | .own _ x => .d x
  | r => r
def RW (K : PySem.W.Frag) (G : Hp) : R → V → Prop
  | .d x, v => Rep K G x v
  | .own _ _, _ => False
  | .deep _ _ _, _ => True
  | .bor _ a, v => v = .ref a
theorem RW.mono {r : R} {v : V} (e : Ex G G') (h : RW K G r v) : RW K G' r v := by
  cases r with
  | d x => exact Rep.mono e h
  | own a x => exact h
  | deep a x gs => trivial
  | bor i a => exact h
theorem view_repH (F : Frame K B G H σ δ) {r : R} {v : V} {x : D} (h : RW K G r v) (e : view δ r = some x) : Rep K H x v := by
  cases r with
  | d y =>
    have e' : y = x := Option.some.inj e
    subst e'
    exact Rep.mono F.exG h
  | own a y => exact h.elim
  | deep a y gs => cases e
  | bor i a =>
    have e1 : v = .ref a := h
    subst e1
    exact (view_own F e).1.repH F.exG
/-- a list (tuple) that is read: its items are frozen -/
theorem view_lstH (F : Frame K B G H σ δ) {r : R} {v : V} {ds : List D} (h : RW K G r v) (e : view δ r = some (.lst ds)) : ∃ a xs, v = .ref a ∧ H a = some (.lst xs) ∧ Reps K G ds xs := by
  cases r with
  | d y =>
    have e' : y = .lst ds := Option.some.inj e
    subst e'
    have h' : Rep K G (.lst ds) v := h
    unfold Rep at h'
    obtain ⟨a, xs, e1, h1, h2⟩ := h'
    exact ⟨a, xs, e1, F.exG _ _ h1, h2⟩
  | own a y => exact h.elim
  | deep a y gs => cases e
  | bor i a =>
    have e1 : v = .ref a := h
    obtain ⟨xs, h3, h4⟩ := (view_own F e).1
    exact ⟨a, xs, e1, h3, h4⟩
theorem view_lst (F : Frame K B G H σ δ) {r : R} {v : V} {ds : List D} (h : RW K G r v) (e : view δ r = some (.lst ds)) : ∃ a xs, v = .ref a ∧ Rd H a (.lst xs) ∧ Reps K G ds xs := by
  obtain ⟨a, xs, e1, h1, h2⟩ := view_lstH F h e
  exact ⟨a, xs, e1, Rd.of h1, h2⟩
theorem view_ro (F : Frame K B G H σ δ) {r : R} {v : V} {ds : List D} (h : RW K G r v) (e : view δ r = some (.ro ds)) : ∃ a xs, v = .ref a ∧ SqL K H a xs ∧ Reps K G ds xs := by
  cases r with
  | d y =>
    have e' : y = .ro ds := Option.some.inj e
    subst e'
    have h' : Rep K G (.ro ds) v := h
    unfold Rep at h'
    obtain ⟨a, xs, e1, h1, h2⟩ := h'
    exact ⟨a, xs, e1, Evl.ex_l F.exG h1, h2⟩
  | own a y => exact h.elim
  | deep a y gs => cases e
  | bor i a => exact (view_own F e).1.elim
theorem view_tupH (F : Frame K B G H σ δ) {r : R} {v : V} {ds : List D} (h : RW K G r v) (e : view δ r = some (.tup ds)) : ∃ a xs, v = .ref a ∧ H a = some (.tup xs) ∧ Reps K G ds xs := by
  cases r with
  | d y =>
    have e' : y = .tup ds := Option.some.inj e
    subst e'
    have h' : Rep K G (.tup ds) v := h
    unfold Rep at h'
    obtain ⟨a, xs, e1, h1, h2⟩ := h'
    exact ⟨a, xs, e1, F.exG _ _ h1, h2⟩
  | own a y => exact h.elim
  | deep a y gs => cases e
  | bor i a => exact (view_own F e).1.elim
theorem view_tup (F : Frame K B G H σ δ) {r : R} {v : V} {ds : List D} (h : RW K G r v) (e : view δ r = some (.tup ds)) : ∃ a xs, v = .ref a ∧ SqT K H a xs ∧ Reps K G ds xs := by
  obtain ⟨a, xs, e1, h1, h2⟩ := view_tupH F h e
  exact ⟨a, xs, e1, SqT.of h1, h2⟩
theorem view_dct (F : Frame K B G H σ δ) {r : R} {v : V} {ds : List (Key × D)} (h : RW K G r v) (e : view δ r = some (.dct ds)) : ∃ a xs, v = .ref a ∧ Rd H a (.dK xs) ∧ RepK K G ds xs := by
  cases r with
  | d y =>
    have e' : y = .dct ds := Option.some.inj e
    subst e'
    have h' : Rep K G (.dct ds) v := h
    unfold Rep at h'
    obtain ⟨a, xs, e1, h1, h2⟩ := h'
    exact ⟨a, xs, e1, Evl.ex_rd F.exG h1, h2⟩
  | own a y => exact h.elim
  | deep a y gs => cases e
  | bor i a =>
    have e1 : v = .ref a := h
    obtain ⟨xs, h3, h4⟩ := (view_own F e).1
    exact ⟨a, xs, e1, Rd.of h3, h4⟩
theorem view_dcT (F : Frame K B G H σ δ) {r : R} {v : V} {ds : List (List Key × D)} (h : RW K G r v) (e : view δ r = some (.dcT ds)) : ∃ a xs, v = .ref a ∧ Rd H a (.dT xs) ∧ RepT K G ds xs := by
  cases r with
  | d y =>
    have e' : y = .dcT ds := Option.some.inj e
    subst e'
    have h' : Rep K G (.dcT ds) v := h
    unfold Rep at h'
    obtain ⟨a, xs, e1, h1, h2⟩ := h'
    exact ⟨a, xs, e1, Evl.ex_rd F.exG h1, h2⟩
  | own a y => exact h.elim
  | deep a y gs => cases e
  | bor i a =>
    have e1 : v = .ref a := h
    obtain ⟨xs, h3, h4⟩ := (view_own F e).1
    exact ⟨a, xs, e1, Rd.of h3, h4⟩
theorem RV.weak (F : Frame K B G H σ δ) {r : R} {v : V} (h : RV K B G H δ r v) : ∃ G1, Ex G G1 ∧ Frame K B G1 H σ δ ∧ RW K G1 (frz r) v := by
  cases r with
  | d x => exact ⟨G, Ex.refl G, F, h⟩
  | own a x =>
    obtain ⟨e1, h1, h2, h3, h4⟩ := h
    subst e1
    obtain ⟨o, ho⟩ := h1.there
    exact ⟨upd G a o, Ex.new h3, F.freeze ho h2 h3 h4, h1.rep ho h3⟩
  | deep a x gs => exact ⟨G, Ex.refl G, F, trivial⟩
  | bor i a => exact ⟨G, Ex.refl G, F, h.1⟩
def adsR : R → List Addr
  | .own a _ => [a]
  | .deep a _ gs => a :: gs.map Prod.fst
  | _ => []
theorem RV.ex {r : R} {v : V} (h : RV K B G H δ r v) (eG : Ex G G') (eH : Ex H H') (hn : ∀ a ∈ adsR r, G' a = none) : RV K B G' H' δ r v := by
  cases r with
  | d x => exact Rep.mono eG h
  | own a x =>
    obtain ⟨e1, h1, h2, h3, h4⟩ := h
    exact ⟨e1, h1.ex eG eH, h2, hn a (List.mem_singleton.mpr rfl), h4⟩
  | deep a x gs =>
    obtain ⟨e1, h1, h2, h3, h4⟩ := h
    exact ⟨e1, h1.ex eG eH, h2.ex eG eH, fun b hb => ⟨(h3 b hb).1, hn b hb, (h3 b hb).2.2⟩, h4⟩
  | bor i a => exact h
end

/-! ### the words -/
/-- where one stands: the written part, and what an error's way out asks -/
structure Cd where
  K : PySem.W.Frag
  xr : Hp → Hp → Prop
  mono : ∀ B G G', Ex G G' → xr B G → xr B G'
abbrev c0 (K : PySem.W.Frag) : Cd := ⟨K, fun _ _ => True, fun _ _ _ _ h => h⟩
/-- an expression, from slots δ: Φ of what it hands on and the slots behind; p: nothing that stood is changed -/
def WE (c : Cd) (p : Bool) (te : TE) (δ : List Sl) (Φ : R → List Sl → Prop) : Prop :=
  ∀ (B G H : Hp) (σ : St) (Q : VK), Frame c.K B G H σ δ → c.xr B G →
    (∀ r δ' v G' H', Φ r δ' → Ex G G' → Frame c.K B G' H' σ δ' → RV c.K B G' H' δ' r v → (p = true → δ' = δ ∧ Ex H H') → Q v H') → te σ H Q
def WT (c : Cd) (p : Bool) (tt : TT) (δ : List Sl) (Φ : Bool → List Sl → Prop) : Prop :=
  ∀ (B G H : Hp) (σ : St) (Q : Bool → Hp → Prop), Frame c.K B G H σ δ → c.xr B G →
    (∀ b δ' G' H', Φ b δ' → Ex G G' → Frame c.K B G' H' σ δ' → (p = true → δ' = δ ∧ Ex H H') → Q b H') → tt σ H Q
/-- arguments: each thing data (bor: a slot's own, lent) -/
def RVs (K : PySem.W.Frag) (G : Hp) : List R → List V → Prop
  | [], vs => vs = []
  | r :: rs, vs => ∃ v vr, vs = v :: vr ∧ RW K G r v ∧ RVs K G rs vr
theorem RVs.mono {K : PySem.W.Frag} {G G' : Hp} (e : Ex G G') : ∀ {rs : List R} {vs : List V}, RVs K G rs vs → RVs K G' rs vs
  | [], _, h => h
  | r :: rs, _, h => by
    obtain ⟨v, vr, e1, h1, h2⟩ := h
    exact ⟨v, vr, e1, h1.mono e, RVs.mono e h2⟩
def WA (c : Cd) (p : Bool) (ta : TA) (δ : List Sl) (Φ : List R → List Sl → Prop) : Prop :=
  ∀ (B G H : Hp) (σ : St) (Q : List V → Hp → Prop), Frame c.K B G H σ δ → c.xr B G →
    (∀ rs δ' vs G' H', Φ rs δ' → Ex G G' → Frame c.K B G' H' σ δ' → RVs c.K G' rs vs → (p = true → δ' = δ ∧ Ex H H') → Q vs H') → ta σ H Q
structure En where
  nx : List Sl → Prop
  rt : R → List Sl → Prop
  bk : List Sl → Prop := fun _ => False
  ct : List Sl → Prop := fun _ => False
structure EnR (c : Cd) (B G : Hp) (E : En) (D : Ends) : Prop where
  nx : ∀ δ' σ' G' H', E.nx δ' → Ex G G' → Frame c.K B G' H' σ' δ' → D.nx σ' H'
  rt : ∀ r δ' v σ' G' H', E.rt r δ' → Ex G G' → Frame c.K B G' H' σ' δ' → RV c.K B G' H' δ' r v → D.rt v H'
  bk : ∀ δ' σ' G' H', E.bk δ' → Ex G G' → Frame c.K B G' H' σ' δ' → D.bk σ' H'
  ct : ∀ δ' σ' G' H', E.ct δ' → Ex G G' → Frame c.K B G' H' σ' δ' → D.ct σ' H'
theorem EnR.mono {c : Cd} {B G G1 : Hp} {E : En} {D : Ends} (h : EnR c B G E D) (e : Ex G G1) : EnR c B G1 E D :=
  ⟨fun δ' σ' G' H' a b => h.nx δ' σ' G' H' a (e.trans b), fun r δ' v σ' G' H' a b => h.rt r δ' v σ' G' H' a (e.trans b), fun δ' σ' G' H' a b => h.bk δ' σ' G' H' a (e.trans b), fun δ' σ' G' H' a b => h.ct δ' σ' G' H' a (e.trans b)⟩
def WS (c : Cd) (t : TS) (δ : List Sl) (E : En) : Prop :=
  ∀ (B G H : Hp) (σ : St) (D : Ends), Frame c.K B G H σ δ → c.xr B G → EnR c B G E D → t D σ H
/-- a target, handed a thing -/
def WG (c : Cd) (g : TG) (r : R) (δ : List Sl) (Φ : List Sl → Prop) : Prop :=
  ∀ (B G H : Hp) (σ : St) (v : V) (Q : St → Hp → Prop), Frame c.K B G H σ δ → c.xr B G → RV c.K B G H δ r v →
    (∀ δ' σ' G' H', Φ δ' → Ex G G' → Frame c.K B G' H' σ' δ' → Q σ' H') → g v σ H Q
end DL

/-! DL1: the rules of the words. -/
namespace DL
open PySem PySem.Spec PyProof.Rows L2
open Evl (Ex)
section
variable {c : Cd} {p : Bool} {δ : List Sl} {te ta tb : TE} {Φ Φ' : R → List Sl → Prop}
/-! ### values -/
theorem we_mono (h : WE c p te δ Φ) (m : ∀ r δ', Φ r δ' → Φ' r δ') : WE c p te δ Φ' := fun B G H σ Q F x k =>
  h B G H σ Q F x fun r δ' v G' H' w => k r δ' v G' H' (m r δ' w)
/-- what a slot hands on -/
def rd (δ : List Sl) (i : Nat) : Option R := match δ[i]? with
  | some (.d x) => some (.d x)
  | some (.own a _) => some (.bor i a)
  | some (.deep a _ _) => some (.bor i a)
  | _ => none
theorem we_var {i : Nat} {r : R} (h : rd δ i = some r) (q : Φ r δ) : WE c p (tVar i) δ Φ := by
  intro B G H σ Q F x k
  unfold rd at h
  split at h
  · rename_i y e
    obtain ⟨ov, e1, v, e2, hr⟩ := F.get e
    subst e2
    cases h
    exact ⟨v, e1, k _ δ v G H q (Ex.refl G) F hr fun _ => ⟨rfl, Ex.refl H⟩⟩
  · rename_i a y e
    obtain ⟨ov, e1, e2, hr⟩ := F.get e
    subst e2
    cases h
    exact ⟨.ref a, e1, k _ δ _ G H q (Ex.refl G) F ⟨rfl, y, view_bor e⟩ fun _ => ⟨rfl, Ex.refl H⟩⟩
  · rename_i a y gs e
    obtain ⟨ov, e1, e2, hr⟩ := F.get e
    subst e2
    cases h
    exact ⟨.ref a, e1, k _ δ _ G H q (Ex.refl G) F ⟨rfl, y, view_deep e⟩ fun _ => ⟨rfl, Ex.refl H⟩⟩
  · cases h
def dOf : V → D
  | .bl b => .bl b
  | .int i => .int i
  | .str x => .str x
  | .ty n => .ty n
  | .ref a => .ptr a
  | _ => .non
def isC : V → Bool
  | .byt _ => false
  | .flt _ => false
  | _ => true
theorem rep_dOf {K : PySem.W.Frag} {G : Hp} {v : V} (h : isC v = true) : Rep K G (dOf v) v := by
  cases v <;> first | (cases h; done) | (unfold dOf Rep; rfl)
theorem rep_bl {K : PySem.W.Frag} {G : Hp} {b : Bool} : Rep K G (.bl b) (.bl b) := by unfold Rep; rfl
theorem rep_int {K : PySem.W.Frag} {G : Hp} {b : Int} : Rep K G (.int b) (.int b) := by unfold Rep; rfl
theorem rep_str {K : PySem.W.Frag} {G : Hp} {b : Str} : Rep K G (.str b) (.str b) := by unfold Rep; rfl
theorem rep_non {K : PySem.W.Frag} {G : Hp} : Rep K G .non .non := by unfold Rep; rfl
theorem rv_bl {K : PySem.W.Frag} {B G H : Hp} {δ : List Sl} {b : Bool} : RV K B G H δ (.d (.bl b)) (.bl b) := rep_bl (K := K) (G := G)
theorem we_c {v : V} (q : Φ (.d (dOf v)) δ) (h : isC v = true := by rfl) : WE c p (tC v) δ Φ := fun B G H σ Q F x k =>
  k _ δ v G H q (Ex.refl G) F (rep_dOf h) fun _ => ⟨rfl, Ex.refl H⟩
/-! ### operators -/
abbrev Dop := D → D → (R → Prop) → Prop
/-- what an operation does, by data -/
def OpD (c : Cd) (r : R2) (f : Dop) : Prop := ∀ (B G H : Hp) (σ : St) (δ : List Sl) (r1 r2 : R) (v1 v2 : V) (x y : D) (Ψ : R → Prop) (Q : VK), Frame c.K B G H σ δ → RW c.K G r1 v1 → RW c.K G r2 v2 → view δ r1 = some x → view δ r2 = some y → f x y Ψ →
  (∀ r v G' H', Ψ r → Ex G G' → Ex H H' → Frame c.K B G' H' σ δ → RV c.K B G' H' δ r v → Q v H') → r v1 v2 H Q
theorem we_op {r : R2} {f : Dop} (ho : OpD c r f) (h : WE c p ta δ fun r1 δ1 => WE c p tb δ1 fun r2 δ2 => ∃ x y, view δ2 (frz r1) = some x ∧ view δ2 (frz r2) = some y ∧ f x y fun r => Φ r δ2) : WE c p (tOp r ta tb) δ Φ := by
  intro B G H σ Q F x k
  refine h B G H σ _ F x fun r1 δ1 v1 G1 H1 w1 e1 F1 rv1 p1 => ?_
  obtain ⟨G1', e1', F1', rw1⟩ := rv1.weak F1
  refine w1 B G1' H1 σ _ F1' (c.mono _ _ _ (e1.trans e1') x) fun r2 δ2 v2 G2 H2 w2 e2 F2 rv2 p2 => ?_
  obtain ⟨G2', e2', F2', rw2⟩ := rv2.weak F2
  obtain ⟨x, y, hx, hy, hd⟩ := w2
  refine ho B G2' H2 σ δ2 _ _ v1 v2 x y _ _ F2' (rw1.mono (e2.trans e2')) rw2 hx hy hd fun r v G' H' q e3 e4 F3 rv3 => ?_
  exact k r δ2 v G' H' q ((e1.trans e1').trans ((e2.trans e2').trans e3)) F3 rv3 fun hp => ⟨(p2 hp).1.trans (p1 hp).1, ((p1 hp).2.trans (p2 hp).2).trans e4⟩
/-- by the data at H alone -/
theorem opd_H {r : R2} {f : Dop} (h : ∀ (H : Hp) (v1 v2 : V) (x y : D) (Ψ : R → Prop) (Q : VK), Rep c.K H x v1 → Rep c.K H y v2 → f x y Ψ → (∀ z v, Ψ (.d z) → (∀ G, Rep c.K G z v) → Q v H) → r v1 v2 H Q) : OpD c r f :=
  fun B G H σ δ r1 r2 v1 v2 x y Ψ Q F h1 h2 e1 e2 hf k => h H v1 v2 x y Ψ Q (view_repH F h1 e1) (view_repH F h2 e2) hf fun z v q hz => k (.d z) v G H q (Ex.refl G) (Ex.refl H) F (hz G)
def dInt (C : Int → Int → Prop) (g : Int → Int → D) : Dop
  | .int i, .int j, k => C i j ∧ k (.d (g i j))
  | _, _, _ => False
theorem opd_I {C : Int → Int → Prop} {g : Int → Int → V} {g' : Int → Int → D} (hg : ∀ G i j, Rep c.K G (g' i j) (g i j)) : OpD c (rI C g) (dInt C g') := opd_H fun H v1 v2 x y Ψ Q h1 h2 hf k => by
  cases x with
  | int i =>
    cases y with
    | int j =>
      unfold Rep at h1 h2
      exact ⟨i, j, h1, h2, hf.1, k _ _ hf.2 fun G => hg G i j⟩
    | _ => exact hf.elim
  | _ => cases y <;> exact hf.elim
def dInt0 (g : Int → Int → D) : Dop
  | .int i, .int j, k => k (.d (g i j))
  | _, _, _ => False
theorem opd_I0 {g : Int → Int → V} {g' : Int → Int → D} (hg : ∀ G i j, Rep c.K G (g' i j) (g i j)) : OpD c (rI0 g) (dInt0 g') := opd_H fun H v1 v2 x y Ψ Q h1 h2 hf k => by
  cases x with
  | int i =>
    cases y with
    | int j =>
      unfold Rep at h1 h2
      exact ⟨i, j, h1, h2, k _ _ hf fun G => hg G i j⟩
    | _ => exact hf.elim
  | _ => cases y <;> exact hf.elim
/-! a new list, a new tuple -/
theorem rv_newL {K : PySem.W.Frag} {B G H : Hp} {σ : St} {δ : List Sl} {q : Addr} {xs : List V} {ds : List D} (F : Frame K B G H σ δ) (hp : H q = none) (h : Reps K G ds xs) : RV K B G (upd H q (.lst xs)) δ (.own q (.lst ds)) (.ref q) := by
  obtain ⟨h1, h2, h3⟩ := F.fresh hp
  exact ⟨rfl, ⟨xs, upd_same, h⟩, h1, h2, h3⟩
theorem rep_newT {K : PySem.W.Frag} {G : Hp} {q : Addr} {xs : List V} {ds : List D} (hp : G q = none) (h : Reps K G ds xs) : Rep K (upd G q (.tup xs)) (.tup ds) (.ref q) := by
  unfold Rep
  exact ⟨q, xs, rfl, upd_same, h.mono (Ex.new hp)⟩
/-! ### arguments -/
theorem wa_nil {Ψ : List R → List Sl → Prop} (q : Ψ [] δ) : WA c p tNil δ Ψ := fun B G H σ Q F x k => k [] δ [] G H q (Ex.refl G) F rfl fun _ => ⟨rfl, Ex.refl H⟩
theorem wa_cons {tr : TA} {Ψ : List R → List Sl → Prop} (h : WE c p te δ fun r δ1 => WA c p tr δ1 fun rs δ2 => Ψ (frz r :: rs) δ2) : WA c p (tCons te tr) δ Ψ := by
  intro B G H σ Q F x k
  refine h B G H σ _ F x fun r1 δ1 v1 G1 H1 w1 e1 F1 rv1 p1 => ?_
  obtain ⟨G1', e1', F1', rw1⟩ := rv1.weak F1
  refine w1 B G1' H1 σ _ F1' (c.mono _ _ _ (e1.trans e1') x) fun rs δ2 vs G2 H2 w2 e2 F2 rv2 p2 => ?_
  exact k _ δ2 (v1 :: vs) G2 H2 w2 ((e1.trans e1').trans e2) F2 ⟨v1, vs, rfl, rw1.mono e2, rv2⟩ fun hp => ⟨(p2 hp).1.trans (p1 hp).1, (p1 hp).2.trans (p2 hp).2⟩
def datas : List R → Option (List D)
  | [] => some []
  | .d x :: rs => (datas rs).map (x :: ·)
  | _ :: _ => none
theorem datas_reps {K : PySem.W.Frag} {G : Hp} : ∀ {rs : List R} {ds : List D} {vs : List V}, datas rs = some ds → RVs K G rs vs → Reps K G ds vs
  | [], ds, vs, e, h => by
    cases e
    have e1 : vs = [] := h
    subst e1
    exact reps_nil
  | .d x :: rs, ds, vs, e, h => by
    obtain ⟨v, vr, e1, h1, h2⟩ := h
    subst e1
    unfold datas at e
    cases q : datas rs with
    | none => rw [q] at e; cases e
    | some es =>
      rw [q] at e
      cases e
      exact reps_cons h1 (datas_reps q h2)
  | .own a x :: rs, ds, vs, e, h => by cases e
  | .bor i a :: rs, ds, vs, e, h => by cases e
theorem we_lst {tr : TA} (h : WA c p tr δ fun rs δ1 => ∃ ds, datas rs = some ds ∧ ds.length ≤ 100000 ∧ ∀ a, Φ (.own a (.lst ds)) δ1) : WE c p (tLst tr) δ Φ := by
  intro B G H σ Q F x k
  refine h B G H σ _ F x fun rs δ1 vs G1 H1 w1 e1 F1 rv1 p1 => ?_
  obtain ⟨ds, hd, hl, w⟩ := w1
  have hr := datas_reps hd rv1
  refine ⟨Evl.sz_of (by rw [reps_length hr]; exact hl), fun q hq => ?_⟩
  exact k _ δ1 _ G1 _ (w q) e1 (F1.ex (Ex.new hq)) (rv_newL F1 hq hr) fun hp => ⟨(p1 hp).1, (p1 hp).2.trans (Ex.new hq)⟩
theorem we_tup {tr : TA} (h : WA c p tr δ fun rs δ1 => ∃ ds, datas rs = some ds ∧ ds.length ≤ 100000 ∧ Φ (.d (.tup ds)) δ1) : WE c p (tTup tr) δ Φ := by
  intro B G H σ Q F x k
  refine h B G H σ _ F x fun rs δ1 vs G1 H1 w1 e1 F1 rv1 p1 => ?_
  obtain ⟨ds, hd, hl, w⟩ := w1
  have hr := datas_reps hd rv1
  refine ⟨Evl.sz_of (by rw [reps_length hr]; exact hl), fun q hq => ?_⟩
  have hG := (F1.fresh hq).2.1
  exact k _ δ1 _ (upd G1 q (.tup vs)) _ w (e1.trans (Ex.new hG)) (F1.laid hq) (rep_newT hG hr) fun hp => ⟨(p1 hp).1, (p1 hp).2.trans (Ex.new hq)⟩
/-! ### tests -/
variable {Φt : Bool → List Sl → Prop} {tt tu : TT}
theorem wt_test (h : WE c p te δ fun r δ1 => ∃ b, r = .d (.bl b) ∧ Φt b δ1) : WT c p (tTest te) δ Φt := by
  intro B G H σ Q F x k
  refine h B G H σ _ F x fun r1 δ1 v1 G1 H1 w1 e1 F1 rv1 p1 => ?_
  obtain ⟨b, e, w⟩ := w1
  subst e
  exact ⟨b, (by have h : Rep c.K G1 (.bl b) v1 := rv1; unfold Rep at h; exact h), k b δ1 G1 H1 w e1 F1 p1⟩
/-- the truth of a thing -/
def truD : D → Option Bool
  | .non => some false
  | .bl b => some b
  | .int i => some (i != 0)
  | .str x => some ((x.length : Int) != 0)
  | .lst ds => some (!ds.isEmpty)
  | .tup ds => some (!ds.isEmpty)
  | .dct ds => some (!ds.isEmpty)
  | _ => none
def strOk : D → Prop
  | .str x => x.length ≤ 16000000
  | _ => True
theorem isEmpty_reps {K : PySem.W.Frag} {G : Hp} {ds : List D} {xs : List V} (h : Reps K G ds xs) : xs.isEmpty = ds.isEmpty := by
  have e := reps_length h
  cases ds <;> cases xs <;> simp_all
theorem isEmpty_repK {K : PySem.W.Frag} {G : Hp} : ∀ {ds : List (Key × D)} {xs : List (Key × V)}, RepK K G ds xs → xs.isEmpty = ds.isEmpty
  | [], xs, h => by unfold RepK at h; subst h; rfl
  | (k, d) :: ds, xs, h => by
    unfold RepK at h
    obtain ⟨v, vr, e, _⟩ := h
    subst e
    rfl
def tTruth (K : PySem.W.Frag) (ta : TE) : TT := fun σ H Q => ta σ H fun x H' => ∃ k, TruV K x H' k ∧ Q k H'
theorem pt_tru {X : Cx} {a : Expr} (ha : PE X a ta) (he : ∀ whole, isTrue a X.env whole = (do let v ← whole; standAt a.pos; holding [v] (truthy v))) : PT X a (tTruth X.K ta) := pt_truth ha he
theorem size16 {n : Nat} (h : n ≤ 16000000) : n ≤ sizeLine := by rw [sizeLine_eq]; omega
theorem wt_truth (h : WE c p te δ fun r δ1 => ∃ x b, view δ1 (frz r) = some x ∧ truD x = some b ∧ strOk x ∧ (∀ ds, x = .dct ds → ∃ i a, r = .bor i a) ∧ Φt b δ1) : WT c p (tTruth c.K te) δ Φt := by
  intro B G H σ Q F x k
  refine h B G H σ _ F x fun r1 δ1 v1 G1 H1 w1 e1 F1 rv1 p1 => ?_
  obtain ⟨G1', e1', F1', rw1⟩ := rv1.weak F1
  obtain ⟨y, b, hv, ht, hs, hd, w⟩ := w1
  refine ⟨b, ?_, k b δ1 G1' H1 w (e1.trans e1') F1' p1⟩
  cases y with
  | non => have h := view_repH F1' rw1 hv; unfold Rep at h; subst h; cases ht; rfl
  | bl _ => have h := view_repH F1' rw1 hv; unfold Rep at h; subst h; cases ht; rfl
  | int _ => have h := view_repH F1' rw1 hv; unfold Rep at h; subst h; cases ht; rfl
  | str z => have h := view_repH F1' rw1 hv; unfold Rep at h; subst h; cases ht; exact ⟨size16 hs, rfl⟩
  | lst ds =>
    obtain ⟨a, xs, e, h1, h2⟩ := view_lst F1' rw1 hv
    subst e
    cases ht
    exact .inl ⟨xs, .inl h1, by rw [isEmpty_reps h2]⟩
  | tup ds =>
    obtain ⟨a, xs, e, h1, h2⟩ := view_tup F1' rw1 hv
    subst e
    cases ht
    exact .inr (.inl ⟨xs, h1, by rw [isEmpty_reps h2]⟩)
  | dct ds =>
    obtain ⟨i, a, e⟩ := hd ds rfl
    subst e
    have e2 : v1 = .ref a := rw1
    subst e2
    obtain ⟨xs, h3, h4⟩ := (view_own F1' hv).1
    cases ht
    exact .inr (.inr ⟨xs, h3, by rw [isEmpty_repK h4]⟩)
  | _ => cases ht
theorem wt_and (h : WT c p tt δ fun b δ1 => (b = true → WT c p tu δ1 Φt) ∧ (b = false → Φt false δ1)) : WT c p (tAnd tt tu) δ Φt := by
  intro B G H σ Q F x k
  refine h B G H σ _ F x fun b δ1 G1 H1 w1 e1 F1 p1 => ?_
  cases b with
  | true => exact w1.1 rfl B G1 H1 σ _ F1 (c.mono _ _ _ e1 x) fun b2 δ2 G2 H2 w2 e2 F2 p2 => k b2 δ2 G2 H2 w2 (e1.trans e2) F2 fun hp => ⟨(p2 hp).1.trans (p1 hp).1, (p1 hp).2.trans (p2 hp).2⟩
  | false => exact k false δ1 G1 H1 (w1.2 rfl) e1 F1 p1
theorem wt_or (h : WT c p tt δ fun b δ1 => (b = true → Φt true δ1) ∧ (b = false → WT c p tu δ1 Φt)) : WT c p (tOr tt tu) δ Φt := by
  intro B G H σ Q F x k
  refine h B G H σ _ F x fun b δ1 G1 H1 w1 e1 F1 p1 => ?_
  cases b with
  | false => exact w1.2 rfl B G1 H1 σ _ F1 (c.mono _ _ _ e1 x) fun b2 δ2 G2 H2 w2 e2 F2 p2 => k b2 δ2 G2 H2 w2 (e1.trans e2) F2 fun hp => ⟨(p2 hp).1.trans (p1 hp).1, (p1 hp).2.trans (p2 hp).2⟩
  | true => exact k true δ1 G1 H1 (w1.1 rfl) e1 F1 p1
theorem wt_not (h : WT c p tt δ fun b δ1 => Φt (!b) δ1) : WT c p (tNot tt) δ Φt := fun B G H σ Q F x k => h B G H σ _ F x fun b δ1 G1 H1 w1 e1 F1 p1 => k (!b) δ1 G1 H1 w1 e1 F1 p1
theorem we_orV (h : WE c p ta δ fun r δ1 => ∃ b, r = .d (.bl b) ∧ (b = true → Φ (.d (.bl true)) δ1) ∧ (b = false → WE c p tb δ1 Φ)) : WE c p (tOrV ta tb) δ Φ := by
  intro B G H σ Q F x k
  refine h B G H σ _ F x fun r1 δ1 v1 G1 H1 w1 e1 F1 rv1 p1 => ?_
  obtain ⟨b, e, w, w'⟩ := w1
  subst e
  have e2 : v1 = .bl b := by have h : Rep c.K G1 (.bl b) v1 := rv1; unfold Rep at h; exact h
  refine ⟨b, e2, ?_⟩
  cases b with
  | false => exact w' rfl B G1 H1 σ _ F1 (c.mono _ _ _ e1 x) fun b2 δ2 v2 G2 H2 w2 e2 F2 rv2 p2 => k b2 δ2 v2 G2 H2 w2 (e1.trans e2) F2 rv2 fun hp => ⟨(p2 hp).1.trans (p1 hp).1, (p1 hp).2.trans (p2 hp).2⟩
  | true => exact k _ δ1 _ G1 H1 (w rfl) e1 F1 rv_bl p1
/-- a op b op' c -/
theorem we_chain {r r' : R2} {f f' : Dop} {tc : TE} (ho : OpD c r f) (ho' : OpD c r' f') (h : WE c p ta δ fun r1 δ1 => WE c p tb δ1 fun r2 δ2 => ∃ x y, view δ2 (frz r1) = some x ∧ view δ2 (frz r2) = some y ∧
    f x y fun r => ∃ b, r = .d (.bl b) ∧ (b = true → WE c p tc δ2 fun r3 δ3 => ∃ y z, view δ3 (frz r2) = some y ∧ view δ3 (frz r3) = some z ∧ f' y z fun r => Φ r δ3) ∧ (b = false → Φ (.d (.bl false)) δ2)) : WE c p (tChain r r' ta tb tc) δ Φ := by
  intro B G H σ Q F x k
  refine h B G H σ _ F x fun r1 δ1 v1 G1 H1 w1 e1 F1 rv1 p1 => ?_
  obtain ⟨G1', e1', F1', rw1⟩ := rv1.weak F1
  refine w1 B G1' H1 σ _ F1' (c.mono _ _ _ (e1.trans e1') x) fun r2 δ2 v2 G2 H2 w2 e2 F2 rv2 p2 => ?_
  obtain ⟨G2', e2', F2', rw2⟩ := rv2.weak F2
  obtain ⟨x', y, hx, hy, hd⟩ := w2
  refine ho B G2' H2 σ δ2 _ _ v1 v2 x' y _ _ F2' (rw1.mono (e2.trans e2')) rw2 hx hy hd fun r v G3 H3 q e3 e4 F3 rv3 => ?_
  obtain ⟨b, e, w, w'⟩ := q
  subst e
  have e5 : v = .bl b := by have h : Rep c.K G3 (.bl b) v := rv3; unfold Rep at h; exact h
  refine ⟨b, e5, ?_⟩
  have eG := (e1.trans e1').trans ((e2.trans e2').trans e3)
  cases b with
  | false => exact k _ δ2 _ G3 H3 (w' rfl) eG F3 rv_bl fun hp => ⟨(p2 hp).1.trans (p1 hp).1, ((p1 hp).2.trans (p2 hp).2).trans e4⟩
  | true =>
    refine w rfl B G3 H3 σ _ F3 (c.mono _ _ _ eG x) fun r4 δ4 v4 G4 H4 w4 e6 F4 rv4 p4 => ?_
    obtain ⟨G4', e4', F4', rw4⟩ := rv4.weak F4
    obtain ⟨y', z, hy', hz, hd'⟩ := w4
    refine ho' B G4' H4 σ δ4 _ _ v2 v4 y' z _ _ F4' (rw2.mono (e3.trans (e6.trans e4'))) rw4 hy' hz hd' fun r v G5 H5 q e7 e8 F5 rv5 => ?_
    exact k r δ4 v G5 H5 q (eG.trans ((e6.trans e4').trans e7)) F5 rv5 fun hp => ⟨((p4 hp).1.trans (p2 hp).1).trans (p1 hp).1, ((((p1 hp).2.trans (p2 hp).2).trans e4).trans (p4 hp).2).trans e8⟩
/-! ### calls of built-ins -/
abbrev Dca := List D → (R → Prop) → Prop
def views (δ : List Sl) : List R → Option (List D)
  | [] => some []
  | r :: rs => match view δ r with
    | some x => (views δ rs).map (x :: ·)
    | none => none
def CaD (c : Cd) (r : List V → Hp → VK → Prop) (f : Dca) : Prop := ∀ (B G H : Hp) (σ : St) (δ : List Sl) (rs : List R) (vs : List V) (ds : List D) (Ψ : R → Prop) (Q : VK), Frame c.K B G H σ δ → RVs c.K G rs vs → views δ rs = some ds → f ds Ψ →
  (∀ r v G' H', Ψ r → Ex G G' → Ex H H' → Frame c.K B G' H' σ δ → RV c.K B G' H' δ r v → Q v H') → r vs H Q
theorem we_cb {r : List V → Hp → VK → Prop} {f : Dca} {tr : TA} (ho : CaD c r f) (h : WA c p tr δ fun rs δ1 => ∃ ds, views δ1 rs = some ds ∧ f ds fun r => Φ r δ1) : WE c p (tCB r tr) δ Φ := by
  intro B G H σ Q F x k
  refine h B G H σ _ F x fun rs δ1 vs G1 H1 w1 e1 F1 rv1 p1 => ?_
  obtain ⟨ds, hd, hf⟩ := w1
  refine ho B G1 H1 σ δ1 rs vs ds _ _ F1 rv1 hd hf fun r v G' H' q e3 e4 F3 rv3 => ?_
  exact k r δ1 v G' H' q (e1.trans e3) F3 rv3 fun hp => ⟨(p1 hp).1, (p1 hp).2.trans e4⟩
theorem views_cons {δ : List Sl} {r : R} {rs : List R} {ds : List D} (h : views δ (r :: rs) = some ds) : ∃ x es, ds = x :: es ∧ view δ r = some x ∧ views δ rs = some es := by
  unfold views at h
  split at h
  · rename_i x e
    cases q : views δ rs with
    | none => rw [q] at h; cases h
    | some es =>
      rw [q] at h
      cases h
      exact ⟨x, es, rfl, e, rfl⟩
  · cases h
theorem views_nil {δ : List Sl} {ds : List D} (h : views δ [] = some ds) : ds = [] := by cases h; rfl
/-- one argument -/
theorem cad_1 {r : List V → Hp → VK → Prop} {f : Dca} (hf : ∀ ds Ψ, f ds Ψ → ds.length = 1) (h : ∀ (B G H : Hp) (σ : St) (δ : List Sl) (r1 : R) (v : V) (x : D) (Ψ : R → Prop) (Q : VK), Frame c.K B G H σ δ → RW c.K G r1 v → view δ r1 = some x → f [x] Ψ →
    (∀ r v G' H', Ψ r → Ex G G' → Ex H H' → Frame c.K B G' H' σ δ → RV c.K B G' H' δ r v → Q v H') → r [v] H Q) : CaD c r f := by
  intro B G H σ δ rs vs ds Ψ Q F hr hv hd k
  have hl := hf ds Ψ hd
  cases rs with
  | nil => have e := views_nil hv; subst e; cases hl
  | cons r1 rs =>
    obtain ⟨x, es, e, e1, e2⟩ := views_cons hv
    subst e
    obtain ⟨v, vr, e3, h1, h2⟩ := hr
    cases es with
    | cons y ys => cases hl
    | nil =>
      cases rs with
      | cons r2 rs => obtain ⟨y, ys, e4, _⟩ := views_cons e2; cases e4
      | nil =>
        have e5 : vr = [] := h2
        subst e5
        subst e3
        exact h B G H σ δ r1 v x Ψ Q F h1 e1 hd k
theorem cad_2 {r : List V → Hp → VK → Prop} {f : Dca} (hf : ∀ ds Ψ, f ds Ψ → ds.length = 2) (h : ∀ (B G H : Hp) (σ : St) (δ : List Sl) (r1 r2 : R) (v w : V) (x y : D) (Ψ : R → Prop) (Q : VK), Frame c.K B G H σ δ → RW c.K G r1 v → RW c.K G r2 w → view δ r1 = some x → view δ r2 = some y → f [x, y] Ψ →
    (∀ r v G' H', Ψ r → Ex G G' → Ex H H' → Frame c.K B G' H' σ δ → RV c.K B G' H' δ r v → Q v H') → r [v, w] H Q) : CaD c r f := by
  intro B G H σ δ rs vs ds Ψ Q F hr hv hd k
  have hl := hf ds Ψ hd
  cases rs with
  | nil => have e := views_nil hv; subst e; cases hl
  | cons r1 rs =>
    obtain ⟨x, es, e, e1, e2⟩ := views_cons hv
    subst e
    obtain ⟨v, vr, e3, h1, h2⟩ := hr
    cases rs with
    | nil => have e := views_nil e2; subst e; cases hl
    | cons r2 rs =>
      obtain ⟨y, ys, e4, e5, e6⟩ := views_cons e2
      subst e4
      obtain ⟨w, wr, e7, h3, h4⟩ := h2
      cases ys with
      | cons _ _ => cases hl
      | nil =>
        cases rs with
        | cons r3 rs => obtain ⟨_, _, e4, _⟩ := views_cons e6; cases e4
        | nil =>
          have e8 : wr = [] := h4
          subst e8
          subst e7
          subst e3
          exact h B G H σ δ r1 r2 v w x y Ψ Q F h1 h3 e1 e5 hd k
end
end DL

/-! DL2: statements, loops, comprehensions, defs. -/
namespace DL
open PySem PySem.Spec PyProof.Rows L2
open Evl (Ex)
section
variable {c : Cd} {p : Bool} {δ : List Sl} {te ta tb : TE} {E : En} {t u : TS} {tt : TT} {g : TG}
theorem ws_seq (h : WS c t δ { E with nx := fun δ' => WS c u δ' E }) : WS c (tSeq t u) δ E := by
  intro B G H σ D F x e
  exact h B G H σ { D with nx := u D } F x ⟨fun δ' σ' G' H' w eG F' => w B G' H' σ' D F' (c.mono _ _ _ eG x) (e.mono eG), e.rt, e.bk, e.ct⟩
theorem ws_next (h : E.nx δ) : WS c tNext δ E := fun B G H σ D F x e => e.nx δ σ G H h (Ex.refl G) F
theorem ws_drop (h : WE c p te δ fun _ δ1 => E.nx δ1) : WS c (tDrop te) δ E := fun B G H σ D F x e =>
  h B G H σ _ F x fun r δ1 v G1 H1 w e1 F1 rv p1 => e.nx δ1 σ G1 H1 w e1 F1
theorem ws_ret (h : WE c p te δ E.rt) : WS c (tRet te) δ E := fun B G H σ D F x e =>
  h B G H σ _ F x fun r δ1 v G1 H1 w e1 F1 rv p1 => e.rt r δ1 v σ G1 H1 w e1 F1 rv
theorem ws_if (h : WT c p tt δ fun b δ1 => (b = true → WS c t δ1 E) ∧ (b = false → WS c u δ1 E)) : WS c (tIfS tt t u) δ E := by
  intro B G H σ D F x e
  refine h B G H σ _ F x fun b δ1 G1 H1 w e1 F1 p1 => ?_
  cases b with
  | true => exact w.1 rfl B G1 H1 σ D F1 (c.mono _ _ _ e1 x) (e.mono e1)
  | false => exact w.2 rfl B G1 H1 σ D F1 (c.mono _ _ _ e1 x) (e.mono e1)
theorem ws_asg (h : WE c p te δ fun r δ1 => WG c g r δ1 E.nx) : WS c (tAsg te g) δ E := by
  intro B G H σ D F x e
  refine h B G H σ _ F x fun r δ1 v G1 H1 w e1 F1 rv p1 => ?_
  exact w B G1 H1 σ v _ F1 (c.mono _ _ _ e1 x) rv fun δ' σ' G' H' q e2 F2 => e.nx δ' σ' G' H' q (e1.trans e2) F2
/-- what a slot holds behind a store -/
def slOf : R → Option Sl
  | .d x => some (.d x)
  | .own a x => some (.own a x)
  | .deep a x gs => some (.deep a x gs)
  | .bor _ _ => none
theorem frame_set {K : PySem.W.Frag} {B G H : Hp} {σ : St} {δ : List Sl} {r : R} {v : V} {s : Sl} {i : Nat} (F : Frame K B G H σ δ) (h : RV K B G H δ r v) (e : slOf r = some s) : Frame K B G H (σ.set i (some v)) (δ.set i s) := by
  cases r with
  | d x =>
    cases e
    have sub := owned_set_no (δ := δ) (i := i) (s := .d x) rfl
    exact ⟨F.exB, F.exG, F.dis, F.sl.set i ⟨v, rfl, h⟩, fun a ha => F.own a (sub.subset ha), F.nd.sublist sub⟩
  | own a x =>
    cases e
    obtain ⟨e1, h1, h2, h3, h4⟩ := h
    subst e1
    refine ⟨F.exB, F.exG, F.dis, F.sl.set i ⟨rfl, h1⟩, fun b hb => ?_, nodup_set_own F.nd h4⟩
    rcases owned_set_own hb with q | q
    · subst q; exact ⟨h2, h3⟩
    · exact F.own b q
  | deep a x gs =>
    cases e
    obtain ⟨e1, h1, h2, h3, h4⟩ := h
    subst e1
    refine ⟨F.exB, F.exG, F.dis, F.sl.set i ⟨rfl, h1, h2⟩, fun b hb => ?_, nodup_set F.nd h4 fun b hb => (h3 b hb).2.2⟩
    rcases owned_set_in hb with q | q
    · exact ⟨(h3 b q).1, (h3 b q).2.1⟩
    · exact F.own b q
  | bor j a => cases e
theorem wg_name {r : R} {i : Nat} {s : Sl} {Φ : List Sl → Prop} (e : slOf r = some s) (h : Φ (δ.set i s)) : WG c (gName i) r δ Φ := fun B G H σ v Q F x rv k =>
  k _ _ G H h (Ex.refl G) (frame_set F rv e)
/-- several targets -/
def WGs (c : Cd) (g : TGs) (xs : List D) (δ : List Sl) (Φ : List Sl → Prop) : Prop :=
  ∀ (B G H : Hp) (σ : St) (vs : List V) (Q : St → Hp → Prop), Frame c.K B G H σ δ → c.xr B G → Reps c.K G xs vs →
    (∀ δ' σ' G' H', Φ δ' → Ex G G' → Frame c.K B G' H' σ' δ' → Q σ' H') → g vs σ H Q
theorem wgs_nil {Φ : List Sl → Prop} (h : Φ δ) : WGs c gNil [] δ Φ := fun B G H σ vs Q F x rv k => by
  unfold Reps at rv
  exact ⟨rv, k δ σ G H h (Ex.refl G) F⟩
theorem wgs_cons {gs : TGs} {x : D} {xs : List D} {Φ : List Sl → Prop} (h : WG c g (.d x) δ fun δ1 => WGs c gs xs δ1 Φ) : WGs c (gCons g gs) (x :: xs) δ Φ := fun B G H σ vs Q F z rv k => by
  unfold Reps at rv
  obtain ⟨v, vr, e, h1, h2⟩ := rv
  refine ⟨v, vr, e, h B G H σ v _ F z h1 fun δ1 σ1 G1 H1 q e1 F1 => ?_⟩
  exact q B G1 H1 σ1 vr Q F1 (c.mono _ _ _ e1 z) (h2.mono e1) fun δ' σ' G' H' q e2 F2 => k δ' σ' G' H' q (e1.trans e2) F2
theorem wg_tup {gs : TGs} {n : Nat} {xs : List D} {Φ : List Sl → Prop} (hn : xs.length = n) (h : WGs c gs xs δ Φ) : WG c (gTup c.K n gs) (.d (.tup xs)) δ Φ := fun B G H σ v Q F z rv k => by
  have rv' : Rep c.K G (.tup xs) v := rv
  unfold Rep at rv'
  obtain ⟨a, ys, e, h1, h2⟩ := rv'
  exact ⟨a, ys, e, SqT.of (F.exG _ _ h1), (reps_length h2).trans hn, h B G H σ ys Q F z h2 k⟩
/-- a, b = x, y -/
theorem ws_par {i j : Nat} {tr : TA} (h : WA c p tr δ fun rs δ1 => ∃ x y, rs = [.d x, .d y] ∧ E.nx ((δ1.set i (.d x)).set j (.d y))) : WS c (tPar i j tr) δ E := by
  intro B G H σ D F x e
  refine h B G H σ _ F x fun rs δ1 vs G1 H1 w e1 F1 rv p1 => ?_
  obtain ⟨x, y, er, w⟩ := w
  subst er
  obtain ⟨v, vr, e2, h1, v2, vr2, e3, h2, e4⟩ := rv
  have e5 : vr2 = [] := e4
  subst e5
  subst e3
  subst e2
  refine ⟨v, v2, rfl, e.nx _ _ G1 H1 w e1 ?_⟩
  exact frame_set (r := .d y) (frame_set (r := .d x) F1 h1 rfl) h2 rfl
theorem owned_mem : ∀ {δ : List Sl} {b : Addr}, b ∈ owned δ → ∃ (j : Nat) (s : Sl), δ[j]? = some s ∧ b ∈ ads s
  | [], b, h => by cases h
  | s :: δ, b, h => by
    rw [owned_cons] at h
    rcases List.mem_append.mp h with q | q
    · exact ⟨0, s, rfl, q⟩
    · obtain ⟨j, t, e, m⟩ := owned_mem q
      exact ⟨j + 1, t, by simpa using e, m⟩
theorem owned_uniq : ∀ {δ : List Sl} {i j : Nat} {s t : Sl} {b : Addr}, (owned δ).Nodup → δ[i]? = some s → b ∈ ads s → δ[j]? = some t → b ∈ ads t → i = j
  | [], i, j, s, t, b, _, h, _, _, _ => by simp at h
  | u :: δ, i, j, s, t, b, nd, h1, h2, h3, h4 => by
    rw [owned_cons] at nd
    have nd' := List.nodup_append.mp nd
    cases i with
    | zero =>
      cases j with
      | zero => rfl
      | succ j =>
        have e : u = s := by simpa using h1
        subst e
        exact absurd rfl (nd'.2.2 b h2 b (owned_getA (δ := δ) (i := j) (by simpa using h3) h4))
    | succ i =>
      cases j with
      | zero =>
        have e : u = t := by simpa using h3
        subst e
        exact absurd rfl (nd'.2.2 b h4 b (owned_getA (δ := δ) (i := i) (by simpa using h1) h2))
      | succ j =>
        have ih := owned_uniq (δ := δ) (i := i) (j := j) nd'.2.1 (by simpa using h1) h2 (by simpa using h3) h4
        rw [ih]
theorem not_owned_set {δ : List Sl} {i : Nat} {b : Addr} {s t : Sl} (nd : (owned δ).Nodup) (e : δ[i]? = some s) (hb : b ∈ ads s) (ht : ads t = []) : b ∉ owned (δ.set i t) := by
  intro z
  obtain ⟨j, u, e1, m⟩ := owned_mem z
  by_cases q : i = j
  · subst q
    have hl : i < δ.length := (List.getElem?_eq_some_iff.mp e).1
    rw [List.getElem?_set_self hl] at e1
    cases e1
    rw [ht] at m
    cases m
  · rw [List.getElem?_set_ne q] at e1
    exact q (owned_uniq nd e hb e1 m)
theorem owned_set_eq : ∀ {δ : List Sl} {i : Nat} {s t : Sl}, ads s = ads t → owned (δ.set i s) = owned (δ.set i t)
  | [], i, s, t, _ => rfl
  | u :: δ, 0, s, t, e => by
    show owned (s :: δ) = owned (t :: δ)
    rw [owned_cons, owned_cons, e]
  | u :: δ, i + 1, s, t, e => by
    show owned (u :: δ.set i s) = owned (u :: δ.set i t)
    rw [owned_cons, owned_cons, owned_set_eq (δ := δ) e]
/-- a slot's object is frozen from here on -/
theorem frame_frz {K : PySem.W.Frag} {B G H : Hp} {σ : St} {δ : List Sl} {i : Nat} {a : Addr} {x : D} (F : Frame K B G H σ δ) (e : δ[i]? = some (.own a x)) : ∃ G1, Ex G G1 ∧ Frame K B G1 H σ (δ.set i (.d x)) := by
  obtain ⟨ov, h1, h2, h3⟩ := F.get e
  subst h2
  obtain ⟨o, ho⟩ := h3.there
  obtain ⟨hB, hG⟩ := F.own a (owned_get e)
  have hn : a ∉ owned (δ.set i (.d x)) := not_owned_set F.nd e (List.mem_singleton.mpr rfl) rfl
  have F0 : Frame K B G H σ (δ.set i .no) := by
    have sub0 := owned_set_no (δ := δ) (i := i) (s := .no) rfl
    exact ⟨F.exB, F.exG, F.dis, F.sl.setS (ov := none) i (fun _ _ => trivial), fun b hb => F.own b (sub0.subset hb), F.nd.sublist sub0⟩
  have e0 : owned (δ.set i .no) = owned (δ.set i (.d x)) := owned_set_eq rfl
  have F1 := F0.freeze ho hB hG (by rw [e0]; exact hn)
  refine ⟨upd G a o, Ex.new hG, F1.exB, F1.exG, F1.dis, ?_, fun b hb => F1.own b (by rw [e0]; exact hb), by rw [← e0]; exact F1.nd⟩
  have z := F1.sl.set (s := .d x) (ov := some (.ref a)) i ⟨_, rfl, h3.rep ho hG⟩
  rw [List.set_set] at z
  have es : σ.set i (some (.ref a)) = σ := by
    apply List.ext_getElem?
    intro j
    by_cases hj : i = j
    · subst hj
      have hl : i < σ.length := (List.getElem?_eq_some_iff.mp h1).1
      rw [List.getElem?_set_self hl, h1]
    · rw [List.getElem?_set_ne hj]
  rw [es] at z
  exact z
theorem ws_frz (i : Nat) {a : Addr} {x : D} (e : δ[i]? = some (.own a x)) (h : WS c t (δ.set i (.d x)) E) : WS c t δ E := fun B G H σ D F z k => by
  obtain ⟨G1, e1, F1⟩ := frame_frz F e
  exact h B G1 H σ D F1 (c.mono _ _ _ e1 z) (k.mono e1)
/-- what is known of a slot is forgotten -/
theorem frame_forget {K : PySem.W.Frag} {B G H : Hp} {σ : St} {δ : List Sl} (i : Nat) (F : Frame K B G H σ δ) : Frame K B G H σ (δ.set i .no) := by
  have sub0 := owned_set_no (δ := δ) (i := i) (s := .no) rfl
  exact ⟨F.exB, F.exG, F.dis, F.sl.setS (ov := none) i (fun _ _ => trivial), fun b hb => F.own b (sub0.subset hb), F.nd.sublist sub0⟩
theorem ws_forget (i : Nat) (h : WS c t (δ.set i .no) E) : WS c t δ E := fun B G H σ D F z k => h B G H σ D (frame_forget i F) z k
/-! ### defs -/
abbrev SpD := List Sl → (R → List Sl → Prop) → Prop
def lift (K : PySem.W.Frag) (S : SpD) : Sp := fun vs H Q _ => ∃ B G as, Frame K B G H (vs.map some) as ∧
  S as fun r as' => ∀ v G' H', Ex G G' → Frame K B G' H' (vs.map some) as' → RV K B G' H' as' r v → Q v H'
/-- the arguments' words: a lent object its slot's -/
def toAs (δ : List Sl) : List R → Option (List Sl)
  | [] => some []
  | .d x :: rs => (toAs δ rs).map (.d x :: ·)
  | .bor i a :: rs => match δ[i]? with
    | some (.own b x) => if a = b then (toAs δ rs).map (.own a x :: ·) else none
    | some (.deep b x gs) => if a = b then (toAs δ rs).map (.deep a x gs :: ·) else none
    | _ => none
  | .own _ _ :: _ => none
  | .deep _ _ _ :: _ => none
def clr (δ : List Sl) : List R → List Sl
  | [] => δ
  | .bor i _ :: rs => (clr δ rs).set i .no
  | _ :: rs => clr δ rs
def fill (δ : List Sl) : List R → List Sl → List Sl
  | .bor i _ :: rs, s :: as => (fill δ rs as).set i s
  | _ :: rs, _ :: as => fill δ rs as
  | _, _ => δ
def backAs (δ : List Sl) (rs : List R) (as : List Sl) : List Sl := fill (clr δ rs) rs as
def noBor : List R → Bool
  | [] => true
  | .d _ :: rs => noBor rs
  | _ :: _ => false
/-- what a call hands back: as data or a new object -/
def ownOut : R → Prop
  | .bor _ _ => False
  | _ => True
/-- the addresses that are lent -/
def lent (δ : List Sl) : List R → List Addr
  | [] => []
  | .bor i _ :: rs => (match δ[i]? with
    | some s => ads s
    | none => []) ++ lent δ rs
  | _ :: rs => lent δ rs
section
variable {K : PySem.W.Frag} {B G G' H H' : Hp} {σ : St}
theorem toAs_owned : ∀ {rs : List R} {as : List Sl}, toAs δ rs = some as → owned as = lent δ rs
  | [], as, e => by cases e; rfl
  | .d x :: rs, as, e => by
    unfold toAs at e
    cases q : toAs δ rs with
    | none => rw [q] at e; cases e
    | some es => rw [q] at e; cases e; have ih := toAs_owned q; exact ih
  | .own a x :: rs, as, e => by cases e
  | .deep a x gs :: rs, as, e => by cases e
  | .bor i a :: rs, as, e => by
    unfold toAs at e
    unfold lent
    split at e
    · rename_i b x hx
      split at e
      · rename_i q2
        subst q2
        cases q : toAs δ rs with
        | none => rw [q] at e; cases e
        | some es =>
          rw [q] at e
          cases e
          rw [hx, owned_cons, toAs_owned q]
      · cases e
    · rename_i b x gs hx
      split at e
      · rename_i q2
        subst q2
        cases q : toAs δ rs with
        | none => rw [q] at e; cases e
        | some es =>
          rw [q] at e
          cases e
          rw [hx, owned_cons, toAs_owned q]
      · cases e
    · cases e
theorem toAs_at (F : Frame K B G H σ δ) : ∀ {rs : List R} {as : List Sl} {i : Nat} {a : Addr}, toAs δ rs = some as → R.bor i a ∈ rs → (∃ s, δ[i]? = some s) ∧ σ[i]? = some (some (.ref a))
  | [], as, i, a, e, h => by cases h
  | r :: rs, as, i, a, e, h => by
    rcases List.mem_cons.mp h with q | q
    · subst q
      unfold toAs at e
      split at e
      · rename_i b x hx
        split at e
        · rename_i q2
          subst q2
          obtain ⟨ov, h1, h2, _⟩ := F.get hx
          exact ⟨⟨_, hx⟩, by rw [h1, h2]⟩
        · cases e
      · rename_i b x gs hx
        split at e
        · rename_i q2
          subst q2
          obtain ⟨ov, h1, h2, _⟩ := F.get hx
          exact ⟨⟨_, hx⟩, by rw [h1, h2]⟩
        · cases e
      · cases e
    · cases r with
      | d x =>
        unfold toAs at e
        cases q2 : toAs δ rs with
        | none => rw [q2] at e; cases e
        | some es => exact toAs_at F q2 q
      | own b x => cases e
      | deep b x gs => cases e
      | bor j b =>
        unfold toAs at e
        split at e
        · split at e
          · cases q2 : toAs δ rs with
            | none => rw [q2] at e; cases e
            | some es => exact toAs_at F q2 q
          · cases e
        · split at e
          · cases q2 : toAs δ rs with
            | none => rw [q2] at e; cases e
            | some es => exact toAs_at F q2 q
          · cases e
        · cases e
theorem toAs_sl (F : Frame K B G H σ δ) : ∀ {rs : List R} {as : List Sl} {vs : List V}, toAs δ rs = some as → RVs K G rs vs → SlsR K G H as (vs.map some)
  | [], as, vs, e, h => by
    cases e
    have e1 : vs = [] := h
    subst e1
    exact (rfl : ([] : St) = [])
  | .d x :: rs, as, vs, e, h => by
    obtain ⟨v, vr, e1, h1, h2⟩ := h
    subst e1
    unfold toAs at e
    cases q : toAs δ rs with
    | none => rw [q] at e; cases e
    | some es =>
      rw [q] at e
      cases e
      exact ⟨some v, vr.map some, rfl, ⟨v, rfl, h1⟩, toAs_sl F q h2⟩
  | .own a x :: rs, as, vs, e, h => by cases e
  | .deep a x gs :: rs, as, vs, e, h => by cases e
  | .bor i a :: rs, as, vs, e, h => by
    obtain ⟨v, vr, e1, h1, h2⟩ := h
    subst e1
    have e2 : v = .ref a := h1
    subst e2
    unfold toAs at e
    split at e
    · rename_i b x hx
      split at e
      · rename_i q2
        subst q2
        cases q : toAs δ rs with
        | none => rw [q] at e; cases e
        | some es =>
          rw [q] at e
          cases e
          obtain ⟨ov, _, _, h3⟩ := F.get hx
          exact ⟨some (.ref a), vr.map some, rfl, ⟨rfl, h3⟩, toAs_sl F q h2⟩
      · cases e
    · rename_i b x gs hx
      split at e
      · rename_i q2
        subst q2
        cases q : toAs δ rs with
        | none => rw [q] at e; cases e
        | some es =>
          rw [q] at e
          cases e
          obtain ⟨ov, _, _, h3⟩ := F.get hx
          exact ⟨some (.ref a), vr.map some, rfl, ⟨rfl, h3⟩, toAs_sl F q h2⟩
      · cases e
    · cases e
theorem clr_no {rs : List R} (h : noBor rs = true) : clr δ rs = δ := by
  induction rs with
  | nil => rfl
  | cons r rs ih =>
    cases r with
    | d x => exact ih h
    | own a x => cases h
    | deep a x gs => cases h
    | bor i a => cases h
theorem fill_no {rs : List R} (h : noBor rs = true) : ∀ as, fill δ rs as = δ := by
  induction rs with
  | nil => intro as; cases as <;> rfl
  | cons r rs ih =>
    intro as
    cases r with
    | d x =>
      cases as with
      | nil => rfl
      | cons s as => exact ih h as
    | own a x => cases h
    | deep a x gs => cases h
    | bor i a => cases h
theorem lent_no {rs : List R} (h : noBor rs = true) : lent δ rs = [] := by
  induction rs with
  | nil => rfl
  | cons r rs ih =>
    cases r with
    | d x => exact ih h
    | own a x => cases h
    | deep a x gs => cases h
    | bor i a => cases h
theorem clr_sub : ∀ (rs : List R), (owned (clr δ rs)).Sublist (owned δ)
  | [] => List.Sublist.refl _
  | .d x :: rs => clr_sub rs
  | .own a x :: rs => clr_sub rs
  | .deep a x gs :: rs => clr_sub rs
  | .bor i a :: rs => (owned_set_no rfl).trans (clr_sub rs)
theorem clr_at : ∀ (rs : List R) {j : Nat}, (clr δ rs)[j]? = some .no ∨ (clr δ rs)[j]? = δ[j]?
  | [], j => .inr rfl
  | .d x :: rs, j => clr_at rs
  | .own a x :: rs, j => clr_at rs
  | .deep a x gs :: rs, j => clr_at rs
  | .bor i a :: rs, j => by
    show ((clr δ rs).set i .no)[j]? = some .no ∨ ((clr δ rs).set i .no)[j]? = δ[j]?
    by_cases h : i = j
    · subst h
      by_cases hl : i < (clr δ rs).length
      · exact .inl (List.getElem?_set_self hl)
      · rw [List.getElem?_set, if_pos rfl, if_neg hl]
        rcases clr_at rs (j := i) with q | q
        · exact absurd (List.getElem?_eq_some_iff.mp q).1 hl
        · rw [← q]
          exact .inr (List.getElem?_eq_none (by omega)).symm
    · rw [List.getElem?_set_ne h]
      exact clr_at rs
theorem clr_bor : ∀ {rs : List R} {i : Nat} {a : Addr} {s : Sl}, R.bor i a ∈ rs → (clr δ rs)[i]? = some s → s = .no
  | [], i, a, s, h, _ => by cases h
  | r :: rs, i, a, s, h, e => by
    rcases List.mem_cons.mp h with q | q
    · subst q
      have e' : ((clr δ rs).set i .no)[i]? = some s := e
      have hl : i < (clr δ rs).length := by simpa using (List.getElem?_eq_some_iff.mp e').1
      rw [List.getElem?_set_self hl] at e'
      cases e'
      rfl
    · cases r with
      | d x => exact clr_bor q e
      | own b x => exact clr_bor q e
      | deep b x gs => exact clr_bor q e
      | bor j b =>
        have e' : ((clr δ rs).set j .no)[i]? = some s := e
        by_cases hj : j = i
        · subst hj
          have hl : j < (clr δ rs).length := by simpa using (List.getElem?_eq_some_iff.mp e').1
          rw [List.getElem?_set_self hl] at e'
          cases e'
          rfl
        · rw [List.getElem?_set_ne hj] at e'
          exact clr_bor q e'
theorem not_clr (nd : (owned δ).Nodup) {rs : List R} {i : Nat} {a b : Addr} {s : Sl} (e : δ[i]? = some s) (hb : b ∈ ads s) (h : R.bor i a ∈ rs) : b ∉ owned (clr δ rs) := by
  intro z
  obtain ⟨j, t, e1, m⟩ := owned_mem z
  rcases clr_at rs (j := j) with q | q
  · rw [q] at e1; cases e1; cases m
  · have e2 : δ[j]? = some t := by rw [← q]; exact e1
    have hij := owned_uniq nd e hb e2 m
    subst hij
    have := clr_bor h e1
    subst this
    cases m
theorem lent_mem : ∀ {rs : List R} {b : Addr}, b ∈ lent δ rs → ∃ i a s, R.bor i a ∈ rs ∧ δ[i]? = some s ∧ b ∈ ads s
  | [], b, h => by cases h
  | .d x :: rs, b, h => by obtain ⟨i, a, s, e, h⟩ := lent_mem (rs := rs) h; exact ⟨i, a, s, List.mem_cons_of_mem _ e, h⟩
  | .own c x :: rs, b, h => by obtain ⟨i, a, s, e, h⟩ := lent_mem (rs := rs) h; exact ⟨i, a, s, List.mem_cons_of_mem _ e, h⟩
  | .deep c x gs :: rs, b, h => by obtain ⟨i, a, s, e, h⟩ := lent_mem (rs := rs) h; exact ⟨i, a, s, List.mem_cons_of_mem _ e, h⟩
  | .bor i a :: rs, b, h => by
    unfold lent at h
    rcases List.mem_append.mp h with q | q
    · split at q
      · rename_i s hs; exact ⟨i, a, s, List.mem_cons_self, hs, q⟩
      · cases q
    · obtain ⟨i, a, s, e, h⟩ := lent_mem (rs := rs) q; exact ⟨i, a, s, List.mem_cons_of_mem _ e, h⟩
/-- the slots filled with what the call has left -/
theorem fill_owned : ∀ {rs : List R} {as : List Sl} {b : Addr}, b ∈ owned (fill δ rs as) → b ∈ owned δ ∨ b ∈ owned as
  | [], as, b, hb => by cases as <;> exact .inl hb
  | r :: rs, [], b, hb => by cases r <;> exact .inl hb
  | r :: rs, s :: as, b, hb => by
    have step : b ∈ owned (fill δ rs as) → b ∈ owned δ ∨ b ∈ owned (s :: as) := fun hb => by
      rcases fill_owned hb with q | q
      · exact .inl q
      · exact .inr (by rw [owned_cons]; exact List.mem_append_right _ q)
    cases r with
    | d x => exact step hb
    | own a x => exact step hb
    | deep a x gs => exact step hb
    | bor i a =>
      have hb' : b ∈ owned ((fill δ rs as).set i s) := hb
      rcases owned_set_in hb' with q | q
      · exact .inr (by rw [owned_cons]; exact List.mem_append_left _ q)
      · exact step q
theorem fill_nodup : ∀ {rs : List R} {as : List Sl}, (owned δ).Nodup → (owned as).Nodup → (∀ a ∈ owned as, a ∉ owned δ) → (owned (fill δ rs as)).Nodup
  | [], as, n, n2, dj => by cases as <;> exact n
  | r :: rs, [], n, n2, dj => by cases r <;> exact n
  | r :: rs, s :: as, n, n2, dj => by
    rw [owned_cons] at n2 dj
    have n2' := List.nodup_append.mp n2
    have ih := fill_nodup (rs := rs) (as := as) n n2'.2.1 (fun b hb => dj b (List.mem_append_right _ hb))
    cases r with
    | d x => exact ih
    | own a x => exact ih
    | deep a x gs => exact ih
    | bor i a =>
      refine nodup_set ih n2'.1 fun b hb z => ?_
      rcases fill_owned z with q | q
      · exact dj b (List.mem_append_left _ hb) q
      · exact n2'.2.2 b hb b q rfl
theorem fill_sl : ∀ {rs : List R} {as : List Sl} {vs : List V}, RVs K G rs vs → SlsR K G' H' as (vs.map some) → (∀ i a, R.bor i a ∈ rs → σ[i]? = some (some (.ref a))) → SlsR K G' H' δ σ → SlsR K G' H' (fill δ rs as) σ
  | [], as, vs, h, h', hb, hs => by cases as <;> exact hs
  | r :: rs, [], vs, h, h', hb, hs => by cases r <;> exact hs
  | .d x :: rs, s :: as, vs, h, h', hb, hs => by
    obtain ⟨v, vr, e1, h1, h2⟩ := h
    subst e1
    obtain ⟨ov, σr, e2, h3, h4⟩ := h'
    cases e2
    have ih := fill_sl h2 h4 (fun i a m => hb i a (List.mem_cons_of_mem _ m)) hs
    exact ih
  | .own a x :: rs, s :: as, vs, h, h', hb, hs => by
    obtain ⟨v, vr, e1, h1, h2⟩ := h
    exact h1.elim
  | .deep a x gs :: rs, s :: as, vs, h, h', hb, hs => by
    obtain ⟨v, vr, e1, h1, h2⟩ := h
    subst e1
    obtain ⟨ov, σr, e2, h3, h4⟩ := h'
    cases e2
    have ih := fill_sl h2 h4 (fun i a m => hb i a (List.mem_cons_of_mem _ m)) hs
    exact ih
  | .bor i a :: rs, s :: as, vs, h, h', hb, hs => by
    obtain ⟨v, vr, e1, h1, h2⟩ := h
    subst e1
    have e3 : v = .ref a := h1
    subst e3
    obtain ⟨ov, σr, e2, h3, h4⟩ := h'
    cases e2
    have ih := fill_sl h2 h4 (fun i a m => hb i a (List.mem_cons_of_mem _ m)) hs
    refine ih.setS (ov := none) i fun ov e => ?_
    rw [hb i a List.mem_cons_self] at e
    cases e
    exact h3
theorem clr_sl : ∀ (rs : List R), SlsR K G H (clr δ rs) σ → (∀ a ∈ owned (clr δ rs), H' a = H a) → Ex G G' → SlsR K G' H' (clr δ rs) σ := fun rs h e eG => h.ex eG e
theorem clr_slR (h : SlsR K G H δ σ) : ∀ (rs : List R), SlsR K G H (clr δ rs) σ
  | [] => h
  | .d x :: rs => clr_slR h rs
  | .own a x :: rs => clr_slR h rs
  | .deep a x gs :: rs => clr_slR h rs
  | .bor i a :: rs => (clr_slR h rs).setS (ov := none) i fun _ _ => trivial
/-- what was lent, given back as it was -/
theorem fill_other : ∀ {rs : List R} {as : List Sl} {ε : List Sl} {j : Nat}, (∀ a, R.bor j a ∉ rs) → (fill ε rs as)[j]? = ε[j]?
  | [], as, ε, j, h => by cases as <;> rfl
  | r :: rs, [], ε, j, h => by cases r <;> rfl
  | r :: rs, s :: as, ε, j, h => by
    have ih := fill_other (rs := rs) (as := as) (ε := ε) (j := j) fun a m => h a (List.mem_cons_of_mem _ m)
    cases r with
    | d x => exact ih
    | own a x => exact ih
    | deep a x gs => exact ih
    | bor i a =>
      show ((fill ε rs as).set i s)[j]? = _
      rw [List.getElem?_set_ne (fun e => by subst e; exact h a List.mem_cons_self)]
      exact ih
theorem clr_other : ∀ {rs : List R} {j : Nat}, (∀ a, R.bor j a ∉ rs) → (clr δ rs)[j]? = δ[j]?
  | [], j, h => rfl
  | r :: rs, j, h => by
    have ih := clr_other (rs := rs) (j := j) fun a m => h a (List.mem_cons_of_mem _ m)
    cases r with
    | d x => exact ih
    | own a x => exact ih
    | deep a x gs => exact ih
    | bor i a =>
      show ((clr δ rs).set i .no)[j]? = _
      rw [List.getElem?_set_ne (fun e => by subst e; exact h a List.mem_cons_self)]
      exact ih
theorem fill_size : ∀ (rs : List R) (as : List Sl) (δ : List Sl), (fill δ rs as).length = δ.length
  | [], as, δ => by cases as <;> rfl
  | r :: rs, [], δ => by cases r <;> rfl
  | r :: rs, s :: as, δ => by
    cases r with
    | d x => exact fill_size rs as δ
    | own a x => exact fill_size rs as δ
    | deep a x gs => exact fill_size rs as δ
    | bor i a => show ((fill δ rs as).set i s).length = _; rw [List.length_set, fill_size rs as δ]
theorem clr_size : ∀ rs : List R, (clr δ rs).length = δ.length
  | [] => rfl
  | r :: rs => by
    cases r with
    | d x => exact clr_size rs
    | own a x => exact clr_size rs
    | deep a x gs => exact clr_size rs
    | bor i a => show ((clr δ rs).set i .no).length = _; rw [List.length_set, clr_size rs]
theorem fill_back : ∀ {rs : List R} {as : List Sl} {ε : List Sl} {j : Nat} {a : Addr}, toAs δ rs = some as → ε.length = δ.length → R.bor j a ∈ rs → (fill ε rs as)[j]? = δ[j]?
  | [], as, ε, j, a, e, hl, h => by cases h
  | r :: rs, as, ε, j, a, e, hl, h => by
    cases r with
    | d x =>
      unfold toAs at e
      cases q : toAs δ rs with
      | none => rw [q] at e; cases e
      | some es =>
        rw [q] at e
        cases e
        rcases List.mem_cons.mp h with z | z
        · cases z
        · exact fill_back (rs := rs) (as := es) (ε := ε) (j := j) (a := a) q hl z
    | own b x => cases e
    | deep b x gs => cases e
    | bor i b =>
      have main : ∀ (s : Sl) (es : List Sl), toAs δ rs = some es → δ[i]? = some s → (fill ε (.bor i b :: rs) (s :: es))[j]? = δ[j]? := fun s es q hs => by
        show ((fill ε rs es).set i s)[j]? = _
        by_cases hj : i = j
        · subst hj
          have hi := (List.getElem?_eq_some_iff.mp hs).1
          rw [List.getElem?_set_self (by rw [fill_size, hl]; exact hi), hs]
        · rw [List.getElem?_set_ne hj]
          rcases List.mem_cons.mp h with z | z
          · cases z; exact absurd rfl hj
          · exact fill_back (rs := rs) (as := es) (ε := ε) (j := j) (a := a) q hl z
      unfold toAs at e
      split at e
      · rename_i c x hx
        split at e
        · rename_i q2
          subst q2
          cases q : toAs δ rs with
          | none => rw [q] at e; cases e
          | some es => rw [q] at e; cases e; exact main _ es q hx
        · cases e
      · rename_i c x gs hx
        split at e
        · rename_i q2
          subst q2
          cases q : toAs δ rs with
          | none => rw [q] at e; cases e
          | some es => rw [q] at e; cases e; exact main _ es q hx
        · cases e
      · cases e
theorem toAs_back {rs : List R} {as : List Sl} (h : toAs δ rs = some as) : backAs δ rs as = δ := by
  apply List.ext_getElem?
  intro j
  unfold backAs
  by_cases q : ∃ a, R.bor j a ∈ rs
  · obtain ⟨a, q⟩ := q
    exact fill_back h (clr_size rs) q
  · have q' : ∀ a, R.bor j a ∉ rs := fun a m => q ⟨a, m⟩
    rw [fill_other q', clr_other q']
/-- THE CALL: the callee's frame, and back -/
theorem call_in {rs : List R} {as : List Sl} {vs : List V} (F : Frame K B G H σ δ) (hv : RVs K G rs vs) (hto : toAs δ rs = some as) (nd : (owned as).Nodup) :
    ∃ Bc, Frame K Bc G H (vs.map some) as ∧ ∀ (as' : List Sl) (G' H' : Hp), Ex G G' → Frame K Bc G' H' (vs.map some) as' → Frame K B G' H' σ (backAs δ rs as') ∧ (∀ (r : R) (v : V), ownOut r → RV K Bc G' H' as' r v → RV K B G' H' (backAs δ rs as') r v) ∧ (noBor rs = true → backAs δ rs as' = δ ∧ Ex H H') := by
  have hown := toAs_owned hto
  have hlent : ∀ a ∈ lent δ rs, B a = none ∧ G a = none ∧ a ∉ owned (clr δ rs) := fun a ha => by
    obtain ⟨i, b, s, hi, hx, hm⟩ := lent_mem ha
    exact ⟨(F.own a (owned_getA hx hm)).1, (F.own a (owned_getA hx hm)).2, not_clr F.nd hx hm hi⟩
  have hσ : ∀ i a, R.bor i a ∈ rs → σ[i]? = some (some (.ref a)) := fun i a h => (toAs_at F hto h).2
  let Bc : Hp := fun b => if (G b).isSome = true ∨ b ∈ owned as then none else H b
  have bc_some : ∀ b o, H b = some o → G b = none → b ∉ owned as → Bc b = some o := fun b o h1 h2 h3 => by
    show (if (G b).isSome = true ∨ b ∈ owned as then none else H b) = some o
    rw [if_neg (by rw [h2]; simp [h3])]
    exact h1
  have bc_none : ∀ b, Bc b = none → (G b).isSome = true ∨ b ∈ owned as ∨ H b = none := fun b h => by
    have h' : (if (G b).isSome = true ∨ b ∈ owned as then none else H b) = none := h
    by_cases q : (G b).isSome = true ∨ b ∈ owned as
    · rcases q with q | q
      · exact .inl q
      · exact .inr (.inl q)
    · rw [if_neg q] at h'
      exact .inr (.inr h')
  have bc_H : ∀ b o, Bc b = some o → H b = some o ∧ G b = none ∧ b ∉ owned as := fun b o h => by
    have h' : (if (G b).isSome = true ∨ b ∈ owned as then none else H b) = some o := h
    by_cases q : (G b).isSome = true ∨ b ∈ owned as
    · rw [if_pos q] at h'; cases h'
    · rw [if_neg q] at h'
      refine ⟨h', ?_, fun z => q (.inr z)⟩
      cases e : G b with
      | none => rfl
      | some u => exact absurd (.inl (by rw [e]; rfl)) q
  refine ⟨Bc, ⟨fun b o h => (bc_H b o h).1, F.exG, fun b => ?_, toAs_sl F hto hv, fun a ha => ⟨?_, ?_⟩, nd⟩, fun as' G' H' eG F' => ?_⟩
  · cases e : Bc b with
    | none => exact .inl rfl
    | some o => exact .inr (.inl (bc_H b o e).2.1)
  · cases e : Bc a with
    | none => rfl
    | some o => exact absurd ha (bc_H a o e).2.2
  · rw [hown] at ha
    exact (hlent a ha).2.1
  · -- behind the call
    have keep : ∀ b o, H b = some o → G b = none → b ∉ owned as → H' b = some o ∧ AptV (some o) (G' b) := fun b o h1 h2 h3 => by
      have h4 := bc_some b o h1 h2 h3
      refine ⟨F'.exB b o h4, ?_⟩
      have q := F'.dis b
      rw [h4] at q
      exact q
    have hclr : ∀ a ∈ owned (clr δ rs), (∃ o, H a = some o ∧ ∀ xs, o ≠ .tup xs) ∧ G a = none ∧ B a = none ∧ a ∉ owned as := fun a ha => by
      have ha' := (clr_sub rs).subset ha
      exact ⟨F.obj ha', (F.own a ha').2, (F.own a ha').1, fun z => by rw [hown] at z; exact (hlent a z).2.2 ha⟩
    have sl0 : SlsR K G' H' (clr δ rs) σ := clr_sl (H := H) rs (clr_slR F.sl rs) (fun a ha => by
      obtain ⟨⟨o, h1, _⟩, h2, _, h3⟩ := hclr a ha
      rw [h1, (keep a o h1 h2 h3).1]) eG
    have newB : ∀ b, Bc b = none → G' b = none → B b = none ∧ b ∉ owned (clr δ rs) := fun b h h3 => by
      rcases bc_none b h with q | q | q
      · cases e : G b with
        | none => rw [e] at q; cases q
        | some o => rw [eG b o e] at h3; cases h3
      · rw [hown] at q
        exact ⟨(hlent b q).1, (hlent b q).2.2⟩
      · refine ⟨Evl.fresh_back F.exB q, fun z => ?_⟩
        obtain ⟨⟨o, h5, _⟩, _⟩ := hclr b z
        rw [q] at h5
        cases h5
    have F2 : Frame K B G' H' σ (backAs δ rs as') := by
      refine ⟨fun b o h => ?_, F'.exG, fun b => ?_, fill_sl hv F'.sl hσ sl0, fun a ha => ?_, fill_nodup (F.nd.sublist (clr_sub rs)) F'.nd fun a ha => (newB a (F'.own a ha).1 (F'.own a ha).2).2⟩
      · have h1 := F.exB b o h
        have nl : b ∉ owned as := fun z => by
          rw [hown] at z
          rw [(hlent b z).1] at h
          cases h
        rcases F.dis b with q | q | ⟨xs, q⟩
        · rw [h] at q; cases q
        · exact (keep b o h1 q nl).1
        · have h2 := F.exG b _ q
          rw [h1] at h2
          cases h2
          exact F'.exG b _ (eG b _ q)
      · cases e : B b with
        | none => exact .inl rfl
        | some o =>
          have h1 := F.exB b o e
          have nl : b ∉ owned as := fun z => by
            rw [hown] at z
            rw [(hlent b z).1] at e
            cases e
          rcases F.dis b with q | q | ⟨xs, q⟩
          · rw [e] at q; cases q
          · exact (keep b o h1 q nl).2
          · exact .inr (.inr ⟨xs, eG b _ q⟩)
      · rcases fill_owned ha with q | q2
        · obtain ⟨⟨o, h1, n⟩, h2, h4, h3⟩ := hclr a q
          exact ⟨h4, F'.disN (bc_some a o h1 h2 h3) n⟩
        · exact ⟨(newB a (F'.own a q2).1 (F'.own a q2).2).1, (F'.own a q2).2⟩
    refine ⟨F2, fun r v hr rv => ?_, fun hn => ⟨?_, fun b o h => ?_⟩⟩
    · cases r with
      | d x => exact rv
      | bor i a => exact hr.elim
      | own a x =>
        obtain ⟨e1, h1, h2, h3, h4⟩ := rv
        have hBa := newB a h2 h3
        refine ⟨e1, h1, hBa.1, h3, fun z => ?_⟩
        rcases fill_owned z with q | q
        · exact hBa.2 q
        · exact h4 q
      | deep a x gs =>
        obtain ⟨e1, h1, h2, h3, h4⟩ := rv
        refine ⟨e1, h1, h2, fun b hb => ?_, h4⟩
        obtain ⟨q1, q2, q3⟩ := h3 b hb
        have hBa := newB b q1 q2
        refine ⟨hBa.1, q2, fun z => ?_⟩
        rcases fill_owned z with q | q
        · exact hBa.2 q
        · exact q3 q
    · unfold backAs
      rw [fill_no hn, clr_no hn]
    · cases e : G b with
      | some u =>
        have h1 := F.exG b u e
        rw [h] at h1
        cases h1
        exact F'.exG b o (eG b o e)
      | none => exact (keep b o h e (by rw [hown, lent_no hn]; exact fun z => by cases z)).1
/-- THE CALL: from the arguments' words to the caller's slots behind it -/
theorem call_core {S : SpD} {Φ : R → List Sl → Prop} {rs : List R} {as : List Sl} {vs : List V} {Q : VK} {X : XK} (F : Frame K B G H σ δ) (hv : RVs K G rs vs) (hto : toAs δ rs = some as) (nd : (owned as).Nodup)
    (hS : ∀ Ψ : R → List Sl → Prop, (∀ r as', ownOut r → Φ r (backAs δ rs as') → Ψ r as') → S as Ψ)
    (k : ∀ r δ' v G' H', Φ r δ' → Ex G G' → Frame K B G' H' σ δ' → RV K B G' H' δ' r v → (noBor rs = true → δ' = δ ∧ Ex H H') → Q v H') : lift K S vs H Q X := by
  obtain ⟨Bc, F0, hb⟩ := call_in F hv hto nd
  refine ⟨Bc, G, as, F0, hS _ fun r as' hr hΦ v G' H' eG F' rv => ?_⟩
  obtain ⟨F2, hr2, hn⟩ := hb as' G' H' eG F'
  exact k r _ v G' H' hΦ eG F2 (hr2 r v hr rv) hn
end
theorem we_call {S : SpD} {tr : TA} {X : XK} {Φ : R → List Sl → Prop} (h : WA c p tr δ fun rs δ1 => ∃ as, toAs δ1 rs = some as ∧ (owned as).Nodup ∧ (p = true → noBor rs = true) ∧
    ∀ Ψ : R → List Sl → Prop, (∀ r as', ownOut r → Φ r (backAs δ1 rs as') → Ψ r as') → S as Ψ) : WE c p (tCall (lift c.K S) [] X tr) δ Φ := by
  intro B G H σ Q F x k
  refine h B G H σ _ F x fun rs δ1 vs G1 H1 w e1 F1 rv p1 => ?_
  obtain ⟨as, hto, nd, hp, hS⟩ := w
  show lift c.K S (vs ++ []) H1 Q X
  rw [List.append_nil]
  exact call_core F1 rv hto nd hS fun r δ' v G' H' q eG F' rv' n => k r δ' v G' H' q (e1.trans eG) F' rv' fun hp' => ⟨(n (hp hp')).1.trans (p1 hp').1, (p1 hp').2.trans (n (hp hp')).2⟩
/-- the parameters' words behind the body -/
def parOk : List Sl → List Sl → Prop
  | .own a _ :: as, .own b _ :: δ => b = a ∧ parOk as δ
  | .own a _ :: as, .deep b _ _ :: δ => b = a ∧ parOk as δ
  | .own _ _ :: _, _ => False
  | .deep a _ _ :: as, .deep b _ _ :: δ => b = a ∧ parOk as δ
  | .deep a _ _ :: as, .own b _ :: δ => b = a ∧ parOk as δ
  | .deep _ _ _ :: _, _ => False
  | _ :: as, _ :: δ => parOk as δ
  | _ :: _, [] => False
  | [], _ => True
def parBack : List Sl → List Sl → List Sl
  | .own _ _ :: as, s :: δ => s :: parBack as δ
  | .deep _ _ _ :: as, s :: δ => s :: parBack as δ
  | s :: as, _ :: δ => s :: parBack as δ
  | _, _ => []
/-- a slot's own, handed back -/
def outR (δ : List Sl) (i : Nat) : Option (Addr × R) := match δ[i]? with
  | some (.own a x) => some (a, .own a x)
  | some (.deep a x gs) => some (a, .deep a x gs)
  | _ => none
/-- what the body hands back -/
def RetD (as : List Sl) (Φ : R → List Sl → Prop) (r : R) (δ : List Sl) : Prop := parOk as δ ∧ match r with
  | .d x => Φ (.d x) (parBack as δ)
  | .own a x => Φ (.own a x) (parBack as δ)
  | .deep a x gs => Φ (.deep a x gs) (parBack as δ)
  | .bor i a => as.length ≤ i ∧ ∃ r', outR δ i = some (a, r') ∧ Φ r' (parBack as δ)
abbrev defEn (as : List Sl) (Φ : R → List Sl → Prop) : En := { nx := RetD as Φ (.d .non), rt := RetD as Φ }
section
variable {K : PySem.W.Frag} {B G G' H H' : Hp} {σ : St}
/-- parOk, slot by slot -/
def root : Sl → Option Addr
  | .own a _ => some a
  | .deep a _ _ => some a
  | _ => none
theorem parOk_cons {s t : Sl} {as δ : List Sl} (h : parOk (s :: as) (t :: δ)) : (root s = none ∨ root t = root s) ∧ parOk as δ := by
  cases s with
  | no => exact ⟨.inl rfl, h⟩
  | d x => exact ⟨.inl rfl, h⟩
  | own a x =>
    cases t with
    | no => exact h.elim
    | d x => exact h.elim
    | own b y => exact ⟨.inr (congrArg some h.1), h.2⟩
    | deep b y gs => exact ⟨.inr (congrArg some h.1), h.2⟩
  | deep a x gs =>
    cases t with
    | no => exact h.elim
    | d x => exact h.elim
    | own b y => exact ⟨.inr (congrArg some h.1), h.2⟩
    | deep b y gs => exact ⟨.inr (congrArg some h.1), h.2⟩
theorem parBack_cons (s t : Sl) (as δ : List Sl) : parBack (s :: as) (t :: δ) = (if (root s).isSome = true then t else s) :: parBack as δ := by cases s <;> rfl
theorem root_sl {s : Sl} {ov : Option V} {a : Addr} (h : SlR K G H s ov) (e : root s = some a) : ov = some (.ref a) := by
  cases s with
  | no => cases e
  | d x => cases e
  | own b x => cases e; exact h.1
  | deep b x gs => cases e; exact h.1
theorem ads_none {s : Sl} (h : root s = none) : ads s = [] := by cases s <;> first | rfl | cases h
theorem root_any {s : Sl} {ov ov' : Option V} (h : SlR K G H s ov) (e : ov' = ov) : SlR K G H s ov' := by subst e; exact h
theorem par_sl : ∀ {as δ : List Sl} {vs : List V} {σ : St}, SlsR K G H as (vs.map some) → parOk as δ → SlsR K G' H' δ σ → Ex G G' → SlsR K G' H' (parBack as δ) (vs.map some)
  | [], δ, vs, σ, h, ok, h', e => by
    cases vs with
    | nil => cases δ <;> exact (rfl : ([] : St) = [])
    | cons v vs => have z : some v :: vs.map some = [] := h; cases z
  | s :: as, [], vs, σ, h, ok, h', e => by cases s <;> exact ok.elim
  | s :: as, t :: δ, vs, σ, h, ok, h', e => by
    obtain ⟨ov, σr, e1, h1, h2⟩ := h
    obtain ⟨ov', σr', e1', h1', h2'⟩ := h'
    obtain ⟨hr, ok⟩ := parOk_cons ok
    cases vs with
    | nil => cases e1
    | cons v vs =>
      cases e1
      rw [parBack_cons]
      refine ⟨some v, vs.map some, rfl, ?_, par_sl h2 ok h2' e⟩
      cases q : root s with
      | none => exact SlR.ex e (fun a ha => by rw [show (if (none : Option Addr).isSome = true then t else s) = s from rfl, ads_none q] at ha; cases ha) h1
      | some a =>
        rcases hr with z | z
        · rw [q] at z; cases z
        · rw [q] at z
          exact root_any h1' ((root_sl h1 q).trans (root_sl h1' z).symm)
theorem parBack_sub' : ∀ {as δ : List Sl}, parOk as δ → (owned (parBack as δ)).Sublist (owned (δ.take as.length))
  | [], δ, _ => by cases δ <;> exact List.nil_sublist _
  | s :: as, [], ok => by cases s <;> exact ok.elim
  | s :: as, t :: δ, ok => by
    obtain ⟨hr, ok⟩ := parOk_cons ok
    rw [parBack_cons]
    show List.Sublist _ (owned (t :: δ.take as.length))
    rw [owned_cons, owned_cons]
    refine List.Sublist.append ?_ (parBack_sub' ok)
    cases q : root s with
    | none => show List.Sublist (ads s) _; rw [ads_none q]; exact List.nil_sublist _
    | some a => exact List.Sublist.refl _
theorem owned_take (δ : List Sl) (n : Nat) : (owned (δ.take n)).Sublist (owned δ) := by
  have e : owned δ = owned (δ.take n) ++ owned (δ.drop n) := by rw [← owned_append, List.take_append_drop]
  rw [e]
  exact List.sublist_append_left _ _
theorem parBack_sub {as δ : List Sl} (ok : parOk as δ) : (owned (parBack as δ)).Sublist (owned δ) := (parBack_sub' ok).trans (owned_take δ _)
/-- an owned place beyond the parameters is none of theirs -/
theorem parBack_not {as δ : List Sl} {i : Nat} {b : Addr} {s : Sl} (nd : (owned δ).Nodup) (ok : parOk as δ) (hi : as.length ≤ i) (e : δ[i]? = some s) (hb : b ∈ ads s) : b ∉ owned (parBack as δ) := by
  intro z
  have z1 := (parBack_sub' ok).subset z
  have z2 : b ∈ owned (δ.drop as.length) := owned_getA (i := i - as.length) (by rw [List.getElem?_drop, show as.length + (i - as.length) = i by omega]; exact e) hb
  have e2 : owned δ = owned (δ.take as.length) ++ owned (δ.drop as.length) := by rw [← owned_append, List.take_append_drop]
  rw [e2] at nd
  exact (List.nodup_append.mp nd).2.2 b z1 b z2 rfl
/-- a slot's own, handed back: as a new one -/
theorem outR_rv {as δ : List Sl} {i : Nat} {a : Addr} {r : R} {v : V} (F : Frame K B G H σ δ) (ok : parOk as δ) (hi : as.length ≤ i) (h : outR δ i = some (a, r)) (hv : v = .ref a) : RV K B G H (parBack as δ) r v ∧ ownOut r := by
  unfold outR at h
  split at h
  · rename_i b x ex
    cases h
    obtain ⟨ov, _, _, h3⟩ := F.get ex
    have hm : a ∈ ads (.own a x) := List.mem_singleton.mpr rfl
    exact ⟨⟨hv, h3, (F.own a (owned_get ex)).1, (F.own a (owned_get ex)).2, parBack_not F.nd ok hi ex hm⟩, trivial⟩
  · rename_i b x gs ex
    cases h
    obtain ⟨ov, _, _, h3, h4⟩ := F.get ex
    refine ⟨⟨hv, h3, h4, fun b hb => ⟨(F.own b (owned_getA ex hb)).1, (F.own b (owned_getA ex hb)).2, parBack_not F.nd ok hi ex hb⟩, ?_⟩, trivial⟩
    obtain ⟨l1, l2, e⟩ := List.append_of_mem (List.mem_of_getElem? ex)
    have nd := F.nd
    rw [e, owned_append, owned_cons] at nd
    exact (List.nodup_append.mp (List.nodup_append.mp nd).2.1).1
  · cases h
/-- A DEF: its body from its parameters' words -/
theorem lift_body {S : SpD} {t : TS} {N : List Str} {vs : List V} {H : Hp} {Q : VK} {X : XK} (h : lift K S vs H Q X)
    (hb : ∀ as Φ, as.length = vs.length → S as Φ → WS (c0 K) t (as ++ List.replicate (N.length - as.length) .no) (defEn as Φ)) : t { nx := fun _ H' => Q .non H', rt := Q } (start N vs) H := by
  obtain ⟨B, G, as, F, hS⟩ := h
  have hl : as.length = vs.length := by have e := F.sl.len; simpa using e.symm
  have F0 : Frame K B G H (L2.start N vs) (as ++ List.replicate (N.length - as.length) .no) := by
    have e0 : owned (as ++ List.replicate (N.length - as.length) .no) = owned as := by rw [owned_append, owned_no, List.append_nil]
    refine ⟨F.exB, F.exG, F.dis, ?_, by rw [e0]; exact F.own, by rw [e0]; exact F.nd⟩
    unfold L2.start
    rw [hl]
    refine F.sl.append ?_
    have z := SlsR.nos (K := K) (G := G) (H := H) (List.replicate (N.length - vs.length) none)
    rw [List.length_replicate] at z
    exact z
  have fin : ∀ (δ' : List Sl) (σ' : St) (G' H' : Hp), parOk as δ' → Ex G G' → Frame K B G' H' σ' δ' → Frame K B G' H' (vs.map some) (parBack as δ') := fun δ' σ' G' H' ok e F' =>
    ⟨F'.exB, F'.exG, F'.dis, par_sl F.sl ok F'.sl e, fun a ha => F'.own a ((parBack_sub ok).subset ha), F'.nd.sublist (parBack_sub ok)⟩
  refine hb as _ hl hS B G H (L2.start N vs) _ F0 trivial ⟨fun δ' σ' G' H' w eG F' => ?_, fun r δ' v σ' G' H' w eG F' rv => ?_, fun _ _ _ _ w => w.elim, fun _ _ _ _ w => w.elim⟩
  · exact w.2 .non G' H' eG (fin δ' σ' G' H' w.1 eG F') (rep_non (K := K) (G := G'))
  · obtain ⟨ok, w⟩ := w
    cases r with
    | d x => exact w v G' H' eG (fin δ' σ' G' H' ok eG F') rv
    | own a x =>
      obtain ⟨e1, h1, h2, h3, h4⟩ := rv
      exact w v G' H' eG (fin δ' σ' G' H' ok eG F') ⟨e1, h1, h2, h3, fun z => h4 ((parBack_sub ok).subset z)⟩
    | deep a x gs =>
      obtain ⟨e1, h1, h2, h3, h4⟩ := rv
      exact w v G' H' eG (fin δ' σ' G' H' ok eG F') ⟨e1, h1, h2, fun b hb => ⟨(h3 b hb).1, (h3 b hb).2.1, fun z => (h3 b hb).2.2 ((parBack_sub ok).subset z)⟩, h4⟩
    | bor i a =>
      obtain ⟨hi, r', ex, w⟩ := w
      obtain ⟨e1, _⟩ := rv
      exact w v G' H' eG (fin δ' σ' G' H' ok eG F') (outR_rv F' ok hi ex e1).1
end
end
end DL

/-! DL3: loops and comprehensions. -/
namespace DL
open PySem PySem.Spec PyProof.Rows L2
open Evl (Ex)
section
variable {c : Cd} {p : Bool} {δ : List Sl} {te ta tb : TE} {E : En} {t u : TS} {tt : TT} {g : TG}
/-! ### what is walked -/
def Yl (K : PySem.W.Frag) (G : Hp) (ds : List D) (Y : Nat → Hp → V → Hp → Prop) : Prop := ∀ i H2 x H3, i < ds.length → Y i H2 x H3 →
  (H3 = H2 ∧ ∃ d, ds[i]? = some d ∧ Rep K G d x) ∨ ∃ (T : Addr) (o : HO) (d : D), H2 T = none ∧ H3 = upd H2 T o ∧ ds[i]? = some d ∧ ∀ G2, Ex G G2 → G2 T = none → Rep K (upd G2 T o) d x
def WI (c : Cd) (p : Bool) (wi : TI) (δ : List Sl) (Φ : List D → List Sl → Prop) : Prop :=
  ∀ (B G H : Hp) (σ : St) (R : It → Hp → Prop), Frame c.K B G H σ δ → c.xr B G →
    (∀ ds δ' J G' H', Φ ds δ' → Ex G G' → Frame c.K B G' H' σ δ' → (p = true → δ' = δ ∧ Ex H H') →
      (∃ Gd Y, Walk J ds.length Gd Y ∧ (∀ H2, Ex G' H2 → Gd H2) ∧ Yl c.K G' ds Y) → R J H') → wi σ H R
theorem sql {K : PySem.W.Frag} {H : Hp} {a : Addr} {xs : List V} (h : Rd H a (.lst xs)) : SqL K H a xs := Or.inl h
def rangeD (lo : Int) (n : Nat) : List D := (List.range n).map fun (i : Nat) => D.int (lo + (i : Int))
theorem rangeD_len (lo : Int) (n : Nat) : (rangeD lo n).length = n := by unfold rangeD; simp
theorem rangeD_get {lo : Int} {n i : Nat} {d : D} (h : (rangeD lo n)[i]? = some d) : i < n ∧ d = .int (lo + i) := by
  unfold rangeD at h
  rw [List.getElem?_map] at h
  by_cases hi : i < n
  · rw [List.getElem?_range hi] at h
    cases h
    exact ⟨hi, rfl⟩
  · rw [List.getElem?_eq_none (by simpa using hi)] at h
    cases h
theorem rangeD_at {lo : Int} {n i : Nat} (h : i < n) : (rangeD lo n)[i]? = some (.int (lo + i)) := by
  unfold rangeD
  rw [List.getElem?_map, List.getElem?_range h]
  rfl
theorem wi_range1 {tr : TA} {Φ : List D → List Sl → Prop} (h : WA c p tr δ fun rs δ1 => ∃ j : Int, rs = [.d (.int j)] ∧ -(2 ^ 62) ≤ j ∧ j < 2 ^ 62 ∧ Φ (rangeD 0 j.toNat) δ1) : WI c p (iRng1 tr) δ Φ := by
  intro B G H σ R F x k
  refine h B G H σ _ F x fun rs δ1 vs G1 H1 w e1 F1 rv p1 => ?_
  obtain ⟨j, e, h1, h2, w⟩ := w
  subst e
  obtain ⟨v, vr, e2, h3, h4⟩ := rv
  have e3 : vr = [] := h4
  have e4 : v = .int j := by have h3' : Rep c.K G1 (.int j) v := h3; unfold Rep at h3'; exact h3'
  subst e4
  subst e3
  subst e2
  refine ⟨j, rfl, h1, h2, k _ δ1 _ G1 H1 w e1 F1 p1 ⟨_, YFn fun q => .int (0 + (q : Int)), by rw [rangeD_len]; exact walk_range, fun _ _ => trivial, fun i2 H2 y H3 hi (yy : YFn (fun q => .int (0 + (q : Int))) i2 H2 y H3) => .inl ⟨yy.1, _, rangeD_at (by rw [rangeD_len] at hi; exact hi), ?_⟩⟩⟩
  rw [yy.2]
  exact rep_int
theorem wi_range2 {tr : TA} {Φ : List D → List Sl → Prop} (h : WA c p tr δ fun rs δ1 => ∃ i j : Int, rs = [.d (.int i), .d (.int j)] ∧ (-(2 ^ 62) ≤ i ∧ i < 2 ^ 62 ∧ -(2 ^ 62) ≤ j ∧ j < 2 ^ 62) ∧ Φ (rangeD i (j - i).toNat) δ1) : WI c p (iRng2 tr) δ Φ := by
  intro B G H σ R F x k
  refine h B G H σ _ F x fun rs δ1 vs G1 H1 w e1 F1 rv p1 => ?_
  obtain ⟨i, j, e, h1, w⟩ := w
  subst e
  obtain ⟨v, vr, e2, h3, v2, vr2, e22, h32, h4⟩ := rv
  have e3 : vr2 = [] := h4
  have e4 : v = .int i := by have h3' : Rep c.K G1 (.int i) v := h3; unfold Rep at h3'; exact h3'
  have e5 : v2 = .int j := by have h3' : Rep c.K G1 (.int j) v2 := h32; unfold Rep at h3'; exact h3'
  subst e4 e5 e3 e22 e2
  refine ⟨i, j, rfl, h1, k _ δ1 _ G1 H1 w e1 F1 p1 ⟨_, YFn fun q => .int (i + (q : Int)), by rw [rangeD_len]; exact walk_range, fun _ _ => trivial, fun i2 H2 y H3 hi (yy : YFn (fun q => .int (i + (q : Int))) i2 H2 y H3) => .inl ⟨yy.1, _, rangeD_at (by rw [rangeD_len] at hi; exact hi), ?_⟩⟩⟩
  rw [yy.2]
  exact rep_int
def signsD (z : Str) : List D := z.cps.toList.map fun ch => D.str ⟨#[ch]⟩
theorem yl_pair {K : PySem.W.Frag} {G : Hp} {f g : Nat → Option V} {ds : List D} (h : ∀ i x y, i < ds.length → f i = some x → g i = some y → ∃ d e, ds[i]? = some (.tup [d, e]) ∧ Rep K G d x ∧ Rep K G e y) : Yl K G ds (YPair f g) := by
  intro i H2 v H3 hi y
  obtain ⟨T, x, z, e1, h1, e2, e3, e4⟩ := y
  obtain ⟨d, e, h2, h3, h4⟩ := h i x z hi e3 e4
  refine .inr ⟨T, _, .tup [d, e], h1, e2, h2, fun G2 eG hT => ?_⟩
  rw [e1]
  exact rep_newT hT (reps_cons (h3.mono eG) (reps_one (h4.mono eG)))
def enumD (ds : List D) : List D := (List.range ds.length).map fun (i : Nat) => D.tup [.int (i : Int), ds.getD i .non]
theorem wi_enum {tr : TA} {Φ : List D → List Sl → Prop} (h : WA c p tr δ fun rs δ1 => ∃ ds, rs = [.d (.lst ds)] ∧ Φ (enumD ds) δ1) : WI c p (iEnum c.K tr) δ Φ := by
  intro B G H σ R F x k
  refine h B G H σ _ F x fun rs δ1 vs G1 H1 w e1 F1 rv p1 => ?_
  obtain ⟨ds, e, w⟩ := w
  subst e
  obtain ⟨v, vr, e2, h3, h4⟩ := rv
  have e3 : vr = [] := h4
  have h3' : Rep c.K G1 (.lst ds) v := h3
  unfold Rep at h3'
  obtain ⟨a, xs, e4, h5, h6⟩ := h3'
  subst e4 e3 e2
  have el : (enumD ds).length = xs.length := by unfold enumD; simp [reps_length h6]
  refine ⟨a, xs, rfl, .inl (Rd.of (F1.exG _ _ h5)), k _ δ1 _ G1 H1 w e1 F1 p1 ⟨_, _, by rw [el]; exact walk_enum, fun H2 e => sql (Rd.of (e _ _ h5)), yl_pair fun i x y hi hx hy => ?_⟩⟩
  cases hx
  obtain ⟨d, hd, hr⟩ := reps_getV h6 hy
  have hi2 : i < ds.length := (List.getElem?_eq_some_iff.mp hd).1
  refine ⟨.int i, d, ?_, rep_int, hr⟩
  unfold enumD
  rw [List.getElem?_map, List.getElem?_range hi2]
  show some (D.tup [.int (i : Int), ds.getD i .non]) = _
  rw [List.getD_eq_getElem?_getD, hd]
  rfl
def zipD (ds es : List D) : List D := (ds.zip es).map fun q => D.tup [q.1, q.2]
theorem wi_zip {tr : TA} {Φ : List D → List Sl → Prop} (h : WA c p tr δ fun rs δ1 => ∃ ds es, rs = [.d (.lst ds), .d (.lst es)] ∧ Φ (zipD ds es) δ1) : WI c p (iZip c.K tr) δ Φ := by
  intro B G H σ R F x k
  refine h B G H σ _ F x fun rs δ1 vs G1 H1 w e1 F1 rv p1 => ?_
  obtain ⟨ds, es, e, w⟩ := w
  subst e
  obtain ⟨v, vr, e2, h3, v2, vr2, e22, h32, h4⟩ := rv
  have e3 : vr2 = [] := h4
  have h3' : Rep c.K G1 (.lst ds) v := h3
  unfold Rep at h3'
  obtain ⟨a, xs, e4, h5, h6⟩ := h3'
  have h32' : Rep c.K G1 (.lst es) v2 := h32
  unfold Rep at h32'
  obtain ⟨b, ys, e5, h7, h8⟩ := h32'
  subst e4 e5 e3 e22 e2
  have el : (zipD ds es).length = min xs.length ys.length := by unfold zipD; simp [reps_length h6, reps_length h8]
  refine ⟨a, b, xs, ys, rfl, .inl (Rd.of (F1.exG _ _ h5)), .inl (Rd.of (F1.exG _ _ h7)), k _ δ1 _ G1 H1 w e1 F1 p1 ⟨_, _, walk_zip el, fun H2 e => ⟨sql (Rd.of (e _ _ h5)), sql (Rd.of (e _ _ h7))⟩, yl_pair fun i x y hi hx hy => ?_⟩⟩
  obtain ⟨d, hd, hr⟩ := reps_getV h6 hx
  obtain ⟨d2, hd2, hr2⟩ := reps_getV h8 hy
  refine ⟨d, d2, ?_, hr, hr2⟩
  unfold zipD
  rw [List.getElem?_map, (List.getElem?_zip_eq_some (z := (d, d2))).mpr ⟨hd, hd2⟩]
  rfl
/-! ### loops -/
theorem ws_for {wi : TI} (h : WI c p wi δ fun ds δ1 => ∃ I : Nat → List Sl → Prop, I 0 δ1 ∧
    (∀ i d δ2, ds[i]? = some d → I i δ2 → WG c g (.d d) δ2 fun δ3 => WS c t δ3 { E with nx := I (i + 1), ct := I (i + 1), bk := E.nx }) ∧ ∀ δ2, I ds.length δ2 → E.nx δ2) : WS c (tFor wi g t) δ E := by
  intro B G H σ Dd F x e
  refine h B G H σ _ F x fun ds δ1 J G1 H1 w e1 F1 p1 ww => ?_
  obtain ⟨I, i0, it, iend⟩ := w
  obtain ⟨Gd, Y, W, hG, hY⟩ := ww
  refine for_it W (fun i σ' H' => ∃ δ' G', I i δ' ∧ Ex G1 G' ∧ Frame c.K B G' H' σ' δ') ⟨δ1, G1, i0, Ex.refl G1, F1⟩ (fun i σ' H' _ ⟨δ', G', _, e2, F2⟩ => hG H' (e2.trans F2.exG)) (fun i y σ' H2 H3 hi pv yy => ?_) fun σ' H' ⟨δ', G', hI, e2, F2⟩ => e.nx δ' σ' G' H' (iend δ' hI) (e1.trans e2) F2
  obtain ⟨δ', G', hI, e2, F2⟩ := pv
  have go : ∀ (d : D) (G2 H2 : Hp), ds[i]? = some d → Ex G1 G2 → Frame c.K B G2 H2 σ' δ' → Rep c.K G2 d y → g y σ' H2 fun σ2 H2 => t { Dd with nx := fun σ' H' => ∃ δ' G', I (i + 1) δ' ∧ Ex G1 G' ∧ Frame c.K B G' H' σ' δ', ct := fun σ' H' => ∃ δ' G', I (i + 1) δ' ∧ Ex G1 G' ∧ Frame c.K B G' H' σ' δ', bk := Dd.nx } σ2 H2 := by
    intro d G2 H2 hd e3 F3 hr
    refine it i d δ' hd hI B G2 H2 σ' y _ F3 (c.mono _ _ _ (e1.trans e3) x) hr fun δ3 σ3 G3 H3 hws e4 F4 => ?_
    have e5 := e3.trans e4
    refine hws B G3 H3 σ3 _ F4 (c.mono _ _ _ (e1.trans e5) x) ⟨fun δ4 σ4 G4 H4 w e6 F5 => ⟨δ4, G4, w, e5.trans e6, F5⟩, fun r δ4 v σ4 G4 H4 w e6 F5 => e.rt r δ4 v σ4 G4 H4 w (e1.trans (e5.trans e6)) F5, fun δ4 σ4 G4 H4 w e6 F5 => e.nx δ4 σ4 G4 H4 w (e1.trans (e5.trans e6)) F5, fun δ4 σ4 G4 H4 w e6 F5 => ⟨δ4, G4, w, e5.trans e6, F5⟩⟩
  rcases hY i H2 y H3 hi yy with ⟨q1, d, hd, hr⟩ | ⟨T, o, d, hT, q1, hd, hr⟩
  · subst q1
    exact go d G' H3 hd e2 F2 (hr.mono e2)
  · subst q1
    have hT' := (F2.fresh hT).2.1
    exact go d (upd G' T o) _ hd (e2.trans (Ex.new hT')) (F2.laid hT) (hr G' e2 hT')
theorem ws_while {I : Nat → List Sl → Prop} (n : Nat) (h0 : I n δ) (hs : ∀ m δ', I m δ' → WT c p tt δ' fun b δ2 => (b = true → WS c t δ2 { E with nx := fun δ3 => ∃ m', m' < m ∧ I m' δ3, ct := fun δ3 => ∃ m', m' < m ∧ I m' δ3, bk := E.nx }) ∧ (b = false → E.nx δ2)) : WS c (tWhile tt t) δ E := by
  intro B G H σ Dd F x e
  refine ⟨fun m σ' H' => ∃ δ' G', I m δ' ∧ Ex G G' ∧ Frame c.K B G' H' σ' δ', ⟨n, δ, G, h0, Ex.refl G, F⟩, fun m σ1 H1 w => ?_⟩
  obtain ⟨δ1, G1, hI, e1, F1⟩ := w
  refine hs m δ1 hI B G1 H1 σ1 _ F1 (c.mono _ _ _ e1 x) fun b δ2 G2 H2 w e2 F2 p2 => ?_
  have e3 := e1.trans e2
  cases b with
  | true =>
    rw [if_pos rfl]
    refine ⟨fun σ' H' => ∃ m', m' < m ∧ ∃ δ' G', I m' δ' ∧ Ex G G' ∧ Frame c.K B G' H' σ' δ', fun σ' H' z => z, ?_⟩
    exact w.1 rfl B G2 H2 σ1 _ F2 (c.mono _ _ _ e3 x) ⟨fun δ4 σ4 G4 H4 ⟨m', hm, w⟩ e6 F5 => ⟨m', hm, δ4, G4, w, e3.trans e6, F5⟩, fun r δ4 v σ4 G4 H4 w e6 F5 => e.rt r δ4 v σ4 G4 H4 w (e3.trans e6) F5, fun δ4 σ4 G4 H4 w e6 F5 => e.nx δ4 σ4 G4 H4 w (e3.trans e6) F5, fun δ4 σ4 G4 H4 ⟨m', hm, w⟩ e6 F5 => ⟨m', hm, δ4, G4, w, e3.trans e6, F5⟩⟩
  | false =>
    rw [if_neg Bool.false_ne_true]
    exact e.nx δ2 σ1 G2 H2 (w.2 rfl) e3 F2
/-! ### comprehensions -/
theorem wipe_get {σ : St} {j : Nat} : ∀ {vs : List Nat}, (wipe σ vs)[j]? = if j ∈ vs ∧ j < σ.length then some none else σ[j]?
  | [] => by simp [wipe]
  | v :: vs => by
    have ih := wipe_get (σ := σ) (j := j) (vs := vs)
    show ((wipe σ vs).set v none)[j]? = _
    rw [List.getElem?_set]
    by_cases e : v = j
    · subst e
      rw [if_pos rfl, wipe_length]
      by_cases hl : v < σ.length
      · rw [if_pos hl, if_pos ⟨List.mem_cons_self, hl⟩]
      · rw [if_neg hl, if_neg (fun z => hl z.2), List.getElem?_eq_none (by omega)]
    · rw [if_neg e, ih]
      have hne : (j ∈ v :: vs) ↔ j ∈ vs := by simp [Ne.symm e]
      simp only [hne]
theorem wipe_wipe (σ : St) (vs : List Nat) : wipe (wipe σ vs) vs = wipe σ vs := by
  apply List.ext_getElem?
  intro j
  rw [wipe_get, wipe_get, wipe_length]
  by_cases h : j ∈ vs ∧ j < σ.length
  · rw [if_pos h, if_pos h]
  · rw [if_neg h]
theorem wipe_set {σ : St} {vs : List Nat} {j : Nat} {x : Option V} (h : j ∈ vs) : wipe (σ.set j x) vs = wipe σ vs := by
  apply List.ext_getElem?
  intro i
  rw [wipe_get, wipe_get, List.length_set]
  by_cases q : i ∈ vs ∧ i < σ.length
  · rw [if_pos q, if_pos q]
  · rw [if_neg q, if_neg q, List.getElem?_set]
    by_cases e : j = i
    · subst e
      have hl : ¬ j < σ.length := fun z => q ⟨h, z⟩
      rw [if_pos rfl, if_neg hl, List.getElem?_eq_none (by omega)]
    · rw [if_neg e]
def wipeS (δ : List Sl) : List Nat → List Sl
  | [] => δ
  | v :: vs => (wipeS δ vs).set v .no
def restS (δ ε : List Sl) : List Nat → List Sl
  | [] => ε
  | v :: vs => match δ[v]? with
    | some s => (restS δ (ε.set v .no) vs).set v s
    | none => restS δ (ε.set v .no) vs
def nonOwn (δ : List Sl) : List Nat → Prop
  | [] => True
  | v :: vs => (match δ[v]? with
    | some (.own _ _) => False
    | some (.deep _ _ _) => False
    | _ => True) ∧ nonOwn δ vs
theorem nonOwn_ads {δ : List Sl} {v : Nat} {vs : List Nat} {s : Sl} (n : nonOwn δ (v :: vs)) (e : δ[v]? = some s) : ads s = [] := by
  have n1 := n.1
  rw [e] at n1
  cases s <;> first | rfl | exact n1.elim
section
variable {K : PySem.W.Frag} {B G G' H H' : Hp} {σ : St}
theorem wipeS_sub : ∀ vs : List Nat, (owned (wipeS δ vs)).Sublist (owned δ)
  | [] => List.Sublist.refl _
  | v :: vs => (owned_set_no rfl).trans (wipeS_sub vs)
theorem wipeS_sl (h : SlsR K G H δ σ) : ∀ vs : List Nat, SlsR K G H (wipeS δ vs) (wipe σ vs)
  | [] => h
  | v :: vs => (wipeS_sl h vs).set v trivial
theorem frame_wipe (F : Frame K B G H σ δ) (vs : List Nat) : Frame K B G H (wipe σ vs) (wipeS δ vs) :=
  ⟨F.exB, F.exG, F.dis, wipeS_sl F.sl vs, fun a ha => F.own a ((wipeS_sub vs).subset ha), F.nd.sublist (wipeS_sub vs)⟩
theorem sl_any : ∀ {ε : List Sl} {σ : St} {v : Nat} {ov : Option V}, SlsR K G H ε (σ.set v ov) → SlsR K G H (ε.set v .no) σ
  | ε, [], v, ov, h => by
    have h' : SlsR K G H ε [] := h
    cases ε with
    | nil => exact h'
    | cons s ε => obtain ⟨_, _, e, _⟩ := h'; cases e
  | [], w :: σ, v, ov, h => by
    have e : (w :: σ).set v ov = [] := h
    cases v <;> cases e
  | s :: ε, w :: σ, 0, ov, h => by
    obtain ⟨ow, σr, e, h1, h2⟩ := h
    cases e
    exact ⟨w, σ, rfl, trivial, h2⟩
  | s :: ε, w :: σ, v + 1, ov, h => by
    obtain ⟨ow, σr, e, h1, h2⟩ := h
    cases e
    exact ⟨w, σ, rfl, h1, sl_any h2⟩
theorem restS_sl (h : SlsR K G H δ σ) (eG : Ex G G') : ∀ {vs : List Nat} {ε : List Sl}, nonOwn δ vs → SlsR K G' H' ε (wipe σ vs) → SlsR K G' H' (restS δ ε vs) σ
  | [], ε, _, h' => h'
  | v :: vs, ε, n, h' => by
    have h1 : SlsR K G' H' (ε.set v .no) (wipe σ vs) := sl_any (ov := none) h'
    have ih := restS_sl h eG n.2 h1
    unfold restS
    cases e : δ[v]? with
    | none => exact ih
    | some s =>
      refine ih.setS (ov := none) v fun ov eo => ?_
      obtain ⟨ov', e1, h2⟩ := h.get e
      rw [eo] at e1
      cases e1
      have n1 := nonOwn_ads n e
      exact h2.ex eG (fun a z => by rw [n1] at z; cases z)
theorem restS_sub : ∀ {vs : List Nat} {ε : List Sl}, nonOwn δ vs → (owned (restS δ ε vs)).Sublist (owned ε)
  | [], ε, _ => List.Sublist.refl _
  | v :: vs, ε, n => by
    have ih := (restS_sub (vs := vs) (ε := ε.set v .no) n.2).trans (owned_set_no rfl)
    unfold restS
    cases e : δ[v]? with
    | none => exact ih
    | some s =>
      exact (owned_set_no (nonOwn_ads n e)).trans ih
end
theorem owned_set_non : ∀ {δ : List Sl} {v : Nat}, (∀ s, δ[v]? = some s → ads s = []) → owned (δ.set v .no) = owned δ
  | [], v, _ => rfl
  | s :: δ, 0, h => by
    show owned (.no :: δ) = _
    rw [owned_cons, owned_cons, h s rfl]
    rfl
  | s :: δ, v + 1, h => by
    show owned (s :: δ.set v .no) = _
    rw [owned_cons, owned_cons, owned_set_non (δ := δ) (v := v) (fun t e => h t (by simpa using e))]
theorem wipeS_get {δ : List Sl} {j : Nat} : ∀ {vs : List Nat}, (wipeS δ vs)[j]? = some .no ∨ (wipeS δ vs)[j]? = δ[j]?
  | [] => .inr rfl
  | v :: vs => by
    show ((wipeS δ vs).set v .no)[j]? = some .no ∨ ((wipeS δ vs).set v .no)[j]? = δ[j]?
    have ih := wipeS_get (δ := δ) (j := j) (vs := vs)
    by_cases e : v = j
    · subst e
      by_cases hl : v < (wipeS δ vs).length
      · exact .inl (List.getElem?_set_self hl)
      · rw [List.set_eq_of_length_le (by omega)]
        exact ih
    · rw [List.getElem?_set_ne e]
      exact ih
theorem wipeS_own {δ : List Sl} : ∀ {vs : List Nat}, nonOwn δ vs → owned (wipeS δ vs) = owned δ
  | [], _ => rfl
  | v :: vs, n => by
    have ih := wipeS_own (vs := vs) n.2
    show owned ((wipeS δ vs).set v .no) = owned δ
    rw [owned_set_non, ih]
    intro s e
    rcases wipeS_get (δ := δ) (j := v) (vs := vs) with q | q
    · rw [q] at e; cases e; rfl
    · rw [q] at e
      exact nonOwn_ads n e
/-- a comprehension's target -/
def WGc (g : TG) (K : PySem.W.Frag) (d : D) (ε : List Sl) (vs : List Nat) (Φ : List Sl → Prop) : Prop :=
  ∀ (B G H : Hp) (σ : St) (v : V) (Q : St → Hp → Prop), Frame K B G H σ ε → Rep K G d v → (∀ ε' σ', Φ ε' → owned ε' = owned ε → Frame K B G H σ' ε' → wipe σ' vs = wipe σ vs → Q σ' H) → g v σ H Q
theorem owned_set_d {ε : List Sl} {j : Nat} {d : D} (h : ε[j]? = some .no) : owned (ε.set j (.d d)) = owned ε := owned_set_sameA h rfl
theorem wgc_name {K : PySem.W.Frag} {d : D} {ε : List Sl} {vs : List Nat} {j : Nat} {Φ : List Sl → Prop} (hj : j ∈ vs) (hε : ε[j]? = some .no) (h : Φ (ε.set j (.d d))) : WGc (gName j) K d ε vs Φ := fun B G H σ v Q F r k =>
  k _ _ h (owned_set_d hε) (frame_set (r := .d d) F r rfl) (wipe_set hj)
def WGcs (g : TGs) (K : PySem.W.Frag) (ds : List D) (ε : List Sl) (vs : List Nat) (Φ : List Sl → Prop) : Prop :=
  ∀ (B G H : Hp) (σ : St) (v : List V) (Q : St → Hp → Prop), Frame K B G H σ ε → Reps K G ds v → (∀ ε' σ', Φ ε' → owned ε' = owned ε → Frame K B G H σ' ε' → wipe σ' vs = wipe σ vs → Q σ' H) → g v σ H Q
theorem wgcs_nil {K : PySem.W.Frag} {ε : List Sl} {vs : List Nat} {Φ : List Sl → Prop} (h : Φ ε) : WGcs gNil K [] ε vs Φ := fun B G H σ v Q F r k => by
  unfold Reps at r
  exact ⟨r, k ε σ h rfl F rfl⟩
theorem wgcs_cons {gs : TGs} {K : PySem.W.Frag} {d : D} {ds : List D} {ε : List Sl} {vs : List Nat} {Φ : List Sl → Prop} (h : WGc g K d ε vs fun ε1 => WGcs gs K ds ε1 vs Φ) : WGcs (gCons g gs) K (d :: ds) ε vs Φ := fun B G H σ v Q F r k => by
  unfold Reps at r
  obtain ⟨v1, vr, e, h1, h2⟩ := r
  refine ⟨v1, vr, e, h B G H σ v1 _ F h1 fun ε1 σ1 w o1 F1 e1 => ?_⟩
  exact w B G H σ1 vr Q F1 h2 fun ε2 σ2 w2 o2 F2 e2 => k ε2 σ2 w2 (o2.trans o1) F2 (e2.trans e1)
theorem wgc_tup {gs : TGs} {K : PySem.W.Frag} {n : Nat} {ds : List D} {ε : List Sl} {vs : List Nat} {Φ : List Sl → Prop} (hn : ds.length = n) (h : WGcs gs K ds ε vs Φ) : WGc (gTup K n gs) K (.tup ds) ε vs Φ := fun B G H σ v Q F r k => by
  have r' : Rep K G (.tup ds) v := r
  unfold Rep at r'
  obtain ⟨a, ys, e, h1, h2⟩ := r'
  exact ⟨a, ys, e, SqT.of (F.exG _ _ h1), (reps_length h2).trans hn, h B G H σ ys Q F h2 k⟩
theorem take_get {α : Type} {ds : List α} {i : Nat} {d : α} (h : ds[i]? = some d) : ds.take (i + 1) = ds.take i ++ [d] := by
  rw [List.take_add_one, h]
  rfl
/-- a pure comprehension -/
theorem we_lcP {wi : TI} {vs : List Nat} {Φ : R → List Sl → Prop} (h : WI c p wi δ fun ds δ1 => nonOwn δ1 vs ∧ ds.length ≤ 100000 ∧ ∃ kf : DL.D → Option DL.D,
    (∀ (i : Nat) (d : DL.D), ds[i]? = some d → WGc g c.K d (wipeS δ1 vs) vs fun ε1 => WT (c0 c.K) true tt ε1 fun b ε2 => (b = true → WE (c0 c.K) true te ε2 fun r _ => ∃ x, frz r = .d x ∧ kf d = some x) ∧ (b = false → kf d = none)) ∧
    ∀ a, Φ (.own a (.lst (ds.filterMap kf))) δ1) : WE c p (tLc wi g tt te vs) δ Φ := by
  intro B G H σ Q F x k
  refine h B G H σ _ F x fun ds δ1 J G1 H1 w e1 F1 p1 ww => ?_
  obtain ⟨hno, hlen, kf, step, w⟩ := w
  obtain ⟨Gd, Y, W, hG, hY⟩ := ww
  intro D hD
  obtain ⟨hB, hG1, hO⟩ := F1.fresh hD
  refine lc_it W (fun i H' => ∃ G' xs, Ex G1 G' ∧ Ex H1 H' ∧ Frame c.K B G' H' σ δ1 ∧ H' D = some (.lst xs) ∧ Reps c.K G' ((ds.take i).filterMap kf) xs ∧ G' D = none) ⟨G1, [], Ex.refl G1, Ex.new hD, F1.ex (Ex.new hD), upd_same, by simpa using reps_nil, hG1⟩
    (fun i H' _ ⟨G', xs, e2, _, F2, _⟩ => hG H' (e2.trans F2.exG)) (fun i y H2 H3 hi pv yy => ?_) fun H' pv => ?_
  · obtain ⟨G', xs, e2, eH, F2, hx, hr, hGD⟩ := pv
    have hOD : ∀ a ∈ owned δ1, a ≠ D := fun a ha z => hO (by rw [← z]; exact ha)
    have go : ∀ (d : DL.D) (G2 H2 : Hp), ds[i]? = some d → Ex G1 G2 → Ex H1 H2 → Frame c.K B G2 H2 σ δ1 → H2 D = some (.lst xs) → Reps c.K G2 ((ds.take i).filterMap kf) xs → G2 D = none → Rep c.K G2 d y → g y (wipe σ vs) H2 fun σ2 H2 => wipe σ2 vs = wipe σ vs ∧ tt σ2 H2 fun b H3 =>
        if b = true then te σ2 H3 fun y H4 => ∃ acc, H4 D = some (.lst acc) ∧ acc.length < sizeLine ∧ ∃ G' xs, Ex G1 G' ∧ Ex H1 (upd H4 D (.lst (acc ++ [y]))) ∧ Frame c.K B G' (upd H4 D (.lst (acc ++ [y]))) σ δ1 ∧ (upd H4 D (.lst (acc ++ [y]))) D = some (.lst xs) ∧ Reps c.K G' ((ds.take (i + 1)).filterMap kf) xs ∧ G' D = none
        else ∃ G' xs, Ex G1 G' ∧ Ex H1 H3 ∧ Frame c.K B G' H3 σ δ1 ∧ H3 D = some (.lst xs) ∧ Reps c.K G' ((ds.take (i + 1)).filterMap kf) xs ∧ G' D = none := by
      intro d G2 H2 hd e3 eH3 F3 hx3 hr3 hGD3 hrep
      have Fb : Frame c.K (upd B D (.lst xs)) G2 H2 (wipe σ vs) (wipeS δ1 vs) := by
        have Fw := frame_wipe F3 vs
        refine ⟨fun b o e => ?_, Fw.exG, fun b => ?_, Fw.sl, fun a ha => ⟨?_, (Fw.own a ha).2⟩, Fw.nd⟩
        · by_cases q : b = D
          · subst q; rw [upd_same] at e; rw [hx3]; exact e
          · rw [upd_ne q] at e; exact Fw.exB b o e
        · by_cases q : b = D
          · subst q; exact .inr (.inl hGD3)
          · rw [upd_ne q]; exact Fw.dis b
        · rw [upd_ne (hOD a ((wipeS_sub vs).subset ha))]
          exact (Fw.own a ha).1
      refine step i d hd _ G2 H2 (wipe σ vs) y _ Fb hrep fun ε1 σ1 hw og Fg ew => ⟨ew.trans (wipe_wipe σ vs), ?_⟩
      refine hw _ G2 H2 σ1 _ Fg trivial fun b ε2 G4 H4 w4 e4 F4 p4 => ?_
      obtain ⟨_, eH4⟩ := p4 rfl
      have hx4 := eH4 D _ hx3
      have dis4 : G4 D = none := F4.disN upd_same (fun _ z => nomatch z)
      have F4' : Frame c.K B G4 H4 σ δ1 := by
        refine (F3.ex eH4).more e4 F4.exG (fun b => ?_) fun a ha => ?_
        · by_cases q : b = D
          · subst q; exact .inr (.inl dis4)
          · have z := F4.dis b; rw [upd_ne q] at z; exact z
        · have own4 : owned ε2 = owned δ1 := by
            rw [(p4 rfl).1, og, wipeS_own hno]
          exact (F4.own a (by rw [own4]; exact ha)).2
      cases b with
      | false =>
        rw [if_neg Bool.false_ne_true]
        refine ⟨G4, xs, e3.trans e4, eH3.trans eH4, F4', hx4, ?_, dis4⟩
        rw [take_get hd, List.filterMap_append]
        have e0 : [d].filterMap kf = [] := by simp [w4.2 rfl]
        rw [e0, List.append_nil]
        exact hr3.mono e4
      | true =>
        rw [if_pos rfl]
        refine w4.1 rfl _ G4 H4 σ1 _ F4 trivial fun r ε5 v5 G5 H5 w5 e5 F5 rv5 p5 => ?_
        obtain ⟨eε5, eH5⟩ := p5 rfl
        obtain ⟨z, hz, hkf⟩ := w5
        have hx5 := eH5 D _ hx4
        have dis5 : G5 D = none := F5.disN upd_same (fun _ z => nomatch z)
        have own5 : ∀ a ∈ owned δ1, G5 a = none := fun a ha => (F5.own a (by rw [eε5, (p4 rfl).1, og, wipeS_own hno]; exact ha)).2
        have F5' : Frame c.K B G5 H5 σ δ1 := (F4'.ex eH5).more e5 F5.exG (fun b => by
          by_cases q : b = D
          · subst q; exact .inr (.inl dis5)
          · have z := F5.dis b; rw [upd_ne q] at z; exact z) own5
        have rep5 : ∃ G6, Ex G5 G6 ∧ Frame c.K B G6 H5 σ δ1 ∧ Rep c.K G6 z v5 ∧ G6 D = none := by
          cases r with
          | d y =>
            cases hz
            exact ⟨G5, Ex.refl G5, F5', rv5, dis5⟩
          | bor i a => cases hz
          | deep a y gs => cases hz
          | own a y =>
            cases hz
            obtain ⟨q1, q2, q3, q4, q5⟩ := rv5
            subst q1
            obtain ⟨o, ho⟩ := q2.there
            have haD : a ≠ D := fun q => by subst q; rw [upd_same] at q3; cases q3
            rw [upd_ne haD] at q3
            have hao : a ∉ owned δ1 := fun q => q5 (by rw [eε5, (p4 rfl).1, og, wipeS_own hno]; exact q)
            exact ⟨upd G5 a o, Ex.new q4, F5'.freeze ho q3 q4 hao, q2.rep ho q4, by rw [upd_ne haD.symm]; exact dis5⟩
        obtain ⟨G6, e6, F6, hr6, dis6⟩ := rep5
        have hlx : xs.length ≤ 100000 := by
          rw [reps_length hr3]
          exact Nat.le_trans (List.length_filterMap_le _ _) (by rw [List.length_take]; omega)
        have hout : Ex H1 (upd H5 D (.lst (xs ++ [v5]))) := Ex.mut ((eH3.trans eH4).trans eH5) hD
        refine ⟨xs, hx5, Nat.lt_of_le_of_lt hlx (by rw [sizeLine_eq]; decide), G6, xs ++ [v5], (e3.trans e4).trans (e5.trans e6), hout, ?_, upd_same, ?_, dis6⟩
        · -- D is foreign to the frame
          have mv : ∀ {G : Hp}, Frame c.K B G H5 σ δ1 → G D = none → Frame c.K B G (upd H5 D (.lst (xs ++ [v5]))) σ δ1 := fun {G} F hG => by
            refine ⟨fun b o e => ?_, fun b o e => ?_, F.dis, F.sl.ex (Ex.refl G) (fun a ha => upd_ne (hOD a ha)), F.own, F.nd⟩
            · by_cases q : b = D
              · subst q; rw [hB] at e; cases e
              · rw [upd_ne q]; exact F.exB b o e
            · by_cases q : b = D
              · subst q; rw [hG] at e; cases e
              · rw [upd_ne q]; exact F.exG b o e
          exact mv F6 dis6
        · rw [take_get hd, List.filterMap_append]
          have e0 : [d].filterMap kf = [z] := by simp [hkf]
          rw [e0]
          exact reps_append (hr3.mono ((e4.trans e5).trans e6)) (reps_one hr6)
    rcases hY i H2 y H3 hi yy with ⟨q1, d, hd, hrep⟩ | ⟨T, o, d, hT, q1, hd, hrep⟩
    · subst q1
      exact go d G' H3 hd e2 eH F2 hx hr hGD (hrep.mono e2)
    · subst q1
      have hT' := (F2.fresh hT).2.1
      have hTD : D ≠ T := fun q => by subst q; rw [hx] at hT; cases hT
      exact go d (upd G' T o) _ hd (e2.trans (Ex.new hT')) (eH.trans (Ex.new hT)) (F2.laid hT) (by rw [upd_ne hTD]; exact hx) (hr.mono (Ex.new hT')) (by rw [upd_ne hTD]; exact hGD) (hrep G' e2 hT')
  · obtain ⟨G', xs, e2, eH, F2, hx, hr, hGD⟩ := pv
    rw [List.take_length] at hr
    exact k _ δ1 _ G' H' (w D) (e1.trans e2) F2 ⟨rfl, ⟨xs, hx, hr⟩, hB, hGD, hO⟩ fun hp => ⟨(p1 hp).1, (p1 hp).2.trans eH⟩
end
end DL

/-! DL4: operators, built-ins and methods, by data. -/
namespace DL
open PySem PySem.Spec PyProof.Rows L2
open Evl (Ex)
section
variable {X : Cx}
/-- list + list, whatever is read -/
def rCatR : R2 := fun x y H Q => ∃ l b xs zs, x = .ref l ∧ y = .ref b ∧ Rd H l (.lst xs) ∧ Rd H b (.lst zs) ∧ xs.length + zs.length ≤ sizeLine ∧ ∀ p, H p = none → Q (.ref p) (upd H p (.lst (xs ++ zs)))
theorem op_catR : OpR X (binaryOp .Add) rCatR := by
  intro pins s σ H x y v u Q I rx ry h
  obtain ⟨l, b, xs, zs, rfl, rfl, hH, hB, hz, q⟩ := h
  cases rx
  cases ry
  obtain ⟨z, its, n, r, e⟩ := (hH.ok I.hok : ObjOk X.prog X.w H s.heap l (.lst xs))
  obtain ⟨z2, its2, n2, r2, e2⟩ := (hB.ok I.hok : ObjOk X.prog X.w H s.heap b (.lst zs))
  have hl := r.length
  have hl2 := r2.length
  refine PySem.P.add_list e e2 ?_ (by rw [List.size_toArray, List.size_toArray]; omega)
  have ea : its.toArray ++ its2.toArray = (its ++ its2).toArray := by simp
  rw [ea]
  exact ⟨.ref _, _, I.lnew (t' := s.toks) (r.append r2) (by rw [List.length_append]; omega), rfl, q _ I.fresh⟩
def rAddS : R2 := fun x y H Q => ∃ i j, x = .str i ∧ y = .str j ∧ i.length + j.length ≤ sizeLine ∧ Q (.str (i ++ j)) H
def rAddA : R2 := fun x y H Q => rI0 (fun i j => .int (i + j)) x y H Q ∨ rAddS x y H Q ∨ rCatR x y H Q
theorem op_addA : OpR X (binaryOp .Add) rAddA := op_add.or (OpR.or op_add_str op_catR)
def rMulA : R2 := fun x y H Q => rI CMul (fun i j => .int (i * j)) x y H Q ∨ rI CMulX (fun i j => .int (i * j)) x y H Q
theorem op_mulA : OpR X (binaryOp .Mult) rMulA := op_mul.or op_mulX
def rEqA (K : PySem.W.Frag) : R2 := fun x y H Q => rEq x y H Q ∨ rEqD K x y H Q
def rNeA (K : PySem.W.Frag) : R2 := fun x y H Q => rNe x y H Q ∨ rNeD K x y H Q
theorem op_eqA (hu : X.A.units + 64 < cLine) : OpR X (compareOp .Eq) (rEqA X.K) := op_eq.or (op_eqD hu)
theorem op_neA (hu : X.A.units + 64 < cLine) : OpR X (compareOp .NotEq) (rNeA X.K) := op_ne.or (op_neD hu)
def rInS : R2 := fun x y H Q => ∃ (c : Nat) (z : Str), x = .str ⟨#[c]⟩ ∧ y = .str z ∧ Q (.bl (decide (c ∈ z.cps.toList))) H
def rNotInS : R2 := fun x y H Q => ∃ (c : Nat) (z : Str), x = .str ⟨#[c]⟩ ∧ y = .str z ∧ Q (.bl (!decide (c ∈ z.cps.toList))) H
def rInA (K : PySem.W.Frag) : R2 := fun x y H Q => rInS x y H Q ∨ rIn K false x y H Q
def rNotInA (K : PySem.W.Frag) : R2 := fun x y H Q => rNotInS x y H Q ∨ rIn K true x y H Q
theorem op_inA : OpR X (compareOp .In) (rInA X.K) := op_in_sign.or op_in_seq
theorem op_notInA : OpR X (compareOp .NotIn) (rNotInA X.K) := op_notIn_sign.or op_notIn_seq
end
section
variable {c : Cd}
/-- + -/
def dAdd : Dop
  | .int i, .int j, k => k (.d (.int (i + j)))
  | .str x, .str y, k => x.length + y.length ≤ 16000000 ∧ k (.d (.str (x ++ y)))
  | .lst xs, .lst ys, k => xs.length + ys.length ≤ 100000 ∧ ∀ a, k (.own a (.lst (xs ++ ys)))
  | _, _, _ => False
theorem opd_add : OpD c rAddA dAdd := by
  intro B G H σ δ r1 r2 v1 v2 x y Ψ Q F h1 h2 e1 e2 hf k
  cases x with
  | int i =>
    cases y with
    | int j =>
      have q1 := view_repH F h1 e1
      have q2 := view_repH F h2 e2
      unfold Rep at q1 q2
      exact .inl ⟨i, j, q1, q2, k (.d (.int (i + j))) _ G H hf (Ex.refl G) (Ex.refl H) F (rep_int (K := c.K) (G := G))⟩
    | _ => exact hf.elim
  | str i =>
    cases y with
    | str j =>
      have q1 := view_repH F h1 e1
      have q2 := view_repH F h2 e2
      unfold Rep at q1 q2
      exact .inr (.inl ⟨i, j, q1, q2, size16 hf.1, k (.d (.str (i ++ j))) _ G H hf.2 (Ex.refl G) (Ex.refl H) F (rep_str (K := c.K) (G := G))⟩)
    | _ => exact hf.elim
  | lst xs =>
    cases y with
    | lst ys =>
      obtain ⟨a, vs, q1, q2, q3⟩ := view_lst F h1 e1
      obtain ⟨b, ws, q4, q5, q6⟩ := view_lst F h2 e2
      refine .inr (.inr ⟨a, b, vs, ws, q1, q4, q2, q5, ?_, fun q hq => ?_⟩)
      · rw [reps_length q3, reps_length q6]
        exact Evl.sz_of hf.1
      · exact k _ _ G _ (hf.2 q) (Ex.refl G) (Ex.new hq) (F.ex (Ex.new hq)) (rv_newL F hq (reps_append q3 q6))
    | _ => exact hf.elim
  | _ => exact hf.elim
theorem opd_sub : OpD c (rI0 fun i j => .int (i - j)) (dInt0 fun i j => .int (i - j)) := opd_I0 fun G i j => rep_int
theorem opd_fdiv : OpD c (rI CDivW fun i j => .int (i / j)) (dInt CDivW fun i j => .int (i / j)) := opd_I fun G i j => rep_int
theorem opd_mod : OpD c (rI (fun _ j => 0 < j) fun i j => .int (i % j)) (dInt (fun _ j => 0 < j) fun i j => .int (i % j)) := opd_I fun G i j => rep_int
theorem opd_pow : OpD c (rI CPow fun i j => .int (i ^ j.toNat)) (dInt CPow fun i j => .int (i ^ j.toNat)) := opd_I fun G i j => rep_int
theorem opd_lt : OpD c (rI0 fun i j => .bl (decide (i < j))) (dInt0 fun i j => .bl (decide (i < j))) := opd_I0 fun G i j => rep_bl
theorem opd_le : OpD c (rI0 fun i j => .bl (decide (i ≤ j))) (dInt0 fun i j => .bl (decide (i ≤ j))) := opd_I0 fun G i j => rep_bl
theorem opd_gt : OpD c (rI0 fun i j => .bl (decide (j < i))) (dInt0 fun i j => .bl (decide (j < i))) := opd_I0 fun G i j => rep_bl
/-- == of scalars -/
def sEq : D → D → Option Bool
  | .int i, .int j => some (decide (i = j))
  | .str i, .str j => some (decide (i = j))
  | .bl i, .bl j => some (decide (i = j))
  | .non, .non => some true
  | .non, .int _ => some false | .int _, .non => some false | .non, .bl _ => some false | .bl _, .non => some false | .non, .str _ => some false | .str _, .non => some false
  | .int _, .str _ => some false | .str _, .int _ => some false | .bl _, .str _ => some false | .str _, .bl _ => some false
  | _, _ => none
mutual
def py : D → Option PyData
  | .non => some .none
  | .bl b => some (.bool b)
  | .int i => some (.int i)
  | .str x => some (.str x)
  | .lst xs => (pys xs).map .list
  | .tup xs => (pys xs).map .tuple
  | _ => none
def pys : List D → Option (List PyData)
  | [] => some []
  | x :: xs => match py x with
    | some d => (pys xs).map (d :: ·)
    | none => none
end
mutual
theorem py_dp {K : PySem.W.Frag} {H : Hp} : ∀ {x : D} {v : V} {d : PyData}, py x = some d → Rep K H x v → Dp K H v d
  | .non, v, d, e, h => by unfold Rep at h; unfold py at e; subst h; cases e; exact .non
  | .bl _, v, d, e, h => by unfold Rep at h; unfold py at e; subst h; cases e; exact .bl _
  | .int _, v, d, e, h => by unfold Rep at h; unfold py at e; subst h; cases e; exact .int _
  | .str _, v, d, e, h => by unfold Rep at h; unfold py at e; subst h; cases e; exact .str _
  | .lst xs, v, d, e, h => by
    unfold Rep at h
    unfold py at e
    obtain ⟨a, ys, e1, h1, h2⟩ := h
    subst e1
    cases q : pys xs with
    | none => rw [q] at e; cases e
    | some ds => rw [q] at e; cases e; exact .lst (.inl (Rd.of h1)) (pys_dp q h2)
  | .tup xs, v, d, e, h => by
    unfold Rep at h
    unfold py at e
    obtain ⟨a, ys, e1, h1, h2⟩ := h
    subst e1
    cases q : pys xs with
    | none => rw [q] at e; cases e
    | some ds => rw [q] at e; cases e; exact .tup (SqT.of h1) (pys_dp q h2)
  | .ty _, v, d, e, h => by unfold py at e; cases e
  | .ro _, v, d, e, h => by unfold py at e; cases e
  | .ptr _, v, d, e, h => by unfold py at e; cases e
  | .dct _, v, d, e, h => by unfold py at e; cases e
  | .obj _ _, v, d, e, h => by unfold py at e; cases e
  | .dcT _, v, d, e, h => by unfold py at e; cases e
theorem pys_dp {K : PySem.W.Frag} {H : Hp} : ∀ {xs : List D} {vs : List V} {ds : List PyData}, pys xs = some ds → Reps K H xs vs → DpAll K H vs ds
  | [], vs, ds, e, h => by unfold Reps at h; unfold pys at e; subst h; cases e; exact .nil
  | x :: xs, vs, ds, e, h => by
    unfold Reps at h
    obtain ⟨v, vr, e1, h1, h2⟩ := h
    subst e1
    unfold pys at e
    cases q : py x with
    | none => rw [q] at e; cases e
    | some d =>
      rw [q] at e
      simp only at e
      cases q2 : pys xs with
      | none => rw [q2] at e; cases e
      | some es => rw [q2] at e; cases e; exact .cons (py_dp q h1) (pys_dp q2 h2)
end
def dEqF (f : Bool → Bool) : Dop := fun x y k => (∃ b, sEq x y = some b ∧ k (.d (.bl (f b)))) ∨ ∃ d e, py x = some d ∧ py y = some e ∧ SeqAt.shaped d = true ∧ SeqAt.shaped e = true ∧ k (.d (.bl (f (PyData.eqv d e))))
theorem sEq_scal {H : Hp} {K : PySem.W.Frag} {x y : D} {v w : V} {b : Bool} (h : sEq x y = some b) (h1 : Rep K H x v) (h2 : Rep K H y w) : scal v w = true ∧ decide (v = w) = b := by
  cases x <;> cases y <;> first | (cases h; done) | (unfold Rep at h1 h2; subst h1; subst h2; cases h; exact ⟨rfl, by simp⟩)
theorem opd_eq : OpD c (rEqA c.K) (dEqF id) := by
  intro B G H σ δ r1 r2 v1 v2 x y Ψ Q F h1 h2 e1 e2 hf k
  have q1 := view_repH F h1 e1
  have q2 := view_repH F h2 e2
  rcases hf with ⟨b, hb, kb⟩ | ⟨d, e, hd, he, sd, se, kb⟩
  · obtain ⟨z1, z2⟩ := sEq_scal hb q1 q2
    refine .inl ⟨z1, ?_⟩
    rw [z2]
    exact k _ _ G H kb (Ex.refl G) (Ex.refl H) F (rv_bl (K := c.K))
  · exact .inr ⟨d, e, py_dp hd q1, py_dp he q2, sd, se, k _ _ G H kb (Ex.refl G) (Ex.refl H) F (rv_bl (K := c.K))⟩
theorem opd_ne : OpD c (rNeA c.K) (dEqF not) := by
  intro B G H σ δ r1 r2 v1 v2 x y Ψ Q F h1 h2 e1 e2 hf k
  have q1 := view_repH F h1 e1
  have q2 := view_repH F h2 e2
  rcases hf with ⟨b, hb, kb⟩ | ⟨d, e, hd, he, sd, se, kb⟩
  · obtain ⟨z1, z2⟩ := sEq_scal hb q1 q2
    refine .inl ⟨z1, ?_⟩
    rw [z2]
    exact k _ _ G H kb (Ex.refl G) (Ex.refl H) F (rv_bl (K := c.K))
  · exact .inr ⟨d, e, py_dp hd q1, py_dp he q2, sd, se, k _ _ G H kb (Ex.refl G) (Ex.refl H) F (rv_bl (K := c.K))⟩
/-! in -/
def flatD : D → Bool
  | .non => true | .bl _ => true | .int _ => true | .str _ => true | _ => false
/-- == of flat things, as in tells them -/
def eqF : D → D → Bool
  | .int i, .int j => decide (i = j)
  | .str i, .str j => decide (i = j)
  | .bl i, .bl j => decide (i = j)
  | .non, .non => true
  | .int i, .bl b => decide (i = if b then 1 else 0)
  | .bl b, .int i => decide (i = if b then 1 else 0)
  | _, _ => false
theorem flat_rep {K : PySem.W.Frag} {H : Hp} {x : D} {v : V} (h : flatD x = true) (r : Rep K H x v) : flatV v = true := by
  cases x <;> first | (cases h; done) | (unfold Rep at r; subst r; rfl)
theorem flats_rep {K : PySem.W.Frag} {H : Hp} : ∀ {xs : List D} {vs : List V}, xs.all flatD = true → Reps K H xs vs → vs.all flatV = true
  | [], vs, _, r => by unfold Reps at r; subst r; rfl
  | x :: xs, vs, h, r => by
    unfold Reps at r
    obtain ⟨v, vr, e, h1, h2⟩ := r
    subst e
    rw [List.all_cons, Bool.and_eq_true] at h
    rw [List.all_cons, flat_rep h.1 h1, flats_rep h.2 h2]
    rfl
theorem eqF_V {K : PySem.W.Frag} {H : Hp} {x y : D} {v w : V} (hx : flatD x = true) (hy : flatD y = true) (r1 : Rep K H x v) (r2 : Rep K H y w) : eqV v w = eqF x y := by
  cases x <;> first | (cases hx; done) | (cases y <;> first | (cases hy; done) | (unfold Rep at r1 r2; subst r1; subst r2; simp [eqV, eqF, Bool.beq_eq_decide_eq, eq_comm]; done) | (unfold Rep at r1 r2; subst r1; subst r2; rename_i a b; cases a <;> simp [eqV, eqF, eq_comm]; done) | (unfold Rep at r1 r2; subst r1; subst r2; rename_i a b; cases b <;> simp [eqV, eqF, eq_comm]; done))
def inD (x : D) (xs : List D) : Bool := xs.any fun y => eqF y x
theorem inD_V {K : PySem.W.Frag} {H : Hp} {x : D} {v : V} (hx : flatD x = true) (r1 : Rep K H x v) : ∀ {ys : List D} {ws : List V}, ys.all flatD = true → Reps K H ys ws → inV v ws = inD x ys
  | [], ws, _, r => by unfold Reps at r; subst r; rfl
  | y :: ys, ws, h, r => by
    unfold Reps at r
    obtain ⟨w, wr, e, h1, h2⟩ := r
    subst e
    rw [List.all_cons, Bool.and_eq_true] at h
    have ih := inD_V hx r1 h.2 h2
    unfold inV inD at ih ⊢
    rw [List.any_cons, List.any_cons, ih, eqF_V h.1 hx h1 r1]
def dIn (f : Bool → Bool) : Dop
  | .str x, .str y, k => ∃ ch, x = ⟨#[ch]⟩ ∧ k (.d (.bl (f (decide (ch ∈ y.cps.toList)))))
  | x, .lst ys, k => flatD x = true ∧ ys.all flatD = true ∧ k (.d (.bl (f (inD x ys))))
  | x, .tup ys, k => flatD x = true ∧ ys.all flatD = true ∧ k (.d (.bl (f (inD x ys))))
  | _, _, _ => False
theorem opd_inF (neg : Bool) {r : R2} (hr : ∀ v w H Q, (∃ (ch : Nat) (z : Str), v = .str ⟨#[ch]⟩ ∧ w = .str z ∧ Q (.bl (neg ^^ decide (ch ∈ z.cps.toList))) H) ∨ rIn c.K neg v w H Q → r v w H Q) : OpD c r (dIn (neg ^^ ·)) := by
  intro B G H σ δ r1 r2 v1 v2 x y Ψ Q F h1 h2 e1 e2 hf k
  apply hr
  have q1 := view_repH F h1 e1
  cases y with
  | str z =>
    cases x with
    | str x =>
      obtain ⟨ch, ex, kk⟩ := hf
      subst ex
      have q2 := view_repH F h2 e2
      unfold Rep at q1 q2
      exact .inl ⟨ch, z, q1, q2, k _ _ G H kk (Ex.refl G) (Ex.refl H) F (rv_bl (K := c.K))⟩
    | _ => exact hf.elim
  | lst ys =>
    have hf' : flatD x = true ∧ ys.all flatD = true ∧ Ψ (.d (.bl (neg ^^ inD x ys))) := by cases x <;> exact hf
    obtain ⟨a, ws, q4, q5, q6⟩ := view_lst F h2 e2
    refine .inr ⟨a, ws, q4, .inl (.inl q5), flat_rep hf'.1 q1, flats_rep hf'.2.1 q6, ?_⟩
    rw [inD_V hf'.1 q1 hf'.2.1 (q6.mono F.exG)]
    have kk := k _ _ G H hf'.2.2 (Ex.refl G) (Ex.refl H) F (rv_bl (K := c.K))
    cases neg <;> simpa using kk
  | tup ys =>
    have hf' : flatD x = true ∧ ys.all flatD = true ∧ Ψ (.d (.bl (neg ^^ inD x ys))) := by cases x <;> exact hf
    obtain ⟨a, ws, q4, q5, q6⟩ := view_tup F h2 e2
    refine .inr ⟨a, ws, q4, .inr q5, flat_rep hf'.1 q1, flats_rep hf'.2.1 q6, ?_⟩
    rw [inD_V hf'.1 q1 hf'.2.1 (q6.mono F.exG)]
    have kk := k _ _ G H hf'.2.2 (Ex.refl G) (Ex.refl H) F (rv_bl (K := c.K))
    cases neg <;> simpa using kk
  | _ => cases x <;> exact hf.elim
theorem opd_in : OpD c (rInA c.K) (dIn (false ^^ ·)) := opd_inF false fun v w H Q h => by
  rcases h with ⟨ch, z, a, b, q⟩ | h
  · exact .inl ⟨ch, z, a, b, by simpa using q⟩
  · exact .inr h
theorem opd_notIn : OpD c (rNotInA c.K) (dIn (true ^^ ·)) := opd_inF true fun v w H Q h => by
  rcases h with ⟨ch, z, a, b, q⟩ | h
  · exact .inl ⟨ch, z, a, b, by simpa using q⟩
  · exact .inr h
/-! subscripts -/
def dIx : Dop
  | .lst xs, .int i, k => ∃ x, atI xs i = some x ∧ k (.d x)
  | .tup xs, .int i, k => ∃ x, atI xs i = some x ∧ k (.d x)
  | .ro xs, .int i, k => ∃ x, atI xs i = some x ∧ k (.d x)
  | .str z, .int i, k => z.length ≤ 16000000 ∧ ∃ ch, atI z.cps.toList i = some ch ∧ k (.d (.str ⟨#[ch]⟩))
  | _, _, _ => False
theorem reps_atI {K : PySem.W.Frag} {G : Hp} {xs : List D} {vs : List V} {i : Int} {x : D} (h : Reps K G xs vs) (e : atI xs i = some x) : ∃ v, atI vs i = some v ∧ Rep K G x v := by
  unfold atI at e ⊢
  rw [reps_length h]
  cases q : ixN xs.length i with
  | none => rw [q] at e; cases e
  | some j =>
    rw [q] at e
    exact reps_get h e
theorem opd_ix : OpD c (rIx c.K) dIx := by
  intro B G H σ δ r1 r2 v1 v2 x y Ψ Q F h1 h2 e1 e2 hf k
  cases y with
  | int i =>
    have q2 := view_repH F h2 e2
    unfold Rep at q2
    cases x with
    | lst xs =>
      obtain ⟨z, hz, kk⟩ := hf
      obtain ⟨a, vs, q3, q4, q5⟩ := view_lst F h1 e1
      obtain ⟨v, q6, q7⟩ := reps_atI q5 hz
      exact .inl ⟨a, vs, i, v, q3, q2, .inl q4, q6, k _ _ G H kk (Ex.refl G) (Ex.refl H) F q7⟩
    | ro xs =>
      obtain ⟨z, hz, kk⟩ := hf
      obtain ⟨a, vs, q3, q4, q5⟩ := view_ro F h1 e1
      obtain ⟨v, q6, q7⟩ := reps_atI q5 hz
      exact .inl ⟨a, vs, i, v, q3, q2, q4, q6, k _ _ G H kk (Ex.refl G) (Ex.refl H) F q7⟩
    | tup xs =>
      obtain ⟨z, hz, kk⟩ := hf
      obtain ⟨a, vs, q3, q4, q5⟩ := view_tup F h1 e1
      obtain ⟨v, q6, q7⟩ := reps_atI q5 hz
      exact .inr (.inl ⟨a, vs, i, v, q3, q2, q4, q6, k _ _ G H kk (Ex.refl G) (Ex.refl H) F q7⟩)
    | str z =>
      obtain ⟨hl, ch, hc, kk⟩ := hf
      have q1 := view_repH F h1 e1
      unfold Rep at q1
      exact .inr (.inr ⟨z, i, ch, q1, q2, size16 hl, hc, k _ _ G H kk (Ex.refl G) (Ex.refl H) F (rep_str (K := c.K) (G := G))⟩)
    | _ => exact hf.elim
  | _ => cases x <;> exact hf.elim
end
end DL

/-! DL5: built-ins and methods, by data. -/
namespace DL
open PySem PySem.Spec PyProof.Rows L2
open Evl (Ex)
section
variable {X : Cx}
def rMulS : R2 := fun x y H Q => ∃ (z : Str) (n : Int), x = .str z ∧ y = .int n ∧ (z.length ≤ 1000 ∧ n ≤ 4000 ∧ -4000 ≤ n) ∧ Q (.str (Txt.mul z n)) H
theorem mulOk_small {z : Str} {n : Int} (h : z.length ≤ 1000 ∧ n ≤ 4000 ∧ -4000 ≤ n) : MulOk z n := by
  obtain ⟨h1, h2, h3⟩ := h
  refine ⟨?_, fun h4 _ => ?_, fun h4 _ => ?_⟩
  · rw [decide_eq_false (by omega), decide_eq_false (by omega)]; rfl
  · have : (2 ^ 63 - 1) / (4000 : Int) ≤ (2 ^ 63 - 1) / n := by
      have hn : 0 < n := by omega
      exact (Int.le_ediv_iff_mul_le hn).mpr (Int.le_trans (Int.mul_le_mul_of_nonneg_left h2 (by decide)) (by decide))
    have e : (2 ^ 63 - 1) / (4000 : Int) = 2305843009213693 := by decide
    omega
  · have h5 : z.length * n.toNat ≤ 1000 * 4000 := Nat.mul_le_mul h1 (by omega)
    unfold Builtin.Str.tooLong
    rw [decide_eq_false]
    have := sizeLine_eq
    omega
theorem op_mulS : OpR X (binaryOp .Mult) rMulS := by
  intro pins s σ H x y v u Q I rx ry h
  obtain ⟨z, n, rfl, rfl, hz, q⟩ := h
  obtain ⟨t, rfl⟩ := rx
  obtain ⟨t', rfl⟩ := ry
  exact SB.mul (mulOk_small hz) fun t' k => ⟨.str _, H, I.tok _, ⟨_, rfl⟩, q⟩
end
section
variable {c : Cd} {p : Bool} {δ : List Sl} {te ta tb : TE} {Φ : R → List Sl → Prop}
def rMulB : R2 := fun x y H Q => rMulA x y H Q ∨ rMulS x y H Q
theorem op_mulB {X : Cx} : OpR X (binaryOp .Mult) rMulB := op_mulA.or op_mulS
def dMul : Dop
  | .int i, .int j, k => (CMul i j ∨ CMulX i j) ∧ k (.d (.int (i * j)))
  | .str z, .int n, k => (z.length ≤ 1000 ∧ n ≤ 4000 ∧ -4000 ≤ n) ∧ k (.d (.str (Txt.mul z n)))
  | _, _, _ => False
theorem opd_mulB : OpD c rMulB dMul := by
  intro B G H σ δ r1 r2 v1 v2 x y Ψ Q F h1 h2 e1 e2 hf k
  cases y with
  | int j =>
    have q2 := view_repH F h2 e2
    unfold Rep at q2
    cases x with
    | int i =>
      have q1 := view_repH F h1 e1
      unfold Rep at q1
      have kk := k (.d (.int (i * j))) (.int (i * j)) G H hf.2 (Ex.refl G) (Ex.refl H) F (rep_int (K := c.K) (G := G))
      rcases hf.1 with z | z
      · exact .inl (.inl ⟨i, j, q1, q2, z, kk⟩)
      · exact .inl (.inr ⟨i, j, q1, q2, z, kk⟩)
    | str z =>
      have q1 := view_repH F h1 e1
      unfold Rep at q1
      exact .inr ⟨z, j, q1, q2, hf.1, k _ _ G H hf.2 (Ex.refl G) (Ex.refl H) F (rep_str (K := c.K) (G := G))⟩
    | _ => exact hf.elim
  | _ => cases x <;> exact hf.elim
/-! a unary operation -/
/-! is None, is True -/
def isNon : D → Bool
  | .non => true
  | _ => false
theorem rep_non_iff {K : PySem.W.Frag} {G : Hp} {x : D} {v : V} (h : Rep K G x v) : decide (v = .non) = isNon x := by
  cases x <;> first | (unfold Rep at h; subst h; rfl) | (unfold Rep at h; obtain ⟨a, _, e, _⟩ := h; subst e; rfl) | (unfold Rep at h; obtain ⟨a, _, _, e, _⟩ := h; subst e; rfl)
def dIsN (f : Bool → Bool) : Dop := fun x y k => y = .non ∧ k (.d (.bl (f (isNon x))))
theorem opd_isN : OpD c (fun x y H Q => y = .non ∧ Q (.bl (decide (x = .non))) H) (dIsN id) := opd_H fun H v1 v2 x y Ψ Q h1 h2 hf k => by
  obtain ⟨e, w⟩ := hf
  subst e
  unfold Rep at h2
  refine ⟨h2, ?_⟩
  rw [rep_non_iff h1]
  exact k _ _ w fun G => rep_bl
theorem opd_notN : OpD c (fun x y H Q => y = .non ∧ Q (.bl (!decide (x = .non))) H) (dIsN not) := opd_H fun H v1 v2 x y Ψ Q h1 h2 hf k => by
  obtain ⟨e, w⟩ := hf
  subst e
  unfold Rep at h2
  refine ⟨h2, ?_⟩
  rw [rep_non_iff h1]
  exact k _ _ w fun G => rep_bl
def dIsB (f : Bool → Bool) : Dop
  | .bl a, .bl b, k => k (.d (.bl (f (decide (a = b)))))
  | _, _, _ => False
/-! ### slices -/
def WO (c : Cd) (p : Bool) (to : TO) (δ : List Sl) (Φ : Option Int → List Sl → Prop) : Prop :=
  ∀ (B G H : Hp) (σ : St) (Q : Option Int → Hp → Prop), Frame c.K B G H σ δ → c.xr B G →
    (∀ o δ' G' H', Φ o δ' → Ex G G' → Frame c.K B G' H' σ δ' → (p = true → δ' = δ ∧ Ex H H') → Q o H') → to σ H Q
theorem wo_no {Ψ : Option Int → List Sl → Prop} (h : Ψ none δ) : WO c p tNoPart δ Ψ := fun B G H σ Q F x k => k none δ G H h (Ex.refl G) F fun _ => ⟨rfl, Ex.refl H⟩
theorem wo_part {Ψ : Option Int → List Sl → Prop} (h : WE c p te δ fun r δ1 => ∃ i, r = .d (.int i) ∧ Ψ (some i) δ1) : WO c p (tPart te) δ Ψ := by
  intro B G H σ Q F x k
  refine h B G H σ _ F x fun r1 δ1 v1 G1 H1 w1 e1 F1 rv1 p1 => ?_
  obtain ⟨i, e, w⟩ := w1
  subst e
  have e2 : v1 = .int i := by have h : Rep c.K G1 (.int i) v1 := rv1; unfold Rep at h; exact h
  exact ⟨i, e2, k _ δ1 G1 H1 w e1 F1 p1⟩
def rSlA (K : PySem.W.Frag) : V → Option Int → Option Int → Hp → VK → Prop := fun x lo hi H Q => rSlL K x lo hi H Q ∨ rSlS x lo hi H Q
theorem sl_A {X : Cx} : L2.SlR X (rSlA X.K) := sl_list.or sl_str
def cutD (xs : List D) (lo hi : Option Int) : List D := (xs.drop (HT.sIx xs.length 0 lo)).take (HT.sIx xs.length xs.length hi - HT.sIx xs.length 0 lo)
theorem reps_cut {K : PySem.W.Frag} {G : Hp} {xs : List D} {vs : List V} {lo hi : Option Int} (h : Reps K G xs vs) : Reps K G (cutD xs lo hi) (cutV vs lo hi) := by
  unfold cutD cutV
  rw [reps_length h]
  exact reps_take _ (reps_drop _ h)
def dSl : D → Option Int → Option Int → (R → Prop) → Prop
  | .lst xs, lo, hi, k => ∀ a, k (.own a (.lst (cutD xs lo hi)))
  | .str z, lo, hi, k => z.length ≤ 16000000 ∧ k (.d (.str (cutS z lo hi)))
  | _, _, _, _ => False
theorem we_sl {to th : TO} (h : WE c p te δ fun r1 δ1 => WO c p to δ1 fun lo δ2 => WO c p th δ2 fun hi δ3 => ∃ x, view δ3 (frz r1) = some x ∧ dSl x lo hi fun r => Φ r δ3) : WE c p (tSl (rSlA c.K) te to th) δ Φ := by
  intro B G H σ Q F x k
  refine h B G H σ _ F x fun r1 δ1 v1 G1 H1 w1 e1 F1 rv1 p1 => ?_
  obtain ⟨G1', e1', F1', rw1⟩ := rv1.weak F1
  refine w1 B G1' H1 σ _ F1' (c.mono _ _ _ (e1.trans e1') x) fun lo δ2 G2 H2 w2 e2 F2 p2 => ?_
  refine w2 B G2 H2 σ _ F2 (c.mono _ _ _ ((e1.trans e1').trans e2) x) fun hi δ3 G3 H3 w3 e3 F3 p3 => ?_
  obtain ⟨y, hy, hd⟩ := w3
  have eG := (e1.trans e1').trans (e2.trans e3)
  have rw3 := rw1.mono (e2.trans e3)
  have pp : p = true → δ3 = δ ∧ Ex H H3 := fun hp => ⟨((p3 hp).1.trans (p2 hp).1).trans (p1 hp).1, ((p1 hp).2.trans (p2 hp).2).trans (p3 hp).2⟩
  cases y with
  | lst xs =>
    obtain ⟨a, vs, q1, q2, q3⟩ := view_lst F3 rw3 hy
    exact .inl ⟨a, vs, q1, .inl q2, fun q hq => k _ δ3 _ G3 _ (hd q) eG (F3.ex (Ex.new hq)) (rv_newL F3 hq (reps_cut q3)) fun hp => ⟨(pp hp).1, (pp hp).2.trans (Ex.new hq)⟩⟩
  | str z =>
    have q1 := view_repH F3 rw3 hy
    unfold Rep at q1
    exact .inr ⟨z, q1, size16 hd.1, k _ δ3 _ G3 H3 hd.2 eG F3 (rep_str (K := c.K) (G := G3)) pp⟩
  | _ => exact hd.elim
/-! ### built-ins -/
theorem cad_one {r : List V → Hp → VK → Prop} {f : D → (R → Prop) → Prop} (h : ∀ (B G H : Hp) (σ : St) (δ : List Sl) (r1 : R) (v : V) (x : D) (Ψ : R → Prop) (Q : VK), Frame c.K B G H σ δ → RW c.K G r1 v → view δ r1 = some x → f x Ψ →
    (∀ r v G' H', Ψ r → Ex G G' → Ex H H' → Frame c.K B G' H' σ δ → RV c.K B G' H' δ r v → Q v H') → r [v] H Q) : CaD c r fun ds k => ∃ x, ds = [x] ∧ f x k :=
  cad_1 (fun ds Ψ ⟨x, e, _⟩ => by subst e; rfl) fun B G H σ δ r1 v x Ψ Q F h1 h2 ⟨y, e, hf⟩ k => by cases e; exact h B G H σ δ r1 v x Ψ Q F h1 h2 hf k
theorem cad_two {r : List V → Hp → VK → Prop} {f : D → D → (R → Prop) → Prop} (h : ∀ (B G H : Hp) (σ : St) (δ : List Sl) (r1 r2 : R) (v w : V) (x y : D) (Ψ : R → Prop) (Q : VK), Frame c.K B G H σ δ → RW c.K G r1 v → RW c.K G r2 w → view δ r1 = some x → view δ r2 = some y → f x y Ψ →
    (∀ r v G' H', Ψ r → Ex G G' → Ex H H' → Frame c.K B G' H' σ δ → RV c.K B G' H' δ r v → Q v H') → r [v, w] H Q) : CaD c r fun ds k => ∃ x y, ds = [x, y] ∧ f x y k :=
  cad_2 (fun ds Ψ ⟨x, y, e, _⟩ => by subst e; rfl) fun B G H σ δ r1 r2 v w x y Ψ Q F h1 h2 h3 h4 ⟨x', y', e, hf⟩ k => by cases e; exact h B G H σ δ r1 r2 v w x y Ψ Q F h1 h2 h3 h4 hf k
/-- len -/
def lenD : D → Option Nat
  | .str z => some z.length
  | .lst xs => some xs.length
  | .tup xs => some xs.length
  | .ro xs => some xs.length
  | _ => none
def rLenA (K : PySem.W.Frag) : List V → Hp → VK → Prop := fun xs H Q => ∃ x n, xs = [x] ∧ LenV K x H n ∧ Q (.int n) H
theorem cad_len : CaD c (rLenA c.K) fun ds k => ∃ x, ds = [x] ∧ strOk x ∧ ∃ n, lenD x = some n ∧ k (.d (.int (n : Int))) := cad_one fun B G H σ δ r1 v x Ψ Q F h1 e1 hf k => by
  obtain ⟨hs, n, hn, kk⟩ := hf
  refine ⟨v, n, rfl, ?_, k _ _ G H kk (Ex.refl G) (Ex.refl H) F (rep_int (K := c.K) (G := G))⟩
  cases x with
  | str z => have q := view_repH F h1 e1; unfold Rep at q; subst q; cases hn; exact ⟨size16 hs, rfl⟩
  | lst xs =>
    obtain ⟨a, vs, q1, q2, q3⟩ := view_lst F h1 e1
    subst q1
    cases hn
    exact .inl ⟨vs, .inl q2, (reps_length q3).symm⟩
  | ro xs =>
    obtain ⟨a, vs, q1, q2, q3⟩ := view_ro F h1 e1
    subst q1
    cases hn
    exact .inl ⟨vs, q2, (reps_length q3).symm⟩
  | tup xs =>
    obtain ⟨a, vs, q1, q2, q3⟩ := view_tup F h1 e1
    subst q1
    cases hn
    exact .inr ⟨vs, q2, (reps_length q3).symm⟩
  | _ => cases hn
def rMax2 : List V → Hp → VK → Prop := fun xs H Q => ∃ i j, xs = [.int i, .int j] ∧ Q (.int (if j > i then j else i)) H
def rMin2 : List V → Hp → VK → Prop := fun xs H Q => ∃ i j, xs = [.int i, .int j] ∧ Q (.int (if j < i then j else i)) H
def dInt2 (g : Int → Int → Int) : D → D → (R → Prop) → Prop
  | .int i, .int j, k => k (.d (.int (g i j)))
  | _, _, _ => False
theorem cad_max2 : CaD c rMax2 fun ds k => ∃ x y, ds = [x, y] ∧ dInt2 (fun i j => if j > i then j else i) x y k := cad_two fun B G H σ δ r1 r2 v w x y Ψ Q F h1 h2 e1 e2 hf k => by
  cases x with
  | int i =>
    cases y with
    | int j =>
      have q1 := view_repH F h1 e1
      have q2 := view_repH F h2 e2
      unfold Rep at q1 q2
      subst q1 q2
      exact ⟨i, j, rfl, k _ _ G H hf (Ex.refl G) (Ex.refl H) F (rep_int (K := c.K) (G := G))⟩
    | _ => exact hf.elim
  | _ => exact hf.elim
theorem cad_min2 : CaD c rMin2 fun ds k => ∃ x y, ds = [x, y] ∧ dInt2 (fun i j => if j < i then j else i) x y k := cad_two fun B G H σ δ r1 r2 v w x y Ψ Q F h1 h2 e1 e2 hf k => by
  cases x with
  | int i =>
    cases y with
    | int j =>
      have q1 := view_repH F h1 e1
      have q2 := view_repH F h2 e2
      unfold Rep at q1 q2
      subst q1 q2
      exact ⟨i, j, rfl, k _ _ G H hf (Ex.refl G) (Ex.refl H) F (rep_int (K := c.K) (G := G))⟩
    | _ => exact hf.elim
  | _ => exact hf.elim
/-- int(..): of an int, a bool, a text -/
def rIntA : List V → Hp → VK → Prop := fun xs H Q => ((∃ i, xs = [.int i] ∧ Q (.int i) H) ∨ ∃ k, xs = [.bl k] ∧ Q (.int (if k then 1 else 0)) H) ∨ ∃ a n, xs = [.str a] ∧ PySem.intText? a = some n ∧ a.length ≤ 640 ∧ Q (.int n) H
def dIntC : D → (R → Prop) → Prop
  | .int i, k => k (.d (.int i))
  | .bl b, k => k (.d (.int (if b then 1 else 0)))
  | .str a, k => ∃ n, PySem.intText? a = some n ∧ a.length ≤ 640 ∧ k (.d (.int n))
  | _, _ => False
def rStrI : List V → Hp → VK → Prop := fun xs H Q => ∃ i, xs = [.int i] ∧ i.natAbs.log2 < 1920 ∧ Q (.str (toString i)) H
/-- all, any of a list of truths -/
def blsD : List D → Option (List Bool)
  | [] => some []
  | .bl b :: r => (blsD r).map (b :: ·)
  | _ :: _ => none
theorem bls_rep {K : PySem.W.Frag} {G : Hp} : ∀ {xs : List D} {bs : List Bool} {vs : List V}, blsD xs = some bs → Reps K G xs vs → vs = bs.map V.bl
  | [], bs, vs, e, h => by cases e; unfold Reps at h; exact h
  | x :: xs, bs, vs, e, h => by
    unfold Reps at h
    obtain ⟨v, vr, e1, h1, h2⟩ := h
    cases x with
    | bl b =>
      unfold blsD at e
      cases q : blsD xs with
      | none => rw [q] at e; cases e
      | some cs =>
        rw [q] at e
        cases e
        unfold Rep at h1
        rw [e1, h1, bls_rep q h2]
        rfl
    | _ => cases e
theorem blsD_map (bs : List Bool) : blsD (bs.map D.bl) = some bs := by
  induction bs with
  | nil => rfl
  | cons b bs ih =>
    show (blsD (bs.map D.bl)).map (b :: ·) = _
    rw [ih]
    rfl
theorem cad_all : CaD c (rAll c.K) fun ds k => ∃ x, ds = [x] ∧ ∃ xs bs, x = .lst xs ∧ blsD xs = some bs ∧ k (.d (.bl (bs.all id))) := cad_one fun B G H σ δ r1 v x Ψ Q F h1 e1 hf k => by
  obtain ⟨xs, bs, e, hb, kk⟩ := hf
  subst e
  obtain ⟨a, vs, q1, q2, q3⟩ := view_lst F h1 e1
  subst q1
  have e3 := bls_rep hb q3
  subst e3
  exact ⟨a, bs, rfl, .inl q2, k _ _ G H kk (Ex.refl G) (Ex.refl H) F (rv_bl (K := c.K))⟩
theorem cad_any : CaD c (rAny c.K) fun ds k => ∃ x, ds = [x] ∧ ∃ xs bs, x = .lst xs ∧ blsD xs = some bs ∧ k (.d (.bl (bs.any id))) := cad_one fun B G H σ δ r1 v x Ψ Q F h1 e1 hf k => by
  obtain ⟨xs, bs, e, hb, kk⟩ := hf
  subst e
  obtain ⟨a, vs, q1, q2, q3⟩ := view_lst F h1 e1
  subst q1
  have e3 := bls_rep hb q3
  subst e3
  exact ⟨a, bs, rfl, .inl q2, k _ _ G H kk (Ex.refl G) (Ex.refl H) F (rv_bl (K := c.K))⟩
/-- list(..) of a list, a tuple -/
def rListA (K : PySem.W.Frag) : List V → Hp → VK → Prop := fun xs H Q => ∃ p ys, xs = [.ref p] ∧ (SqL K H p ys ∨ SqT K H p ys) ∧ ∀ l, H l = none → Q (.ref l) (upd H l (.lst ys))
def seqD : D → Option (List D)
  | .lst xs => some xs
  | .tup xs => some xs
  | _ => none
theorem cad_list : CaD c (rListA c.K) fun ds k => ∃ x, ds = [x] ∧ ∃ xs, seqD x = some xs ∧ ∀ a, k (.own a (.lst xs)) := cad_one fun B G H σ δ r1 v x Ψ Q F h1 e1 hf k => by
  obtain ⟨xs, e, kk⟩ := hf
  cases x with
  | lst ys =>
    cases e
    obtain ⟨a, vs, q1, q2, q3⟩ := view_lst F h1 e1
    subst q1
    exact ⟨a, vs, rfl, .inl (.inl q2), fun l hl => k _ _ G _ (kk l) (Ex.refl G) (Ex.new hl) (F.ex (Ex.new hl)) (rv_newL F hl q3)⟩
  | tup ys =>
    cases e
    obtain ⟨a, vs, q1, q2, q3⟩ := view_tup F h1 e1
    subst q1
    exact ⟨a, vs, rfl, .inr q2, fun l hl => k _ _ G _ (kk l) (Ex.refl G) (Ex.new hl) (F.ex (Ex.new hl)) (rv_newL F hl q3)⟩
  | _ => cases e
/-- tuple(..) of a list, a tuple -/
def rTupA (K : PySem.W.Frag) : List V → Hp → VK → Prop := fun xs H Q => ∃ p ys, xs = [.ref p] ∧ ((SqL K H p ys ∧ ∀ l, H l = none → Q (.ref l) (upd H l (.tup ys))) ∨ (SqT K H p ys ∧ Q (.ref p) H))
theorem cad_tuple : CaD c (rTupA c.K) fun ds k => ∃ x, ds = [x] ∧ ∃ xs, seqD x = some xs ∧ k (.d (.tup xs)) := cad_one fun B G H σ δ r1 v x Ψ Q F h1 e1 hf k => by
  obtain ⟨xs, e, kk⟩ := hf
  cases x with
  | lst ys =>
    cases e
    obtain ⟨a, vs, q1, q2, q3⟩ := view_lst F h1 e1
    subst q1
    refine ⟨a, vs, rfl, .inl ⟨.inl q2, fun l hl => ?_⟩⟩
    have hG := (F.fresh hl).2.1
    exact k _ _ (upd G l (.tup vs)) _ kk (Ex.new hG) (Ex.new hl) (F.laid hl) (rep_newT hG q3)
  | tup ys =>
    cases e
    cases r1 with
    | d y =>
      have e' : y = .tup xs := Option.some.inj e1
      subst e'
      obtain ⟨a, vs, q1, q2, q3⟩ := view_tup F (r := .d (.tup xs)) (δ := δ) h1 rfl
      subst q1
      exact ⟨a, vs, rfl, .inr ⟨q2, k _ _ G H kk (Ex.refl G) (Ex.refl H) F h1⟩⟩
    | own a y => exact h1.elim
    | deep a y gs => cases e1
    | bor i a =>
      exact (view_own F e1).1.elim
  | _ => cases e
/-! isinstance -/
def tyD : D → Option String
  | .non => some "NoneType" | .bl _ => some "bool" | .int _ => some "int" | .str _ => some "str" | .lst _ => some "list" | .tup _ => some "tuple" | .dct _ => some "dict" | _ => none
theorem tyD_ok {B G H : Hp} {σ : St} {δ : List Sl} {r1 : R} {v : V} {x : D} {T : String} (F : Frame c.K B G H σ δ) (h1 : RW c.K G r1 v) (e1 : view δ r1 = some x) (h : tyD x = some T) : TyX c.K H v (.type T) := by
  cases x with
  | non => have q := view_repH F h1 e1; unfold Rep at q; subst q; cases h; exact .base .non
  | bl b => have q := view_repH F h1 e1; unfold Rep at q; subst q; cases h; exact .base (.bl b)
  | int b => have q := view_repH F h1 e1; unfold Rep at q; subst q; cases h; exact .base (.int b)
  | str b => have q := view_repH F h1 e1; unfold Rep at q; subst q; cases h; exact .base (.str b)
  | lst xs =>
    obtain ⟨a, vs, q1, q2, q3⟩ := view_lst F h1 e1
    subst q1
    cases h
    rcases q2 with q2 | ⟨o, q2⟩
    · exact .base (.lst q2)
    · exact .base (.frz q2)
  | tup xs =>
    obtain ⟨a, vs, q1, q2, q3⟩ := view_tup F h1 e1
    subst q1
    cases h
    rcases q2 with (q2 | ⟨o, q2⟩) | ⟨o, its, n, hk, hc, _⟩
    · exact .base (.tup q2)
    · exact .fTuple q2
    · exact .kTuple hk hc
  | dct xs =>
    obtain ⟨a, vs, q1, q2, q3⟩ := view_dct F h1 e1
    subst q1
    cases h
    rcases q2 with q2 | ⟨o, q2⟩
    · exact .base (.dK q2)
    · exact .fDict q2
  | _ => cases h
/-- which of the built-in types a thing is of: decided by their names -/
def isTy (a b : String) : Option Bool := kitB a b
def isiD (x : D) : D → Option Bool
  | .ty b => (tyD x).bind fun a => kitB a b
  | _ => none
def anyTy (x : D) : List D → Option Bool
  | [] => some false
  | y :: ys => match isiD x y with
    | some true => some true
    | some false => anyTy x ys
    | none => none
def rIsiA (K : PySem.W.Frag) : List V → Hp → VK → Prop := fun xs H Q => rIsi K xs H Q ∨ rIsiT K xs H Q
theorem call_isiA {X : Cx} : CallR X (.builtin "isinstance") (rIsiA X.K) := call_isi.or call_isiT
theorem cad_isi : CaD c (rIsiA c.K) fun ds k => ∃ x y, ds = [x, y] ∧ ∃ b, isiD x y = some b ∧ k (.d (.bl b)) := cad_two fun B G H σ δ r1 r2 v w x y Ψ Q F h1 h2 e1 e2 hf k => by
  obtain ⟨b, hb, kk⟩ := hf
  cases y with
  | ty n =>
    have q2 := view_repH F h2 e2
    unfold Rep at q2
    subst q2
    cases ht : tyD x with
    | none => unfold isiD at hb; rw [ht] at hb; cases hb
    | some T =>
      unfold isiD at hb
      rw [ht] at hb
      exact .inl ⟨v, .ty n, .type T, .type n, b, rfl, .ty n, tyD_ok F h1 e1 ht, kit_ty hb, k _ _ G H kk (Ex.refl G) (Ex.refl H) F (rv_bl (K := c.K))⟩
  | _ => cases hb
end
end DL

/-! DL6: what changes a list or a dict of one's own; methods of texts; displays of dicts; a walk over a list, a tuple or a text. -/
namespace DL
open PySem PySem.Spec PyProof.Rows L2
open Evl (Ex)
section
variable {X : Cx} {tg : Expr}
/-- for .. in e: e a list, a tuple or a text -/
def iAny (K : PySem.W.Frag) (te : TE) : TI := fun σ H R => te σ H fun x H1 => (∃ a, x = .ref a ∧ (∃ xs, SqL K H1 a xs) ∧ R (Itl K a) H1) ∨ (∃ a, x = .ref a ∧ (∃ xs, SqT K H1 a xs) ∧ R (Itt K a) H1) ∨ ∃ z, x = .str z ∧ R (Its z) H1
theorem pi_any {l : Expr} {tl : TE} (hl : PE X l tl) : PI X tg l (iAny X.K tl) := by
  refine ⟨fun pins s σ H R I h => ?_⟩
  let PX : PI X tg l (iAny X.K tl) → True := fun _ => trivial
  refine thn (hl.run pins s σ H _ I h) fun v s1 ⟨x, H1, I1, r1, q1⟩ => ?_
  rcases q1 with ⟨a, e, ⟨xs, hq⟩, q⟩ | ⟨a, e, ⟨xs, hq⟩, q⟩ | ⟨z, e, q⟩
  · subst e
    cases r1
    obtain ⟨its, rv, p, hz⟩ := I1.list hq
    refine wpAny_pyIter_list p.isList ?_
    refine ⟨s1.heap.objs.size, [s1.heap.objs.size], _, _, H1, rfl, I1.kept (t' := s1.toks) fun b o e => Heap.get?_push_of_some _ e, turn_list a _, ⟨_, Heap.get?_push_size _ rfl, rfl, rfl⟩, fun b hb => ?_, q⟩
    have e : b = s1.heap.objs.size := by simpa using hb
    subst e
    exact I1.fpOk (Nat.le_refl _) (I1.hok.fresh (Nat.le_refl _))
  · subst e
    cases r1
    obtain ⟨its, rv, p, hz⟩ := I1.tuple hq
    refine wpAny_pyIter_tuple (show s1.heap.IsTuple a its.toArray from p) ?_
    refine ⟨s1.heap.objs.size, [s1.heap.objs.size], _, _, H1, rfl, I1.kept (t' := s1.toks) fun b o e => Heap.get?_push_of_some _ e, turn_tuple a _, ⟨_, Heap.get?_push_size _ rfl, rfl, rfl⟩, fun b hb => ?_, q⟩
    have e : b = s1.heap.objs.size := by simpa using hb
    subst e
    exact I1.fpOk (Nat.le_refl _) (I1.hok.fresh (Nat.le_refl _))
  · subst e
    obtain ⟨t, rfl⟩ := r1
    cases ha : z.cps.all (· < 128)
    · exact wpAny_pyIter_wide ha (pi_one (tk := s1.toks) I1 _ (turn_str _ z t "str_iterator" (.inr rfl)) ⟨_, Heap.get?_push_size _ rfl, rfl, rfl⟩ q)
    · exact wpAny_pyIter_ascii ha (pi_one (tk := s1.toks) I1 _ (turn_str _ z t "str_ascii_iterator" (.inl rfl)) ⟨_, Heap.get?_push_size _ rfl, rfl, rfl⟩ q)
end
section
variable {c : Cd} {p : Bool} {δ : List Sl} {te ta tb : TE} {E : En} {t u : TS} {tt : TT} {g : TG}
/-- the things that a list, a tuple, a text hands on -/
def itemsD : D → Option (List D)
  | .lst xs => some xs
  | .tup xs => some xs
  | .str z => some (signsD z)
  | _ => none
theorem wi_any {Φ : List D → List Sl → Prop} (h : WE c p te δ fun r δ1 => ∃ y ds, frz r = .d y ∧ itemsD y = some ds ∧ Φ ds δ1) : WI c p (iAny c.K te) δ Φ := by
  intro B G H σ R F x k
  refine h B G H σ _ F x fun r δ1 v G1 H1 w e1 F1 rv p1 => ?_
  obtain ⟨y, ds, e, hi, w⟩ := w
  obtain ⟨G1', e1', F1', rw1⟩ := rv.weak F1
  rw [e] at rw1
  cases y with
  | lst ys =>
    cases hi
    have rw2 : Rep c.K G1' (.lst ds) v := rw1
    unfold Rep at rw2
    obtain ⟨a, xs, e2, h1, h2⟩ := rw2
    refine .inl ⟨a, e2, ⟨xs, .inl (Rd.of (F1'.exG _ _ h1))⟩, k ds δ1 _ G1' H1 w (e1.trans e1') F1' p1 ⟨_, YAt xs, by rw [← reps_length h2]; exact walk_list, fun H2 e3 => sql (Rd.of (e3 _ _ h1)), fun i H2 x H3 hi (y : YAt xs i H2 x H3) => .inl ⟨y.1, ?_⟩⟩⟩
    obtain ⟨d, hd, hr⟩ := reps_getV h2 y.2
    exact ⟨d, hd, hr⟩
  | tup ys =>
    cases hi
    have rw2 : Rep c.K G1' (.tup ds) v := rw1
    unfold Rep at rw2
    obtain ⟨a, xs, e2, h1, h2⟩ := rw2
    refine .inr (.inl ⟨a, e2, ⟨xs, SqT.of (F1'.exG _ _ h1)⟩, k ds δ1 _ G1' H1 w (e1.trans e1') F1' p1 ⟨_, YAt xs, by rw [← reps_length h2]; exact walk_tup, fun H2 e3 => SqT.of (e3 _ _ h1), fun i H2 x H3 hi (y : YAt xs i H2 x H3) => .inl ⟨y.1, ?_⟩⟩⟩)
    obtain ⟨d, hd, hr⟩ := reps_getV h2 y.2
    exact ⟨d, hd, hr⟩
  | str z =>
    cases hi
    have e2 : v = .str z := by have h : Rep c.K G1' (.str z) v := rw1; unfold Rep at h; exact h
    have el : (signsD z).length = z.cps.size := by unfold signsD; simp
    refine .inr (.inr ⟨z, e2, k _ δ1 _ G1' H1 w (e1.trans e1') F1' p1 ⟨_, fun i H2 y H3 => H3 = H2 ∧ ∃ c, z.cps[i]? = some c ∧ y = .str ⟨#[c]⟩, by rw [el]; exact walk_str, fun _ _ => trivial, fun i H2 y H3 hi (yy : H3 = H2 ∧ ∃ c, z.cps[i]? = some c ∧ y = .str ⟨#[c]⟩) => .inl ⟨yy.1, ?_⟩⟩⟩)
    obtain ⟨_, ch, hc, ey⟩ := yy
    refine ⟨.str ⟨#[ch]⟩, ?_, ?_⟩
    · unfold signsD
      rw [List.getElem?_map, Array.getElem?_toList, hc]
      rfl
    · rw [ey]; exact rep_str
  | _ => cases hi
/-! ### an object of one's own is changed -/
theorem frame_mut {K : PySem.W.Frag} {B G H : Hp} {σ : St} {δ : List Sl} {i : Nat} {a : Addr} {x y : D} {o : HO} (F : Frame K B G H σ δ) (e : δ[i]? = some (.own a x)) (h : OwnR K G (upd H a o) a y) : Frame K B G (upd H a o) σ (δ.set i (.own a y)) := by
  obtain ⟨hB, hG⟩ := F.own a (owned_get e)
  have hn : a ∉ owned (δ.set i .no) := not_owned_set F.nd e (List.mem_singleton.mpr rfl) rfl
  have F0 := frame_forget i F
  have F1 : Frame K B G (upd H a o) σ (δ.set i .no) := by
    refine ⟨fun b u q => ?_, fun b u q => ?_, F0.dis, F0.sl.ex (Ex.refl G) (fun b hb => upd_ne fun z => hn (by rw [← z]; exact hb)), F0.own, F0.nd⟩
    · by_cases z : b = a
      · subst z; rw [hB] at q; cases q
      · rw [upd_ne z]; exact F0.exB b u q
    · by_cases z : b = a
      · subst z; rw [hG] at q; cases q
      · rw [upd_ne z]; exact F0.exG b u q
  obtain ⟨ov, h1, h2, _⟩ := F.get e
  have z := F1.sl.setS (s := .own a y) (ov := none) i fun ov' e' => by
    rw [h1] at e'
    cases e'
    exact ⟨h2, h⟩
  rw [List.set_set] at z
  refine ⟨F1.exB, F1.exG, F1.dis, z, fun b hb => ?_, by rw [owned_set_same e]; exact F.nd⟩
  rw [owned_set_same e] at hb
  exact F.own b hb
theorem own_lst {K : PySem.W.Frag} {B G H : Hp} {σ : St} {δ : List Sl} {i : Nat} {a : Addr} {ds : List D} (F : Frame K B G H σ δ) (e : δ[i]? = some (.own a (.lst ds))) : ∃ xs, H a = some (.lst xs) ∧ Reps K G ds xs := by
  obtain ⟨ov, _, _, h⟩ := F.get e
  exact h
/-- a method that changes a list: by its items and the arguments -/
abbrev Dmu := List D → List D → (List D → D → Prop) → Prop
def MuL (r : V → List V → Hp → VK → Prop) (f : Dmu) : Prop := ∀ (K : PySem.W.Frag) (G H : Hp) (a : Addr) (xs : List V) (ds es : List D) (vs : List V) (Ψ : List D → D → Prop) (Q : VK), H a = some (.lst xs) → Ex G H → Reps K G ds xs → Reps K G es vs → f ds es Ψ →
  (∀ ds' xs' z v, Ψ ds' z → Reps K G ds' xs' → Rep K G z v → Q v (upd H a (.lst xs'))) → r (.ref a) vs H Q
theorem we_mu {r : V → List V → Hp → VK → Prop} {f : Dmu} {tr : TA} {Φ : R → List Sl → Prop} (hm : MuL r f) (h : WE c false te δ fun r1 δ1 => ∃ i a, r1 = .bor i a ∧ (∃ ds, δ1[i]? = some (.own a (.lst ds))) ∧ WA c false tr δ1 fun rs δ2 => ∃ ds es, datas rs = some es ∧ δ2[i]? = some (.own a (.lst ds)) ∧
    f ds es fun ds' z => Φ (.d z) (δ2.set i (.own a (.lst ds')))) : WE c false (tBM c.K "list" r te tr) δ Φ := by
  intro B G H σ Q F x k
  refine h B G H σ _ F x fun r1 δ1 v1 G1 H1 w1 e1 F1 rv1 p1 => ?_
  obtain ⟨i, a, er, ⟨ds0, hd0⟩, w1⟩ := w1
  subst er
  obtain ⟨ev, _⟩ := rv1
  subst ev
  obtain ⟨xs0, hx0, _⟩ := own_lst F1 hd0
  refine ⟨.inl ⟨rfl, xs0, SqL.of hx0⟩, ?_⟩
  refine w1 B G1 H1 σ _ F1 (c.mono _ _ _ e1 x) fun rs δ2 vs G2 H2 w2 e2 F2 rv2 p2 => ?_
  obtain ⟨ds, es, he, hd, hf⟩ := w2
  obtain ⟨xs, hx, hr⟩ := own_lst F2 hd
  refine hm c.K G2 H2 a xs ds es vs _ Q hx F2.exG hr (datas_reps he rv2) hf fun ds' xs' z v q hr' hz => ?_
  exact k _ _ v G2 _ q (e1.trans e2) (frame_mut F2 hd ⟨xs', upd_same, hr'⟩) hz fun hp => by cases hp
theorem we_mu0 {r : V → List V → Hp → VK → Prop} {f : Dmu} {Φ : R → List Sl → Prop} (hm : MuL r f) (h : WE c false te δ fun r1 δ1 => ∃ i a ds, r1 = .bor i a ∧ δ1[i]? = some (.own a (.lst ds)) ∧
    f ds [] fun ds' z => Φ (.d z) (δ1.set i (.own a (.lst ds')))) : WE c false (tBM0 c.K "list" r te) δ Φ := by
  intro B G H σ Q F x k
  refine h B G H σ _ F x fun r1 δ1 v1 G1 H1 w1 e1 F1 rv1 p1 => ?_
  obtain ⟨i, a, ds, er, hd, hf⟩ := w1
  subst er
  obtain ⟨ev, _⟩ := rv1
  subst ev
  obtain ⟨xs, hx, hr⟩ := own_lst F1 hd
  refine ⟨.inl ⟨rfl, xs, SqL.of hx⟩, ?_⟩
  refine hm c.K G1 H1 a xs ds [] [] _ Q hx F1.exG hr reps_nil hf fun ds' xs' z v q hr' hz => ?_
  exact k _ _ v G1 _ q e1 (frame_mut F1 hd ⟨xs', upd_same, hr'⟩) hz fun hp => by cases hp
theorem reps_one' {K : PySem.W.Frag} {G : Hp} {x : D} {vs : List V} (h : Reps K G [x] vs) : ∃ v, vs = [v] ∧ Rep K G x v := by
  unfold Reps at h
  obtain ⟨v, vr, e, h1, h2⟩ := h
  unfold Reps at h2
  subst h2
  exact ⟨v, e, h1⟩
theorem mu_append : MuL rAppend fun ds es k => ∃ x, es = [x] ∧ ds.length < 100000 ∧ k (ds ++ [x]) .non := fun K G H a xs ds es vs Ψ Q hx eG hr he hf k => by
  obtain ⟨x, e, hl, q⟩ := hf
  subst e
  obtain ⟨v, e2, h2⟩ := reps_one' he
  subst e2
  exact ⟨a, xs, v, rfl, rfl, hx, Evl.sz_lt (by rw [reps_length hr]; exact hl), k _ _ _ _ q (reps_append hr (reps_one h2)) rep_non⟩
theorem mu_clear : MuL rClear fun ds es k => es = [] ∧ k [] .non := fun K G H a xs ds es vs Ψ Q hx eG hr he hf k => by
  obtain ⟨e, q⟩ := hf
  subst e
  unfold Reps at he
  subst he
  exact ⟨a, xs, rfl, rfl, hx, k _ _ _ _ q reps_nil rep_non⟩
theorem mu_reverse : MuL rReverse fun ds es k => es = [] ∧ k ds.reverse .non := fun K G H a xs ds es vs Ψ Q hx eG hr he hf k => by
  obtain ⟨e, q⟩ := hf
  subst e
  unfold Reps at he
  subst he
  exact ⟨a, xs, rfl, rfl, hx, k _ _ _ _ q (reps_rev hr) rep_non⟩
/-! ### methods that change nothing -/
def tyM (T : String) : D → Prop
  | .str _ => T = "str"
  | .lst _ => T = "list"
  | _ => False
theorem tyM_ok {B G H : Hp} {σ : St} {δ : List Sl} {r1 : R} {v : V} {x : D} {T : String} (F : Frame c.K B G H σ δ) (h1 : RW c.K G r1 v) (e1 : view δ r1 = some x) (h : tyM T x) : tyV c.K T v H := by
  cases x with
  | str z => have q := view_repH F h1 e1; unfold Rep at q; subst q; exact h
  | lst xs =>
    obtain ⟨a, vs, q1, q2, q3⟩ := view_lst F h1 e1
    subst q1
    exact .inl ⟨h, vs, .inl q2⟩
  | _ => exact h.elim
abbrev Dme := D → List D → (R → Prop) → Prop
def MeD (c : Cd) (r : V → List V → Hp → VK → Prop) (f : Dme) : Prop := ∀ (B G H : Hp) (σ : St) (δ : List Sl) (r1 : R) (rs : List R) (v : V) (vs : List V) (x : D) (ds : List D) (Ψ : R → Prop) (Q : VK), Frame c.K B G H σ δ → RW c.K G r1 v → RVs c.K G rs vs → view δ r1 = some x → views δ rs = some ds → f x ds Ψ →
  (∀ r v G' H', Ψ r → Ex G G' → Ex H H' → Frame c.K B G' H' σ δ → RV c.K B G' H' δ r v → Q v H') → r v vs H Q
theorem we_bm {T : String} {r : V → List V → Hp → VK → Prop} {f : Dme} {tr : TA} {Φ : R → List Sl → Prop} (hm : MeD c r f) (h : WE c p te δ fun r1 δ1 => (∃ x, view δ1 (frz r1) = some x ∧ tyM T x) ∧ WA c p tr δ1 fun rs δ2 => ∃ x ds, view δ2 (frz r1) = some x ∧ views δ2 rs = some ds ∧ f x ds fun r => Φ r δ2) : WE c p (tBM c.K T r te tr) δ Φ := by
  intro B G H σ Q F x k
  refine h B G H σ _ F x fun r1 δ1 v1 G1 H1 w1 e1 F1 rv1 p1 => ?_
  obtain ⟨G1', e1', F1', rw1⟩ := rv1.weak F1
  obtain ⟨⟨y, hy, ht⟩, w1⟩ := w1
  refine ⟨tyM_ok F1' rw1 hy ht, ?_⟩
  refine w1 B G1' H1 σ _ F1' (c.mono _ _ _ (e1.trans e1') x) fun rs δ2 vs G2 H2 w2 e2 F2 rv2 p2 => ?_
  obtain ⟨z, ds, hz, hds, hf⟩ := w2
  exact hm B G2 H2 σ δ2 _ rs v1 vs z ds _ Q F2 (rw1.mono e2) rv2 hz hds hf fun r v G' H' q e3 e4 F3 rv3 => k r δ2 v G' H' q ((e1.trans e1').trans (e2.trans e3)) F3 rv3 fun hp => ⟨(p2 hp).1.trans (p1 hp).1, ((p1 hp).2.trans (p2 hp).2).trans e4⟩
/-- texts among data -/
def strsD : List D → Option (List Str)
  | [] => some []
  | .str b :: r => (strsD r).map (b :: ·)
  | _ :: _ => none
theorem strs_rep {K : PySem.W.Frag} {G : Hp} : ∀ {xs : List D} {bs : List Str} {vs : List V}, strsD xs = some bs → Reps K G xs vs → vs = bs.map V.str
  | [], bs, vs, e, h => by cases e; unfold Reps at h; exact h
  | x :: xs, bs, vs, e, h => by
    unfold Reps at h
    obtain ⟨v, vr, e1, h1, h2⟩ := h
    cases x with
    | str b =>
      unfold strsD at e
      cases q : strsD xs with
      | none => rw [q] at e; cases e
      | some cs =>
        rw [q] at e
        cases e
        unfold Rep at h1
        rw [e1, h1, strs_rep q h2]
        rfl
    | _ => cases e
theorem strsD_map (bs : List Str) : strsD (bs.map D.str) = some bs := by
  induction bs with
  | nil => rfl
  | cons b bs ih =>
    show (strsD (bs.map D.str)).map (b :: ·) = _
    rw [ih]
    rfl
def rJoinA (K : PySem.W.Frag) : V → List V → Hp → VK → Prop := fun x xs H Q => ∃ a p, ∃ ys : List Str, x = .str a ∧ xs = [.ref p] ∧ (SqL K H p (ys.map V.str) ∨ SqT K H p (ys.map V.str)) ∧ (ys.map (·.length)).sum + ys.length * a.length ≤ 16777216 ∧ Q (.str (Txt.join a ys)) H
theorem med_join : MeD c (rJoinA c.K) fun x ds k => ∃ a xs ys, x = .str a ∧ ds = [.lst xs] ∧ strsD xs = some ys ∧ (ys.map (·.length)).sum + ys.length * a.length ≤ 16777216 ∧ k (.d (.str (Str.join a ys))) := by
  intro B G H σ δ r1 rs v vs x ds Ψ Q F h1 hr e1 e2 hf k
  obtain ⟨a, xs, ys, ex, ed, hs, hl, q⟩ := hf
  subst ex ed
  have q1 := view_repH F h1 e1
  unfold Rep at q1
  cases rs with
  | nil => cases views_nil e2
  | cons r2 rs =>
    obtain ⟨x', es, e3, e4, e5⟩ := views_cons e2
    cases e3
    obtain ⟨w, wr, e6, h3, h4⟩ := hr
    cases rs with
    | cons r3 rs => obtain ⟨_, _, e7, _⟩ := views_cons e5; cases e7
    | nil =>
      have e8 : wr = [] := h4
      subst e8 e6
      obtain ⟨b, us, q2, q3, q4⟩ := view_lst F h3 e4
      have e9 := strs_rep hs q4
      subst e9 q2
      refine ⟨a, b, ys, q1, rfl, .inl (.inl q3), hl, ?_⟩
      rw [show Txt.join a ys = Str.join a ys from TL.join_eq a ys]
      exact k _ _ G H q (Ex.refl G) (Ex.refl H) F (rep_str (K := c.K) (G := G))
theorem views_one {r2 : R} {rs : List R} {K : PySem.W.Frag} {G : Hp} {vs : List V} {x : D} (e : views δ rs = some [x]) (h : RVs K G rs vs) : ∃ r w, rs = [r] ∧ vs = [w] ∧ view δ r = some x ∧ RW K G r w := by
  cases rs with
  | nil => cases views_nil e
  | cons r2 rs =>
    obtain ⟨x', es, e3, e4, e5⟩ := views_cons e
    cases e3
    obtain ⟨w, wr, e6, h3, h4⟩ := h
    cases rs with
    | cons r3 rs => obtain ⟨_, _, e7, _⟩ := views_cons e5; cases e7
    | nil =>
      have e8 : wr = [] := h4
      subst e8
      exact ⟨r2, w, rfl, e6, e4, h3⟩
def rFindA : V → List V → Hp → VK → Prop := fun x xs H Q => ∃ a b, x = .str a ∧ xs = [.str b] ∧ Q (.int (Txt.find a b)) H
/-! ### dicts -/
theorem we_dnew {Φ : R → List Sl → Prop} (h : ∀ a, Φ (.own a (.dct [])) δ) : WE c p tDNewK δ Φ := by
  intro B G H σ Q F x k a ha
  obtain ⟨h1, h2, h3⟩ := F.fresh ha
  exact k _ δ _ G _ (h a) (Ex.refl G) (F.ex (Ex.new ha)) ⟨rfl, ⟨[], upd_same, by unfold RepK; rfl⟩, h1, h2, h3⟩ fun _ => ⟨rfl, Ex.new ha⟩
def keyD : Key → D
  | .inl i => .int i
  | .inr x => .str x
def dKey : D → Option Key
  | .int i => some (.inl i)
  | .str x => some (.inr x)
  | _ => none
theorem dKey_rep {K : PySem.W.Frag} {G : Hp} {x : D} {v : V} {k : Key} (e : dKey x = some k) (h : Rep K G x v) : v = kV k := by
  cases x <;> first | (cases e; done) | (cases e; unfold Rep at h; exact h)
def putD (kvs : List (Key × D)) (k : Key) (v : D) : List (Key × D) :=
  if (kvs.any fun kv => decide (kv.1 = k)) = true then kvs.map (fun kv => if kv.1 = k then (kv.1, v) else kv) else kvs ++ [(k, v)]
def getD (kvs : List (Key × D)) (k : Key) : Option D := (kvs.find? fun kv => decide (kv.1 = k)).map (·.2)
def dropD (kvs : List (Key × D)) (k : Key) : List (Key × D) := kvs.filter fun kv => decide (kv.1 ≠ k)
theorem repK_any {K : PySem.W.Frag} {G : Hp} (k : Key) : ∀ {ds : List (Key × D)} {vs : List (Key × V)}, RepK K G ds vs → (ds.any fun kv => decide (kv.1 = k)) = (vs.any fun kv => decide (kv.1 = k))
  | [], vs, h => by unfold RepK at h; subst h; rfl
  | (k', d) :: ds, vs, h => by
    unfold RepK at h
    obtain ⟨v, vr, e, h1, h2⟩ := h
    subst e
    rw [List.any_cons, List.any_cons, repK_any k h2]
theorem repK_map {K : PySem.W.Frag} {G : Hp} {k : Key} {x : D} {w : V} (hx : Rep K G x w) : ∀ {ds : List (Key × D)} {vs : List (Key × V)}, RepK K G ds vs →
    RepK K G (ds.map (fun kv => if kv.1 = k then (kv.1, x) else kv)) (vs.map (fun kv => if kv.1 = k then (kv.1, w) else kv))
  | [], vs, h => by unfold RepK at h; subst h; unfold RepK; rfl
  | (k', d) :: ds, vs, h => by
    unfold RepK at h
    obtain ⟨v, vr, e, h1, h2⟩ := h
    subst e
    have ih := repK_map (k := k) hx h2
    rw [List.map_cons, List.map_cons]
    by_cases q : k' = k
    · simp only [if_pos q]
      unfold RepK
      exact ⟨w, _, rfl, hx, ih⟩
    · simp only [if_neg q]
      unfold RepK
      exact ⟨v, _, rfl, h1, ih⟩
theorem repK_app {K : PySem.W.Frag} {G : Hp} {k : Key} {x : D} {w : V} (hx : Rep K G x w) : ∀ {ds : List (Key × D)} {vs : List (Key × V)}, RepK K G ds vs → RepK K G (ds ++ [(k, x)]) (vs ++ [(k, w)])
  | [], vs, h => by
    unfold RepK at h
    subst h
    show RepK K G [(k, x)] [(k, w)]
    unfold RepK
    exact ⟨w, [], rfl, hx, by unfold RepK; rfl⟩
  | (k', d) :: ds, vs, h => by
    unfold RepK at h
    obtain ⟨v, vr, e, h1, h2⟩ := h
    subst e
    show RepK K G ((k', d) :: (ds ++ [(k, x)])) ((k', v) :: (vr ++ [(k, w)]))
    unfold RepK
    exact ⟨v, _, rfl, h1, repK_app hx h2⟩
theorem repK_put {K : PySem.W.Frag} {G : Hp} {k : Key} {x : D} {w : V} {ds : List (Key × D)} {vs : List (Key × V)} (h : RepK K G ds vs) (hx : Rep K G x w) : RepK K G (putD ds k x) (putK vs k w) := by
  unfold putD putK
  rw [repK_any k h]
  split
  · exact repK_map hx h
  · exact repK_app hx h
theorem repK_val {K : PySem.W.Frag} {G : Hp} {k : Key} : ∀ {ds : List (Key × D)} {vs : List (Key × V)}, RepK K G ds vs → (getD ds k = none ∧ valV vs k = none) ∨ ∃ x v, getD ds k = some x ∧ valV vs k = some v ∧ Rep K G x v
  | [], vs, h => by unfold RepK at h; subst h; exact .inl ⟨rfl, rfl⟩
  | (k', d) :: ds, vs, h => by
    unfold RepK at h
    obtain ⟨v, vr, e, h1, h2⟩ := h
    subst e
    by_cases q : k' = k
    · refine .inr ⟨d, v, by simp [getD, q], by simp [valV, q], h1⟩
    · have ih := repK_val (k := k) h2
      have e1 : getD ((k', d) :: ds) k = getD ds k := by simp [getD, q]
      have e2 : valV ((k', v) :: vr) k = valV vr k := by simp [valV, q]
      rw [e1, e2]
      exact ih
theorem repK_len {K : PySem.W.Frag} {G : Hp} : ∀ {ds : List (Key × D)} {vs : List (Key × V)}, RepK K G ds vs → vs.length = ds.length
  | [], vs, h => by unfold RepK at h; subst h; rfl
  | (k', d) :: ds, vs, h => by
    unfold RepK at h
    obtain ⟨v, vr, e, h1, h2⟩ := h
    subst e
    simp [repK_len h2]
def mergeD (kvs more : List (Key × D)) : List (Key × D) := more.foldl (fun acc kv => putD acc kv.1 kv.2) kvs
theorem repK_merge {K : PySem.W.Frag} {G : Hp} : ∀ {more : List (Key × D)} {mv : List (Key × V)} {ds : List (Key × D)} {vs : List (Key × V)}, RepK K G more mv → RepK K G ds vs → RepK K G (mergeD ds more) (mergeK vs mv)
  | [], mv, ds, vs, h, h' => by unfold RepK at h; subst h; exact h'
  | (k', d) :: more, mv, ds, vs, h, h' => by
    unfold RepK at h
    obtain ⟨v, vr, e, h1, h2⟩ := h
    subst e
    have ih := repK_merge h2 (repK_put (k := k') h' h1)
    exact ih
/-- pairs from the left -/
def WP (c : Cd) (p : Bool) (trs : List (TE × TE)) (δ : List Sl) (Φ : List (D × D) → List Sl → Prop) : Prop :=
  ∀ (B G H : Hp) (σ : St) (Q : List (V × V) → Hp → Prop), Frame c.K B G H σ δ → c.xr B G →
    (∀ ps δ' vs G' H', Φ ps δ' → Ex G G' → Frame c.K B G' H' σ δ' → Reps c.K G' (ps.map (·.1)) (vs.map (·.1)) → Reps c.K G' (ps.map (·.2)) (vs.map (·.2)) → (p = true → δ' = δ ∧ Ex H H') → Q vs H') → tPairs trs σ H Q
theorem wp_nil {Ψ : List (D × D) → List Sl → Prop} (h : Ψ [] δ) : WP c p [] δ Ψ := fun B G H σ Q F x k => k [] δ [] G H h (Ex.refl G) F reps_nil reps_nil fun _ => ⟨rfl, Ex.refl H⟩
theorem wp_cons {trs : List (TE × TE)} {Ψ : List (D × D) → List Sl → Prop} (h : WE c p ta δ fun r1 δ1 => ∃ x, frz r1 = .d x ∧ WE c p tb δ1 fun r2 δ2 => ∃ y, frz r2 = .d y ∧ WP c p trs δ2 fun ps δ3 => Ψ ((x, y) :: ps) δ3) : WP c p ((ta, tb) :: trs) δ Ψ := by
  intro B G H σ Q F x k
  refine h B G H σ _ F x fun r1 δ1 v1 G1 H1 w1 e1 F1 rv1 p1 => ?_
  obtain ⟨G1', e1', F1', rw1⟩ := rv1.weak F1
  obtain ⟨a, ea, w1⟩ := w1
  rw [ea] at rw1
  refine w1 B G1' H1 σ _ F1' (c.mono _ _ _ (e1.trans e1') x) fun r2 δ2 v2 G2 H2 w2 e2 F2 rv2 p2 => ?_
  obtain ⟨G2', e2', F2', rw2⟩ := rv2.weak F2
  obtain ⟨b, eb, w2⟩ := w2
  rw [eb] at rw2
  have eG := (e1.trans e1').trans (e2.trans e2')
  refine w2 B G2' H2 σ _ F2' (c.mono _ _ _ eG x) fun ps δ3 vs G3 H3 w3 e3 F3 rk rv p3 => ?_
  have ra : Rep c.K G3 a v1 := (RW.mono ((e2.trans e2').trans e3) rw1 : RW c.K G3 (.d a) v1)
  have rb : Rep c.K G3 b v2 := (RW.mono e3 rw2 : RW c.K G3 (.d b) v2)
  exact k _ δ3 _ G3 H3 w3 (eG.trans e3) F3 (reps_cons ra rk) (reps_cons rb rv) fun hp => ⟨((p3 hp).1.trans (p2 hp).1).trans (p1 hp).1, ((p1 hp).2.trans (p2 hp).2).trans (p3 hp).2⟩
theorem pairs_rep {K : PySem.W.Frag} {G : Hp} : ∀ {kds : List (Key × D)} {vs : List (V × V)}, Reps K G (kds.map fun kv => keyD kv.1) (vs.map (·.1)) → Reps K G (kds.map (·.2)) (vs.map (·.2)) → ∃ kvs : List (Key × V), vs = kvs.map (fun kv => (kV kv.1, kv.2)) ∧ RepK K G kds kvs
  | [], vs, h, h' => by
    unfold Reps at h
    have e : vs = [] := by simpa using h
    subst e
    exact ⟨[], rfl, by unfold RepK; rfl⟩
  | (k, d) :: kds, vs, h, h' => by
    cases vs with
    | nil => rw [List.map_cons, List.map_nil] at h; unfold Reps at h; obtain ⟨_, _, e, _⟩ := h; cases e
    | cons w vs =>
      rw [List.map_cons, List.map_cons] at h h'
      unfold Reps at h h'
      obtain ⟨v1, r1, e1, h1, h2⟩ := h
      obtain ⟨v2, r2, e2, h3, h4⟩ := h'
      cases e1
      cases e2
      obtain ⟨kvs, e3, h5⟩ := pairs_rep h2 h4
      have ek : w.1 = kV k := by
        cases k <;> (unfold keyD Rep at h1; exact h1)
      refine ⟨(k, w.2) :: kvs, ?_, ?_⟩
      · rw [List.map_cons, ← e3, ← ek]
      · unfold RepK
        exact ⟨w.2, kvs, rfl, h3, h5⟩
theorem we_disp {trs : List (TE × TE)} {Φ : R → List Sl → Prop} (h : WP (c0 c.K) p trs δ fun ps δ1 => ∃ kds : List (Key × D), ps = kds.map (fun kv => (keyD kv.1, kv.2)) ∧ kds.length ≤ 15 ∧ ∀ a, Φ (.own a (.dct (mergeD [] kds))) δ1) : WE c p (tDisp trs) δ Φ := by
  intro B G H σ Q F x k a ha
  obtain ⟨hB, hG, hO⟩ := F.fresh ha
  have Fb : Frame c.K (upd B a (.dK [])) G (upd H a (.dK [])) σ δ := by
    have F1 := F.ex (Ex.new (o := .dK []) ha)
    refine ⟨fun b u q => ?_, F1.exG, fun b => ?_, F1.sl, fun b hb => ⟨?_, (F1.own b hb).2⟩, F1.nd⟩
    · by_cases z : b = a
      · subst z; rw [upd_same] at q ⊢; exact q
      · rw [upd_ne z] at q; exact F1.exB b u q
    · by_cases z : b = a
      · subst z; exact .inr (.inl hG)
      · rw [upd_ne z]; exact F1.dis b
    · rw [upd_ne (fun z => hO (by rw [← z]; exact hb))]
      exact (F1.own b hb).1
  refine h _ G _ σ _ Fb trivial fun ps δ1 vs G1 H1 w1 e1 F1 rk rv p1 => ?_
  obtain ⟨kds, ep, hl, w1⟩ := w1
  subst ep
  have hk : Reps c.K G1 (kds.map fun kv => keyD kv.1) (vs.map (·.1)) := by simpa [List.map_map, Function.comp_def] using rk
  have hv : Reps c.K G1 (kds.map (·.2)) (vs.map (·.2)) := by simpa [List.map_map, Function.comp_def] using rv
  obtain ⟨kvs, ev, hr⟩ := pairs_rep hk hv
  have hH1 : H1 a = some (.dK []) := F1.exB a _ upd_same
  have hG1 : G1 a = none := F1.disN upd_same (fun _ z => nomatch z)
  have hO1 : a ∉ owned δ1 := fun z => by
    have q := (F1.own a z).1
    rw [upd_same] at q
    cases q
  refine ⟨hH1, kvs, ev, by rw [repK_len hr]; exact hl, ?_⟩
  have F2 : Frame c.K B G1 (upd H1 a (.dK (mergeK [] kvs))) σ δ1 := by
    refine ⟨fun b u q => ?_, fun b u q => ?_, fun b => ?_, F1.sl.ex (Ex.refl G1) (fun b hb => upd_ne fun z => hO1 (by rw [← z]; exact hb)), fun b hb => ⟨?_, (F1.own b hb).2⟩, F1.nd⟩
    · have z : b ≠ a := fun z => by subst z; rw [hB] at q; cases q
      rw [upd_ne z]
      exact F1.exB b u (by rw [upd_ne z]; exact q)
    · have z : b ≠ a := fun z => by subst z; rw [hG1] at q; cases q
      rw [upd_ne z]
      exact F1.exG b u q
    · by_cases z : b = a
      · subst z; exact .inl hB
      · have q := F1.dis b; rw [upd_ne z] at q; exact q
    · have z : b ≠ a := fun z => hO1 (by rw [← z]; exact hb)
      have q := (F1.own b hb).1
      rw [upd_ne z] at q
      exact q
  refine k _ δ1 _ G1 _ (w1 a) e1 F2 ⟨rfl, ⟨_, upd_same, repK_merge hr (by unfold RepK; rfl)⟩, hB, hG1, hO1⟩ fun hp => ⟨(p1 hp).1, fun b u q => ?_⟩
  have z : b ≠ a := fun z => by subst z; rw [ha] at q; cases q
  rw [upd_ne z]
  exact (p1 hp).2 b u (by rw [upd_ne z]; exact q)
end
end DL

/-! DL7: the words as they are used. -/
namespace DL
open PySem PySem.Spec PyProof.Rows L2
open Evl (Ex)
/-! ### readings that the printer names -/
def rIsNA : R2 := fun x y H Q => y = .non ∧ Q (.bl (decide (x = .non))) H
def rNotNA : R2 := fun x y H Q => y = .non ∧ Q (.bl (!decide (x = .non))) H
theorem op_isNA {X : Cx} : OpR X (compareOp .Is) rIsNA := op_isN
theorem op_notNA {X : Cx} : OpR X (compareOp .IsNot) rNotNA := op_notN
def rSubA : R2 := rI0 fun i j => .int (i - j)
def rDivA : R2 := rI CDivW fun i j => .int (i / j)
def rModA : R2 := rI (fun _ j => 0 < j) fun i j => .int (i % j)
def rPowA : R2 := rI CPow fun i j => .int (i ^ j.toNat)
def rShlA : R2 := rI CPow fun i j => .int (i * 2 ^ j.toNat)
def rShrA : R2 := rI (fun _ j => 0 ≤ j) fun i j => .int (i / 2 ^ j.toNat)
def rLtA : R2 := rI0 fun i j => .bl (decide (i < j))
def rLeA : R2 := rI0 fun i j => .bl (decide (i ≤ j))
def rGtA : R2 := rI0 fun i j => .bl (decide (j < i))
def rGeA : R2 := rI0 fun i j => .bl (decide (j ≤ i))
def uNegA : V → Hp → VK → Prop := rU fun i => .int (-i)
def rAddI : TIp := fun x y H Q => rI0 (fun i j => .int (i + j)) x y H Q ∨ rAddS x y H Q
section
variable {X : Cx}
theorem op_subA : OpR X (binaryOp .Sub) rSubA := op_sub
theorem op_divA : OpR X (binaryOp .FloorDiv) rDivA := op_fdivW
theorem op_modA : OpR X (binaryOp .Mod) rModA := op_mod
theorem op_powA : OpR X (binaryOp .Pow) rPowA := op_pow
theorem op_ltA : OpR X (compareOp .Lt) rLtA := op_lt
theorem op_leA : OpR X (compareOp .LtE) rLeA := op_le
theorem op_gtA : OpR X (compareOp .Gt) rGtA := op_gt
theorem call_lenA : CallR X (.builtin "len") (rLenA X.K) := call_len
theorem call_maxA (hc : X.calm = true) : CallR X (.builtin "max") rMax2 := call_max2 hc
theorem call_minA (hc : X.calm = true) : CallR X (.builtin "min") rMin2 := call_min2 hc
theorem call_listA : CallR X (.type "list") (rListA X.K) := call_list_of
theorem call_tupA : CallR X (.type "tuple") (rTupA X.K) := call_tuple_of
theorem mt_joinA : MtR X "str.join" (rJoinA X.K) := L2.mt_join
theorem mt_appendA : MtR X "list.append" rAppend := mt_append
end
/-! ### the words -/
def W (c : Cd) (t : TS) (δ : List Sl) (N : List Sl → Prop) (R : R → List Sl → Prop) (B C : List Sl → Prop) : Prop := WS c t δ ⟨N, R, B, C⟩
section
variable {c : Cd} {p : Bool} {δ : List Sl} {te ta tb : TE} {t u : TS} {tt : TT} {g : TG} {N B C : List Sl → Prop} {Rt : R → List Sl → Prop}
theorem w_seq (h : W c t δ (fun δ' => W c u δ' N Rt B C) Rt B C) : W c (tSeq t u) δ N Rt B C := ws_seq h
theorem w_next (h : N δ) : W c tNext δ N Rt B C := ws_next h
theorem w_drop (h : WE c false te δ fun _ δ1 => N δ1) : W c (tDrop te) δ N Rt B C := ws_drop h
theorem w_ret (h : WE c false te δ Rt) : W c (tRet te) δ N Rt B C := ws_ret h
theorem w_if (h : WT c false tt δ fun b δ1 => (b = true → W c t δ1 N Rt B C) ∧ (b = false → W c u δ1 N Rt B C)) : W c (tIfS tt t u) δ N Rt B C := ws_if h
theorem w_asg (h : WE c false te δ fun r δ1 => WG c g r δ1 N) : W c (tAsg te g) δ N Rt B C := ws_asg h
theorem w_par {i j : Nat} {tr : TA} (h : WA c false tr δ fun rs δ1 => ∃ x y, rs = [.d x, .d y] ∧ N ((δ1.set i (.d x)).set j (.d y))) : W c (tPar i j tr) δ N Rt B C := ws_par h
theorem w_for {wi : TI} (h : WI c false wi δ fun ds δ1 => ∃ I : Nat → List Sl → Prop, I 0 δ1 ∧
    (∀ i d δ2, ds[i]? = some d → I i δ2 → WG c g (.d d) δ2 fun δ3 => W c t δ3 (I (i + 1)) Rt N (I (i + 1))) ∧ ∀ δ2, I ds.length δ2 → N δ2) : W c (tFor wi g t) δ N Rt B C := ws_for h
theorem w_while (I : Nat → List Sl → Prop) (n : Nat) (h0 : I n δ) (hs : ∀ m δ', I m δ' → WT c false tt δ' fun b δ2 => (b = true → W c t δ2 (fun δ3 => ∃ m', m' < m ∧ I m' δ3) Rt N (fun δ3 => ∃ m', m' < m ∧ I m' δ3)) ∧ (b = false → N δ2)) : W c (tWhile tt t) δ N Rt B C := ws_while (I := I) n h0 hs
theorem w_frz (i : Nat) {a : Addr} {x : D} (e : δ[i]? = some (.own a x)) (h : W c t (δ.set i (.d x)) N Rt B C) : W c t δ N Rt B C := ws_frz i e h
theorem w_forget (i : Nat) (h : W c t (δ.set i .no) N Rt B C) : W c t δ N Rt B C := ws_forget i h
/-! ### operations on data, as they come out -/
variable {k : R → Prop} {i j : Int} {x y : D} {xs ys : List D} {s z : Str} {b : Bool}
theorem dAdd_i (h : k (.d (.int (i + j)))) : dAdd (.int i) (.int j) k := h
theorem dAdd_s (h1 : s.length + z.length ≤ 16000000) (h : k (.d (.str (s ++ z)))) : dAdd (.str s) (.str z) k := ⟨h1, h⟩
theorem dAdd_l (h1 : xs.length + ys.length ≤ 100000) (h : ∀ a, k (.own a (.lst (xs ++ ys)))) : dAdd (.lst xs) (.lst ys) k := ⟨h1, h⟩
theorem dInt0_i {g : Int → Int → D} (h : k (.d (g i j))) : dInt0 g (.int i) (.int j) k := h
theorem dInt_i {Cc : Int → Int → Prop} {g : Int → Int → D} (hc : Cc i j) (h : k (.d (g i j))) : dInt Cc g (.int i) (.int j) k := ⟨hc, h⟩
theorem dMul_i (hc : CMul i j ∨ CMulX i j) (h : k (.d (.int (i * j)))) : dMul (.int i) (.int j) k := ⟨hc, h⟩
theorem dEq_s {f : Bool → Bool} (e : sEq x y = some b) (h : k (.d (.bl (f b)))) : dEqF f x y k := .inl ⟨b, e, h⟩
theorem dEq_d {f : Bool → Bool} {d e : PyData} (h1 : py x = some d) (h2 : py y = some e) (h3 : SeqAt.shaped d = true) (h4 : SeqAt.shaped e = true) (h : k (.d (.bl (f (PyData.eqv d e))))) : dEqF f x y k := .inr ⟨d, e, h1, h2, h3, h4, h⟩
theorem dIn_s {f : Bool → Bool} {ch : Nat} (h : k (.d (.bl (f (decide (ch ∈ z.cps.toList)))))) : dIn f (.str ⟨#[ch]⟩) (.str z) k := ⟨ch, rfl, h⟩
theorem dIn_l {f : Bool → Bool} (h1 : flatD x = true) (h2 : xs.all flatD = true) (h : k (.d (.bl (f (inD x xs))))) : dIn f x (.lst xs) k := by cases x <;> exact ⟨h1, h2, h⟩
theorem dIn_t {f : Bool → Bool} (h1 : flatD x = true) (h2 : xs.all flatD = true) (h : k (.d (.bl (f (inD x xs))))) : dIn f x (.tup xs) k := by cases x <;> exact ⟨h1, h2, h⟩
theorem dIx_l (h1 : atI xs i = some x) (h : k (.d x)) : dIx (.lst xs) (.int i) k := ⟨x, h1, h⟩
theorem dIx_r (h1 : atI xs i = some x) (h : k (.d x)) : dIx (.ro xs) (.int i) k := ⟨x, h1, h⟩
theorem dIx_t (h1 : atI xs i = some x) (h : k (.d x)) : dIx (.tup xs) (.int i) k := ⟨x, h1, h⟩
theorem dIx_s {ch : Nat} (h0 : z.length ≤ 16000000) (h1 : atI z.cps.toList i = some ch) (h : k (.d (.str ⟨#[ch]⟩))) : dIx (.str z) (.int i) k := ⟨h0, ch, h1, h⟩
theorem dIsN_ {f : Bool → Bool} (h : k (.d (.bl (f (isNon x))))) : dIsN f x .non k := ⟨rfl, h⟩
theorem br_t {P Q : Prop} (h : P) : (true = true → P) ∧ (true = false → Q) := ⟨fun _ => h, fun q => nomatch q⟩
theorem br_f {P Q : Prop} (h : Q) : (false = true → P) ∧ (false = false → Q) := ⟨fun q => (nomatch q), fun _ => h⟩
theorem br {P Q : Prop} {b : Bool} (h1 : b = true → P) (h2 : b = false → Q) : (b = true → P) ∧ (b = false → Q) := ⟨h1, h2⟩
/-- by a proposition -/
theorem br_d {P Q A : Prop} [Decidable A] (h1 : A → P) (h2 : ¬ A → Q) : (decide A = true → P) ∧ (decide A = false → Q) := ⟨fun h => h1 (of_decide_eq_true h), fun h => h2 (of_decide_eq_false h)⟩
theorem br_n {P Q A : Prop} [Decidable A] (h1 : ¬ A → P) (h2 : A → Q) : ((!decide A) = true → P) ∧ ((!decide A) = false → Q) := ⟨fun h => h1 (by simpa using h), fun h => h2 (by simpa using h)⟩
theorem br_not {P Q : Prop} (h : (b = true → Q) ∧ (b = false → P)) : ((!b) = true → P) ∧ ((!b) = false → Q) := ⟨fun q => h.2 (by simpa using q), fun q => h.1 (by simpa using q)⟩
theorem opd_addA' : OpD c rAddA dAdd := opd_add
theorem opd_subA : OpD c rSubA (dInt0 fun i j => .int (i - j)) := opd_sub
theorem opd_divA : OpD c rDivA (dInt CDivW fun i j => .int (i / j)) := opd_fdiv
theorem opd_modA : OpD c rModA (dInt (fun _ j => 0 < j) fun i j => .int (i % j)) := opd_mod
theorem opd_powA : OpD c rPowA (dInt CPow fun i j => .int (i ^ j.toNat)) := opd_pow
theorem opd_ltA : OpD c rLtA (dInt0 fun i j => .bl (decide (i < j))) := opd_lt
theorem opd_leA : OpD c rLeA (dInt0 fun i j => .bl (decide (i ≤ j))) := opd_le
theorem opd_gtA : OpD c rGtA (dInt0 fun i j => .bl (decide (j < i))) := opd_gt
theorem opd_isNA : OpD c rIsNA (dIsN id) := opd_isN
theorem opd_notNA : OpD c rNotNA (dIsN not) := opd_notN
def dAddI : Dop
  | .int i, .int j, k => k (.d (.int (i + j)))
  | .str x, .str y, k => x.length + y.length ≤ 16000000 ∧ k (.d (.str (x ++ y)))
  | _, _, _ => False
/-- the def's own words from the parameters' -/
theorem lift_W {K : PySem.W.Frag} {S : SpD} {t : TS} {Nm : List Str} {vs : List V} {H : Hp} {Q : VK} {X : XK} (h : lift K S vs H Q X)
    (hb : ∀ as Φ, S as Φ → W (c0 K) t (as ++ List.replicate (Nm.length - as.length) .no) (RetD as Φ (.d .non)) (RetD as Φ) (fun _ => False) (fun _ => False)) : t { nx := fun _ H' => Q .non H', rt := Q } (L2.start Nm vs) H :=
  lift_body h fun as Φ _ hS => hb as Φ hS
theorem lift_len {K : PySem.W.Frag} {S : SpD} {n : Nat} (hl : ∀ as Φ, S as Φ → as.length = n) {vs : List V} {H : Hp} {Q : VK} {X : XK} (h : lift K S vs H Q X) : vs.length = n := by
  obtain ⟨B, G, as, F, hS⟩ := h
  have e := F.sl.len
  rw [← hl as _ hS, ← e, List.length_map]
end
end DL
namespace DL
open PySem PySem.Spec PyProof.Rows L2
section
variable {c : Cd} {p : Bool} {δ δ' : List Sl} {r1 r2 : R} {x y : D} {b : Bool} {k : R → Prop} {f : Dop}
theorem ex_op (h1 : view δ r1 = some x) (h2 : view δ r2 = some y) (q : f x y k) : ∃ x y, view δ r1 = some x ∧ view δ r2 = some y ∧ f x y k := ⟨x, y, h1, h2, q⟩
theorem ex_bl {P : Bool → Prop} (q : P b) : ∃ b', R.d (.bl b) = .d (.bl b') ∧ P b' := ⟨b, rfl, q⟩
theorem ex_int {i : Int} {P : Int → Prop} (q : P i) : ∃ i', R.d (.int i) = .d (.int i') ∧ P i' := ⟨i, rfl, q⟩
theorem ex_dat {P : D → Prop} (h : frz r1 = .d x) (q : P x) : ∃ x, frz r1 = .d x ∧ P x := ⟨x, h, q⟩
/-- the truth of a truth -/
theorem ex_trb {P : Bool → Prop} (q : P b) : ∃ x b', view δ (frz (R.d (.bl b))) = some x ∧ truD x = some b' ∧ strOk x ∧ (∀ ds, x = .dct ds → ∃ i a, R.d (.bl b) = .bor i a) ∧ P b' := ⟨_, b, rfl, rfl, trivial, (fun _ e => nomatch e), q⟩
theorem ex_two {g : Int → Int → Int} {i j : Int} {Φ : R → Prop} (q : Φ (.d (.int (g i j)))) : ∃ x y, [D.int i, D.int j] = [x, y] ∧ dInt2 g x y Φ := ⟨_, _, rfl, q⟩
theorem ex_it {ds : List D} {P : List D → Prop} (h : frz r1 = .d x) (h2 : itemsD x = some ds) (q : P ds) : ∃ y ds, frz r1 = .d y ∧ itemsD y = some ds ∧ P ds := ⟨x, ds, h, h2, q⟩
theorem ex_view {P : D → Prop} (h : view δ r1 = some x) (q : P x) : ∃ x, view δ r1 = some x ∧ P x := ⟨x, h, q⟩
theorem wt_yes {Φ : Bool → List Sl → Prop} (q : Φ true δ) : WT c p tYes δ Φ := fun B G H σ Q F x k => k true δ G H q (Evl.Ex.refl G) F fun _ => ⟨rfl, Evl.Ex.refl H⟩
/-- types of flat things are told -/
theorem isi_ty {n T : String} (h : tyD x = some T) (h2 : kitB T n = some b) : isiD x (.ty n) = some b := by
  unfold isiD
  rw [h]
  exact h2
end
theorem kit_ii : kitB "int" "int" = some true := by decide +kernel
theorem kit_bi : kitB "bool" "int" = some true := by decide +kernel
theorem kit_ib : kitB "int" "bool" = some false := by decide +kernel
theorem kit_bb : kitB "bool" "bool" = some true := by decide +kernel
theorem kit_si : kitB "str" "int" = some false := by decide +kernel
theorem kit_sb : kitB "str" "bool" = some false := by decide +kernel
theorem kit_ss : kitB "str" "str" = some true := by decide +kernel
theorem kit_is : kitB "int" "str" = some false := by decide +kernel
theorem kit_bs : kitB "bool" "str" = some false := by decide +kernel
theorem kit_ni : kitB "NoneType" "int" = some false := by decide +kernel
theorem kit_nb : kitB "NoneType" "bool" = some false := by decide +kernel
theorem kit_ns : kitB "NoneType" "str" = some false := by decide +kernel
theorem kit_li : kitB "list" "int" = some false := by decide +kernel
theorem kit_lb : kitB "list" "bool" = some false := by decide +kernel
theorem kit_ls : kitB "list" "str" = some false := by decide +kernel
theorem kit_ti : kitB "tuple" "int" = some false := by decide +kernel
theorem kit_tb : kitB "tuple" "bool" = some false := by decide +kernel
theorem kit_ts : kitB "tuple" "str" = some false := by decide +kernel
theorem kit_di : kitB "dict" "int" = some false := by decide +kernel
theorem kit_db : kitB "dict" "bool" = some false := by decide +kernel
theorem kit_ds : kitB "dict" "str" = some false := by decide +kernel
/-- isinstance(x, int), (x, bool), (x, str) -/
def isIntD : D → Bool
  | .int _ => true | .bl _ => true | _ => false
def isBlD : D → Bool
  | .bl _ => true | _ => false
def isStrD : D → Bool
  | .str _ => true | _ => false
theorem isi_int {x : D} (h : (tyD x).isSome = true) : isiD x (.ty "int") = some (isIntD x) := by
  cases x <;> first | (cases h; done) | exact isi_ty rfl kit_ii | exact isi_ty rfl kit_bi | exact isi_ty rfl kit_si | exact isi_ty rfl kit_ni | exact isi_ty rfl kit_li | exact isi_ty rfl kit_ti | exact isi_ty rfl kit_di
theorem isi_bl {x : D} (h : (tyD x).isSome = true) : isiD x (.ty "bool") = some (isBlD x) := by
  cases x <;> first | (cases h; done) | exact isi_ty rfl kit_ib | exact isi_ty rfl kit_bb | exact isi_ty rfl kit_sb | exact isi_ty rfl kit_nb | exact isi_ty rfl kit_lb | exact isi_ty rfl kit_tb | exact isi_ty rfl kit_db
theorem isi_str {x : D} (h : (tyD x).isSome = true) : isiD x (.ty "str") = some (isStrD x) := by
  cases x <;> first | (cases h; done) | exact isi_ty rfl kit_is | exact isi_ty rfl kit_bs | exact isi_ty rfl kit_ss | exact isi_ty rfl kit_ns | exact isi_ty rfl kit_ls | exact isi_ty rfl kit_ts | exact isi_ty rfl kit_ds
end DL
namespace DL
open PySem PySem.Spec PyProof.Rows L2
/-- a def's words: what is to be shown of its body -/
def Ws (S : SpD) (t : PySem.W.Frag → TS) (pad : List Sl) : Prop := ∀ (K : PySem.W.Frag) (as : List Sl) (Φ : R → List Sl → Prop), S as Φ → W (c0 K) (t K) (as ++ pad) (RetD as Φ (.d .non)) (RetD as Φ) (fun _ => False) (fun _ => False)
end DL
namespace DL
open PySem PySem.Spec PyProof.Rows L2
section
variable {c : Cd} {p : Bool} {δ : List Sl} {r1 r2 r3 : R} {x y z : D}
theorem we_ci {i : Int} {Φ : R → List Sl → Prop} (q : Φ (.d (.int i)) δ) : WE c p (tC (.int i)) δ Φ := we_c q
theorem we_cs {i : Str} {Φ : R → List Sl → Prop} (q : Φ (.d (.str i)) δ) : WE c p (tC (.str i)) δ Φ := we_c q
theorem we_cb' {i : Bool} {Φ : R → List Sl → Prop} (q : Φ (.d (.bl i)) δ) : WE c p (tC (.bl i)) δ Φ := we_c q
theorem we_cn {Φ : R → List Sl → Prop} (q : Φ (.d .non) δ) : WE c p (tC .non) δ Φ := we_c q
theorem we_ct {i : String} {Φ : R → List Sl → Prop} (q : Φ (.d (.ty i)) δ) : WE c p (tC (.ty i)) δ Φ := we_c q
theorem ex_vs1 {P : List D → Prop} (h : view δ r1 = some x) (q : P [x]) : ∃ ds, views δ [r1] = some ds ∧ P ds := ⟨[x], by unfold views; rw [h]; rfl, q⟩
theorem ex_vs2 {P : List D → Prop} (h : view δ r1 = some x) (h2 : view δ r2 = some y) (q : P [x, y]) : ∃ ds, views δ [r1, r2] = some ds ∧ P ds := ⟨[x, y], by unfold views; rw [h]; unfold views; rw [h2]; rfl, q⟩
theorem datas_nil : datas [] = some [] := rfl
theorem datas_cons {rs : List R} {ds : List D} (h : datas rs = some ds) : datas (.d x :: rs) = some (x :: ds) := by unfold datas; rw [h]; rfl
theorem ex_lsd {ds : List D} {rs : List R} {P : List D → Prop} (h : datas rs = some ds) (hl : ds.length ≤ 100000) (q : P ds) : ∃ ds, datas rs = some ds ∧ ds.length ≤ 100000 ∧ P ds := ⟨ds, h, hl, q⟩
end
end DL
namespace DL
open PySem PySem.Spec PyProof.Rows L2
section
variable {c : Cd} {p : Bool} {δ δ' : List Sl} {r r1 r2 : R} {x y z : D} {i : Nat} {a : Addr} {s : Sl}
theorem wg_nameN {Φ : List Sl → Prop} (e : slOf r = some s) (hs : δ.set i s = δ') (h : Φ δ') : WG c (gName i) r δ Φ := wg_name e (by rw [hs]; exact h)
theorem ex_bor {P : Nat → Addr → Prop} (q : P i a) : ∃ i' a', R.bor i a = .bor i' a' ∧ P i' a' := ⟨i, a, rfl, q⟩
theorem cdiv_ok {i j : Int} (h : 0 < j) (h2 : j < 2 ^ 200) : CDivW i j := wide_div (b := 200) h (by omega) (by decide) (by decide)
theorem toAs_nil : toAs δ [] = some [] := rfl
theorem toAs_d {rs : List R} {as : List Sl} (h : toAs δ rs = some as) : toAs δ (.d x :: rs) = some (.d x :: as) := by unfold toAs; rw [h]; rfl
theorem toAs_b {rs : List R} {as : List Sl} (e : δ[i]? = some (.own a x)) (h : toAs δ rs = some as) : toAs δ (.bor i a :: rs) = some (.own a x :: as) := by
  unfold toAs
  rw [e]
  simp [h]
theorem ex_call {as : List Sl} {rs : List R} {A : Prop} {P : List Sl → Prop} (h1 : toAs δ rs = some as) (h2 : (owned as).Nodup) (h3 : A) (q : P as) : ∃ as, toAs δ rs = some as ∧ (owned as).Nodup ∧ A ∧ P as := ⟨as, h1, h2, h3, q⟩
end
end DL
namespace DL
open PySem PySem.Spec PyProof.Rows L2
section
variable {c : Cd} {p : Bool} {δ δ' : List Sl} {r r1 r2 : R} {x y z : D} {i : Nat} {a : Addr} {s : Sl} {te ta tb : TE} {tr : TA} {N B C : List Sl → Prop} {Rt : R → List Sl → Prop}
theorem all_eqN {P : List Sl → Prop} {e : List Sl} (hs : e = δ') (q : P δ') : ∀ δ3, δ3 = e → P δ3 := fun δ3 h => by rw [h, hs]; exact q
theorem we_append {Φ : R → List Sl → Prop} (h : WE c false te δ fun r1 δ1 => ∃ i a, r1 = .bor i a ∧ (∃ ds, δ1[i]? = some (.own a (.lst ds))) ∧ WA c false tr δ1 fun rs δ2 => ∃ ds x, rs = [.d x] ∧ δ2[i]? = some (.own a (.lst ds)) ∧ ds.length < 100000 ∧
    ∀ δ3, δ3 = δ2.set i (.own a (.lst (ds ++ [x]))) → Φ (.d .non) δ3) : WE c false (tBM c.K "list" rAppend te tr) δ Φ := by
  refine we_mu mu_append (we_mono h fun r1 δ1 ⟨i, a, e1, h0, h1⟩ => ⟨i, a, e1, h0, ?_⟩)
  intro B G H σ Q F x k
  refine h1 B G H σ Q F x fun rs δ2 vs G' H' ⟨ds, y, e2, e3, hl, q⟩ => k rs δ2 vs G' H' ⟨ds, [y], by rw [e2]; rfl, e3, y, rfl, hl, q _ rfl⟩
theorem ex_appN {P : List D → D → Prop} {ds : List D} (h1 : δ[i]? = some (.own a (.lst ds))) (h2 : ds.length < 100000) (q : P ds x) : ∃ ds' x', [R.d x] = [.d x'] ∧ δ[i]? = some (.own a (.lst ds')) ∧ ds'.length < 100000 ∧ P ds' x' := ⟨ds, x, rfl, h1, h2, q⟩
theorem w_parN {i j : Nat} (h : WA c false tr δ fun rs δ1 => ∃ x y, rs = [.d x, .d y] ∧ ∀ δ3, δ3 = ((δ1.set i (.d x)).set j (.d y)) → N δ3) : W c (tPar i j tr) δ N Rt B C := by
  refine w_par ?_
  intro B G H σ Q F x k
  exact h B G H σ Q F x fun rs δ2 vs G' H' ⟨a, b, e2, q⟩ => k rs δ2 vs G' H' ⟨a, b, e2, q _ rfl⟩
end
end DL
namespace DL
open PySem PySem.Spec PyProof.Rows L2
theorem dPow_ {k : R → Prop} {i j v : Int} (e : i ^ j.toNat = v) (hc : CPow i j) (h : k (.d (.int v))) : dInt CPow (fun i j => .int (i ^ j.toNat)) (.int i) (.int j) k := by
  subst e
  exact ⟨hc, h⟩
end DL

/-! DL8: a comprehension whose members change what the slots hold. -/
namespace DL
open PySem PySem.Spec PyProof.Rows L2
open Evl (Ex)
section
variable {c : Cd} {p : Bool} {δ : List Sl} {te : TE} {tt : TT} {g : TG}
theorem we_lc {wi : TI} {vs : List Nat} {Φ : R → List Sl → Prop} (h : WI c false wi δ fun ds δ1 => ds.length ≤ 100000 ∧ ∃ I : Nat → List D → List Sl → Prop, I 0 [] δ1 ∧ nonOwn δ1 vs ∧
    (∀ (i : Nat) (d : DL.D) (acc : List D) (ε : List Sl), ds[i]? = some d → acc.length ≤ i → I i acc ε → nonOwn ε vs ∧ WGc g c.K d (wipeS ε vs) vs fun ε1 => WT (c0 c.K) false tt ε1 fun b ε2 => (b = true → WE (c0 c.K) false te ε2 fun r ε3 => ∃ x, frz r = .d x ∧ ∀ ε4, ε4 = restS ε (wipeS ε3 vs) vs → I (i + 1) (acc ++ [x]) ε4) ∧ (b = false → ∀ ε4, ε4 = restS ε (wipeS ε2 vs) vs → I (i + 1) acc ε4)) ∧
    ∀ acc δ', acc.length ≤ ds.length → I ds.length acc δ' → ∀ a, Φ (.own a (.lst acc)) δ') : WE c false (tLc wi g tt te vs) δ Φ := by
  intro B G H σ Q F x k
  refine h B G H σ _ F x fun ds δ1 J G1 H1 w e1 F1 p1 ww => ?_
  obtain ⟨hlen, I, hI0, hno, step, w⟩ := w
  obtain ⟨Gd, Y, W, hG, hY⟩ := ww
  intro D hD
  obtain ⟨hB, hG1, hO⟩ := F1.fresh hD
  -- the frame with the list under way behind the wall
  have enter : ∀ {G H : Hp} {σ : St} {ε : List Sl} {xs : List V}, Frame c.K B G H σ ε → H D = none → Frame c.K (upd B D (.lst xs)) G (upd H D (.lst xs)) σ ε := fun {G H σ ε xs} F hD => by
    obtain ⟨q1, q2, q3⟩ := F.fresh hD
    have F' := F.ex (Ex.new (o := .lst xs) hD)
    refine ⟨fun b o e => ?_, F'.exG, fun b => ?_, F'.sl, fun a ha => ⟨?_, (F'.own a ha).2⟩, F'.nd⟩
    · by_cases q : b = D
      · subst q; rw [upd_same] at e ⊢; exact e
      · rw [upd_ne q] at e; exact F'.exB b o e
    · by_cases q : b = D
      · subst q; exact .inr (.inl q2)
      · rw [upd_ne q]; exact F'.dis b
    · rw [upd_ne (fun q => q3 (by rw [← q]; exact ha))]
      exact (F'.own a ha).1
  refine lc_it W (fun i H' => ∃ G' xs acc ε, Ex G1 G' ∧ Frame c.K (upd B D (.lst xs)) G' H' σ ε ∧ Reps c.K G' acc xs ∧ acc.length ≤ i ∧ I i acc ε) ⟨G1, [], [], δ1, Ex.refl G1, enter F1 hD, reps_nil, Nat.le_refl _, hI0⟩
    (fun i H' _ ⟨G', xs, acc, ε, e2, F2, _⟩ => hG H' (e2.trans F2.exG)) (fun i y H2 H3 hi pv yy => ?_) fun H' pv => ?_
  · obtain ⟨G', xs, acc, ε, e2, F2, hr, hal, hI⟩ := pv
    have go : ∀ (d : DL.D) (G2 H2 : Hp), ds[i]? = some d → Ex G1 G2 → Frame c.K (upd B D (.lst xs)) G2 H2 σ ε → Reps c.K G2 acc xs → Rep c.K G2 d y → g y (wipe σ vs) H2 fun σ2 H2 => wipe σ2 vs = wipe σ vs ∧ tt σ2 H2 fun b H3 =>
        if b = true then te σ2 H3 fun y H4 => ∃ ac, H4 D = some (.lst ac) ∧ ac.length < sizeLine ∧ ∃ G' xs acc ε, Ex G1 G' ∧ Frame c.K (upd B D (.lst xs)) G' (upd H4 D (.lst (ac ++ [y]))) σ ε ∧ Reps c.K G' acc xs ∧ acc.length ≤ i + 1 ∧ I (i + 1) acc ε
        else ∃ G' xs acc ε, Ex G1 G' ∧ Frame c.K (upd B D (.lst xs)) G' H3 σ ε ∧ Reps c.K G' acc xs ∧ acc.length ≤ i + 1 ∧ I (i + 1) acc ε := by
      intro d G2 H2 hd e3 F3 hr3 hrep
      obtain ⟨hno2, st⟩ := step i d acc ε hd hal hI
      have Fb := frame_wipe F3 vs
      refine st _ G2 H2 (wipe σ vs) y _ Fb hrep fun ε1 σ1 hw og Fg ew => ⟨ew.trans (wipe_wipe σ vs), ?_⟩
      have ew' : wipe σ1 vs = wipe σ vs := ew.trans (wipe_wipe σ vs)
      -- back to the outer slots
      have out : ∀ {G4 H4 : Hp} {ε4 : List Sl}, Ex G2 G4 → Frame c.K (upd B D (.lst xs)) G4 H4 σ1 ε4 → Frame c.K (upd B D (.lst xs)) G4 H4 σ (restS ε (wipeS ε4 vs) vs) := fun {G4 H4 ε4} e4 F4 => by
        have F5 := frame_wipe F4 vs
        rw [ew'] at F5
        exact ⟨F5.exB, F5.exG, F5.dis, restS_sl F3.sl e4 hno2 F5.sl, fun a ha => F5.own a ((restS_sub hno2).subset ha), F5.nd.sublist (restS_sub hno2)⟩
      refine hw _ G2 H2 σ1 _ Fg trivial fun b ε2 G4 H4 w4 e4 F4 _ => ?_
      cases b with
      | false =>
        rw [if_neg Bool.false_ne_true]
        exact ⟨G4, xs, acc, _, e3.trans e4, out e4 F4, hr3.mono e4, by omega, w4.2 rfl _ rfl⟩
      | true =>
        rw [if_pos rfl]
        refine w4.1 rfl _ G4 H4 σ1 _ F4 trivial fun r ε5 v5 G5 H5 w5 e5 F5 rv5 _ => ?_
        obtain ⟨z, hz, hI5⟩ := w5
        obtain ⟨G6, e6, F6, hr6⟩ := rv5.weak F5
        rw [hz] at hr6
        have hr6' : Rep c.K G6 z v5 := hr6
        have F7 := out (e4.trans (e5.trans e6)) F6
        have hx5 : H5 D = some (.lst xs) := F7.exB D _ upd_same
        have hlx : xs.length ≤ 100000 := by
          have hi' : i < ds.length := by
            rcases Nat.lt_or_ge i ds.length with q | q
            · exact q
            · rw [List.getElem?_eq_none q] at hd; cases hd
          rw [reps_length hr3]
          omega
        have dG : G6 D = none := F7.disN upd_same (fun _ z => nomatch z)
        have hOD : ∀ a ∈ owned (restS ε (wipeS ε5 vs) vs), a ≠ D := fun a ha q => by
          have z := (F7.own a ha).1
          rw [q, upd_same] at z
          cases z
        refine ⟨xs, hx5, Nat.lt_of_le_of_lt hlx (by rw [sizeLine_eq]; decide), G6, xs ++ [v5], acc ++ [z], _, (e3.trans e4).trans (e5.trans e6), ?_, reps_append (hr3.mono ((e4.trans e5).trans e6)) (reps_one hr6'), by rw [List.length_append]; simp; omega, hI5 _ rfl⟩
        refine ⟨fun b o e => ?_, fun b o e => ?_, fun b => ?_, F7.sl.ex (Ex.refl _) (fun a ha => upd_ne (hOD a ha)), fun a ha => ⟨?_, (F7.own a ha).2⟩, F7.nd⟩
        · by_cases q : b = D
          · subst q; rw [upd_same] at e ⊢; exact e
          · rw [upd_ne q] at e ⊢; exact F7.exB b o (by rw [upd_ne q]; exact e)
        · by_cases q : b = D
          · subst q; rw [dG] at e; cases e
          · rw [upd_ne q]; exact F7.exG b o e
        · by_cases q : b = D
          · subst q; exact .inr (.inl dG)
          · have z := F7.dis b; rw [upd_ne q] at z ⊢; exact z
        · have z := (F7.own a ha).1
          rw [upd_ne (hOD a ha)] at z ⊢
          exact z
    rcases hY i H2 y H3 hi yy with ⟨q1, d, hd, hrep⟩ | ⟨T, o, d, hT, q1, hd, hrep⟩
    · subst q1
      exact go d G' H3 hd e2 F2 hr (hrep.mono e2)
    · subst q1
      have hT' := (F2.fresh hT).2.1
      exact go d (upd G' T o) _ hd (e2.trans (Ex.new hT')) (F2.laid hT) (hr.mono (Ex.new hT')) (hrep G' e2 hT')
  · obtain ⟨G', xs, acc, ε, e2, F2, hr, hal, hI⟩ := pv
    have hx : H' D = some (.lst xs) := F2.exB D _ upd_same
    have dG : G' D = none := F2.disN upd_same (fun _ z => nomatch z)
    have hOD : D ∉ owned ε := fun ha => by
      have z := (F2.own D ha).1
      rw [upd_same] at z
      cases z
    have F3 : Frame c.K B G' H' σ ε := by
      refine ⟨fun b o e => ?_, F2.exG, fun b => ?_, F2.sl, fun a ha => ⟨?_, (F2.own a ha).2⟩, F2.nd⟩
      · by_cases q : b = D
        · subst q; rw [hB] at e; cases e
        · exact F2.exB b o (by rw [upd_ne q]; exact e)
      · by_cases q : b = D
        · subst q; exact .inl hB
        · have z := F2.dis b; rw [upd_ne q] at z; exact z
      · have z := (F2.own a ha).1
        rw [upd_ne (fun q => hOD (by rw [← q]; exact ha))] at z
        exact z
    exact k _ ε _ G' H' (w acc ε hal hI D) (e1.trans e2) F3 ⟨rfl, ⟨xs, hx, hr⟩, hB, dG, hOD⟩ fun hp => nomatch hp
end
end DL
namespace DL
open PySem PySem.Spec PyProof.Rows L2
section
variable {k : R → Prop} {x y : D} {z : Str} {b : Bool} {ch : Nat} {xs : List D}
theorem dEq_sI (e : sEq x y = some b) (h : k (.d (.bl b))) : dEqF id x y k := dEq_s e h
theorem dEq_sN (e : sEq x y = some b) (h : k (.d (.bl (!b)))) : dEqF not x y k := dEq_s e h
theorem dIn_sI (h : k (.d (.bl (decide (ch ∈ z.cps.toList))))) : dIn id (.str ⟨#[ch]⟩) (.str z) k := dIn_s h
theorem dIsN_I (h : k (.d (.bl (isNon x)))) : dIsN id x .non k := dIsN_ h
theorem dIsN_N (h : k (.d (.bl (!isNon x)))) : dIsN not x .non k := dIsN_ h
end
theorem str_eq {x y : Str} (h : x.cps.toList = y.cps.toList) : x = y := by
  cases x; cases y
  simp only [Str.mk.injEq]
  exact Array.toList_inj.mp h
theorem fx : (fun x => false ^^ x) = id := by funext x; cases x <;> rfl
theorem tx : (fun x => true ^^ x) = not := by funext x; cases x <;> rfl
theorem opd_inI {c : Cd} : OpD c (rInA c.K) (dIn id) := by
  have h := opd_in (c := c)
  rw [fx] at h
  exact h
theorem opd_inN {c : Cd} : OpD c (rNotInA c.K) (dIn not) := by
  have h := opd_notIn (c := c)
  rw [tx] at h
  exact h
section
variable {c : Cd} {δ : List Sl} {r1 r2 : R} {x y : D} {T : String} {P : D → List D → Prop} {Q : Prop}
theorem ex_ty (h : view δ r1 = some x) (h2 : tyM T x) (q : Q) : (∃ x, view δ r1 = some x ∧ tyM T x) ∧ Q := ⟨⟨x, h, h2⟩, q⟩
theorem ex_vm1 (h : view δ r1 = some x) (h2 : view δ r2 = some y) (q : P x [y]) : ∃ x ds, view δ r1 = some x ∧ views δ [r2] = some ds ∧ P x ds := ⟨x, [y], h, by unfold views; rw [h2]; rfl, q⟩
theorem ex_join {a : Str} {xs : List D} {ys : List Str} {P : Str → List Str → Prop} (h : strsD xs = some ys) (hl : (ys.map (·.length)).sum + ys.length * a.length ≤ 16777216) (q : P a ys) : ∃ a' xs' ys', D.str a = .str a' ∧ [D.lst xs] = [.lst xs'] ∧ strsD xs' = some ys' ∧ (ys'.map (·.length)).sum + ys'.length * a'.length ≤ 16777216 ∧ P a' ys' := ⟨a, xs, ys, rfl, rfl, h, hl, q⟩
end
end DL

/-! DL9: divmod, xs[::-1], find from a place. -/
namespace DL
open PySem PySem.Spec PyProof.Rows L2
open Evl (Ex)
section
variable {c : Cd} {p : Bool} {δ : List Sl} {te ta tb : TE}
def rDivmodA : List V → Hp → VK → Prop := fun xs H Q => ∃ i j, xs = [.int i, .int j] ∧ CDiv i j ∧ ∀ p, H p = none → Q (.ref p) (upd H p (.tup [.int (i / j), .int (i % j)]))
def rFind3A : V → List V → Hp → VK → Prop := fun x xs H Q => ∃ (a b : Str) (i : Int), x = .str a ∧ xs = [.str b, .int i] ∧ Q (.int (Txt.find3 a b i)) H
theorem views_two {rs : List R} {K : PySem.W.Frag} {G : Hp} {vs : List V} {x y : D} (e : views δ rs = some [x, y]) (h : RVs K G rs vs) : ∃ r w r2 w2, rs = [r, r2] ∧ vs = [w, w2] ∧ view δ r = some x ∧ view δ r2 = some y ∧ RW K G r w ∧ RW K G r2 w2 := by
  cases rs with
  | nil => cases views_nil e
  | cons r2 rs =>
    obtain ⟨x', es, e3, e4, e5⟩ := views_cons e
    cases e3
    obtain ⟨w, wr, e6, h3, h4⟩ := h
    obtain ⟨r, w', er, ew, e7, h5⟩ := views_one (r2 := r2) e5 h4
    subst er ew
    exact ⟨r2, w, r, w', rfl, e6, e4, e7, h3, h5⟩
theorem ex_ownl {i : Nat} {a : Addr} {ds : List D} {Q : Prop} (h : δ[i]? = some (.own a (.lst ds))) (q : Q) : (∃ ds, δ[i]? = some (.own a (.lst ds))) ∧ Q := ⟨⟨ds, h⟩, q⟩
theorem wg_mono {g : TG} {r : R} {Φ Φ' : List Sl → Prop} (h : WG c g r δ Φ) (m : ∀ δ', Φ δ' → Φ' δ') : WG c g r δ Φ' := fun B G H σ v Q F xr rv k =>
  h B G H σ v Q F xr rv fun δ1 σ1 G1 H1 w => k δ1 σ1 G1 H1 (m δ1 w)
end
end DL

/-! DL10: defs called where no repr is under way: what repr of lists and tuples wants to know. -/
namespace DL
open PySem PySem.Spec PyProof.Rows L2
open Evl (Ex)
/-- nothing is being shown; the table of modules is a dict -/
def GOk (base : Heap) (A : Around) : Prop := A.guards = some [] ∧ ∃ o es ep, base.get? sysModules = some o ∧ o.data = .dict es ep
/-- a def's promise where nothing is being shown -/
structure FnG (P : Program) (w : World) (K : PySem.W.Frag) (mg : Str → Option Value) (base : Heap) (CX : CXT) (k : Nat) (f : Addr) (fd : FuncData) (ps : List Str) (sp : Sp) : Prop where
  len : ∀ vs H Q E, sp vs H Q E → vs.length = ps.length
  run : ∀ (A : Around) (outer : List Env) (s : Shared) (H : Hp) (args : Args) (us : List Value) (vs : List V) (Q : VK) (E : XK), GOk base A → Room k A → Env0 P w K mg base A outer s H →
    BindsTo s fd args (ps.zip us) → Vals vs us → sp vs H Q E → codeAny (model P w) A (.call (.ref f) args) (CR CX outer P w H s Q E) s
section
variable {CX : CXT} {P : Program} {w : World} {K : PySem.W.Frag} {mg : Str → Option Value} {base : Heap}
theorem FnG.up {j k : Nat} {f : Addr} {fd : FuncData} {ps : List Str} {sp : Sp} (F : FnG P w K mg base CX j f fd ps sp) (h : j ≤ k) : FnG P w K mg base CX k f fd ps sp :=
  { len := F.len, run := fun A o s H a us vs Q E g r => F.run A o s H a us vs Q E g (r.mono h) }
theorem fnG_of {k : Nat} {f : Addr} {name qual : Str} {params : Arguments} {body : List Stmt} {scope : Scope} {dV kV doc pm cdv ct oc : Value} {an od : Option Addr} {osl : Array (Option Value)} {N ps : List Str} {sp : Sp}
    (lk : K.lookup f = some ⟨oc, od, .func (PySem.W.fnOf name qual params body scope dV kV doc pm an cdv ct), osl⟩) (hcd : PySem.W.codeIn K cdv qual = true) (S : FnScope N ps scope) (len : ∀ vs H Q E, sp vs H Q E → vs.length = ps.length)
    (hb : ∀ (A : Around) (outer : List Env) (s : Shared) (H : Hp) (vs : List V) (Q : VK) (E : XK), GOk base A → Room k (A.deeper (envOfC qual scope s.heap.objs.size f cdv)) → sp vs H Q E →
      ∃ t, PSs (cxOf CX P w K mg base N qual scope f cdv A outer s H E) body t ∧ t { nx := fun _ H' => Q .non H', rt := Q } (L2.start N vs) H) :
    FnG P w K mg base CX (k + 1) f (PySem.W.fnOf name qual params body scope dV kV doc pm an cdv ct) ps sp where
  len := len
  run := by
    intro A outer s H args us vs Q E gA room env bind rel wish
    have keep : ∀ b o, base.get? b = some o → s.heap.get? b = some o := fun b o e => (env.bs b o e).1
    have inK := env.mod.kin.keeps keep
    have many := len vs H Q E wish
    obtain ⟨t, ht, run⟩ := hb A outer s H vs Q E gA (room.deeper _) wish
    refine codeAny_call_function room.depth (inK f _ lk) rfl S.co S.gen rfl (PySem.W.codeRec_of inK hcd) (bind _ _ _ _ (wpAny_newFunctionEnv_cells S.kind (fun y hy => ?_) fun env' he s1 x => ?_))
    · obtain ⟨yn, yv⟩ := y
      cases S.par yn (List.of_mem_zip hy).1 with
      | inl q => exact .inl q
      | inr q => exact .inr ⟨q, PySem.W.cellsFrom_some _ _ _ (.inl q)⟩
    · subst he
      refine ⟨(env.mod.nolimit.keeps keep).keeps x.toInCall.keep, codeAny_func (wpAny_mono (ht.run [] s1 (L2.start N vs) H _ (inv_start S room.hd env many rel x) run) (fun fl s' hs => ?_) fun _ _ q => q)⟩
      cases fl with
      | ret u => exact let ⟨v, _, H', J, rv, q⟩ := hs; ⟨v, H', J.os, J.bare, J.base, J.hok, rv, q⟩
      | next => exact let ⟨_, H', J, q⟩ := hs; ⟨.non, H', J.os, J.bare, J.base, J.hok, rfl, q⟩
      | brk => exact (let ⟨_, _, _, q⟩ := hs; q : False).elim
      | cont => exact (let ⟨_, _, _, q⟩ := hs; q : False).elim
end
section
variable {X : Cx} {CX : CXT} {k : Nat} {f : Addr} {fd : FuncData} {ps : List Str} {sp : Sp} {dvs : List V} {ds : List Value} {E : XK} {x : Str} {p pos : Pos} {e : Expr} {es : List Expr} {t : TA}
theorem runG {pins : List (Addr × Obj)} {σ : L2.St} {H : Hp} {s : Shared} {Q : VK} {us : List Value} {vs : List V} (F : FnG X.prog X.w X.K X.mg X.base CX k f fd ps sp) (g : GOk X.base X.A) (hr : Room k X.A) (hb : Binds X.K fd ps ds) (hd : Vals dvs ds) (hx : Passes CX X E)
    (I : Inv X pins σ H s) (r : Vals vs us) (h : sp (vs ++ dvs) H Q E) : wpAny (model X.prog X.w) X.A (call (.ref f) us) (EP X pins σ Q) X.xe s := by
  have r2 := r.append hd
  have many : (us ++ ds).length = ps.length := by rw [← F.len _ _ _ _ h, r2.length]
  have go := F.run X.A X.stack s H ⟨us, []⟩ (us ++ ds) (vs ++ dvs) Q E g hr I.env0 (hb s us I.kIn many) r2 h
  refine wpAny_call (codeAny_mono go fun res s' q => ?_)
  match res, q with
  | .error ex, q => exact hx pins σ H s ex s' I q
  | .ok (.ret u), q => exact I.after q
theorem pe_callG (F : FnG X.prog X.w X.K X.mg X.base CX k f fd ps sp) (g : GOk X.base X.A) (hr : Room k X.A) (hg : Gl X x) (hm : X.mg x = some (.ref f)) (hk : PySem.W.keepIn X.K (.ref f) = true) (hb : Binds X.K fd ps ds) (hd : Vals dvs ds) (hx : Passes CX X E)
    (ha : PA X (e :: es) t) (hdb : (x == ("__debug__" : Str)) = false := by decide) (he : starEach (e :: es) X.env = (false, eval e X.env) :: starEach es X.env := by rfl) (hpl : (backTo pos (starEach es X.env)).any (·.1) = false := by rfl) : PE X (.Call (.Name x p) (e :: es) [] pos) (tCall sp dvs E t) := by
  constructor
  intro pins s σ H Q I h
  exact wpAny_Call_Name_kw (ld_glob I hg hm (PySem.W.callWith_K (h₀ := X.base) I.ok.mod.kin hk (thn (ha.run pos pins s σ H _ I h) fun us s1 ⟨vs, H1, I1, r, q⟩ => ⟨I1.kIn, runG F g hr hb hd hx I1 r q⟩) he hpl) hdb)
end
/-! ### the head -/
theorem ns_dict {h : Heap} (x : ∃ mm, h.Ns sysModules mm ∧ mm "_pylong" = none) : ∃ o es ep, h.get? sysModules = some o ∧ o.data = .dict es ep := by
  obtain ⟨mm, ⟨o, es, ep, e, d, _⟩, _⟩ := x
  exact ⟨o, es, ep, e, d⟩
section
variable {P : Program} {w : World} {K : PySem.W.Frag} {mg mb : Str → Option Value} {CX : CXT} {k : Nat} {fa a : Addr} {fd : FuncData} {x : Str} {sp : Sp} {s₁ : Shared} {vs : List Value} {ns : List Int}
/-- what is asked behind the call -/
abbrev Told (s₁ : Shared) (r : Result) (s' : Shared) : Prop := r = .ok (.ret (.bool true)) ∧ OldK s₁.heap s'.heap ∧ s'.os = s₁.os ∧ AllBare s'.gens
/-- from a heap of ours in which at most the script is tracked -/
theorem head_at (H : Hp) (KX : K.In s₁.heap) (hns : s₁.heap.Ns mainGlobals mg) (hb : s₁.heap.Ns builtinsNs mb) (hbb : ∀ x : Str, x ≠ "__name__" → mb x = bootBuiltins x) (hlim : s₁.heap.NoLimit) (hg : s₁.gens = #[])
    (ha : s₁.heap.get? a = some { cls := .type "list", data := .seq vs.toArray }) (hr : Room k callerA)
    (hsm : ∃ o es ep, s₁.heap.get? sysModules = some o ∧ o.data = .dict es ep) (F : ∀ base : Heap, K.In base → base.Ns mainGlobals mg → FnG P w K mg base CX k fa fd [x] sp) (hbind : ∀ (s : Shared) (u : Value), BindsTo s fd ⟨[u], []⟩ [(x, u)])
    (hCX : ∀ H e s', CX [] H s₁ (fun _ _ _ => False) e s' → False) (hO : Only H) (hok : HOk P w H s₁.heap) (hA : ∀ b, H b ≠ none → b = a) (hK : H a ≠ none → K.lookup a = none)
    (hS : sp [.ref a] H (fun v _ => v = .bl true) fun _ _ _ => False) : codeAny (model P w) callerA (.call (.ref fa) ⟨[.ref a], []⟩) (Told s₁) s₁ := by
  have at_a : ∀ {b : Addr}, H b ≠ none → ∀ {o : Obj}, s₁.heap.get? b = some o → o = { cls := .type "list", data := .seq vs.toArray } := fun {b} z {o} e => by
    rw [hA b z, ha] at e
    exact (Option.some.inj e).symm
  have dict_none : ∀ {b : Addr} {o : Obj} {es : Array DictEntry} {ep : Nat}, s₁.heap.get? b = some o → o.data = .dict es ep → H b = none := fun e d => Classical.byContradiction fun z => by
    rw [at_a z e] at d
    cases d
  have ns_hid : ∀ {b : Addr} {m : Str → Option Value}, s₁.heap.Ns b m → (hidT s₁.heap H).Ns b m := fun h => by
    obtain ⟨o, es, ep, e, d, r⟩ := h
    exact ⟨o, es, ep, hidT_get e (dict_none e d), d, r⟩
  have k_hid : K.In (hidT s₁.heap H) := fun b o e => hidT_get (KX b o e) (Classical.byContradiction fun z => by
    have q := hA b z
    subst q
    rw [hK z] at e
    cases e)
  obtain ⟨mc, l1, l2⟩ := hlim
  have m_hid : ∃ o es ep, (hidT s₁.heap H).get? sysModules = some o ∧ o.data = .dict es ep := by
    obtain ⟨o, es, ep, e, d⟩ := hsm
    exact ⟨o, es, ep, hidT_get e (dict_none e d), d⟩
  have env : Env0 P w K mg (hidT s₁.heap H) callerA [] s₁ H :=
    { frames := rfl, mod := ⟨k_hid, ns_hid hns, ⟨mb, ns_hid hb, hbb⟩, ⟨mc, ns_hid l1, l2⟩⟩, bs := fun b o e => of_hidT e, bsz := Nat.le_of_eq (hidT_size _ _), funs := trivial, frf := fun b z => (nomatch z), hok := hok, bare := .of_eq hg }
  refine codeAny_mono ((F _ k_hid (ns_hid hns)).run callerA [] s₁ H ⟨[.ref a], []⟩ [.ref a] [.ref a] _ _ ⟨rfl, m_hid⟩ hr env (hbind s₁ (.ref a)) (.cons rfl .nil) hS) fun r s' h => ?_
  match r, h with
  | .error e, h => exact (hCX H e s' h).elim
  | .ok (.ret u), h =>
    obtain ⟨v, H', eo, br, un, hok', rv, q⟩ := h
    subst q
    have eu : u = Value.bool true := rv
    subst eu
    refine ⟨rfl, OldK.of_keep fun b o e => ?_, eo, br⟩
    rcases hO b with z | ⟨ob, xs, z⟩
    · exact un.keep b o e z (fun z => nomatch z) (fun z => nomatch z)
    · have e1 := (hok b _ z).1
      have e2 := (hok' b _ (un.frzs b ob _ z)).1
      rw [e] at e1
      rw [e2, e1]
theorem law_callG (KX : K.In s₁.heap) (hns : s₁.heap.Ns mainGlobals mg) (hb : s₁.heap.Ns builtinsNs mb) (hbb : ∀ x : Str, x ≠ "__name__" → mb x = bootBuiltins x) (hlim : s₁.heap.NoLimit) (hg : s₁.gens = #[])
    (ha : s₁.heap.get? a = some { cls := .type "list", data := .seq vs.toArray }) (hi : IntsAre vs ns) (hl : ns.length ≤ sizeLine) (hr : Room k callerA)
    (hsm : ∃ o es ep, s₁.heap.get? sysModules = some o ∧ o.data = .dict es ep) (F : ∀ base : Heap, K.In base → base.Ns mainGlobals mg → FnG P w K mg base CX k fa fd [x] sp) (hbind : ∀ (s : Shared) (u : Value), BindsTo s fd ⟨[u], []⟩ [(x, u)])
    (hsp : ∀ H : Hp, Only H → SqL K H a (ns.map V.int) → sp [.ref a] H (fun v _ => v = .bl true) fun _ _ _ => False)
    (hCX : ∀ H e s', CX [] H s₁ (fun _ _ _ => False) e s' → False) : codeAny (model P w) callerA (.call (.ref fa) ⟨[.ref a], []⟩) (Told s₁) s₁ := by
  have rel := vals_ints hi
  cases look : K.lookup a with
  | some o =>
    have same := KX a o look
    rw [ha] at same
    cases same
    have hO : Only fun _ => none := fun _ => .inl rfl
    exact head_at (fun _ => none) KX hns hb hbb hlim hg ha hr hsm F hbind hCX hO (fun _ _ z => nomatch z) (fun _ z => absurd rfl z) (fun z => absurd rfl z)
      (hsp _ hO (.inr ⟨_, vs.toArray, _, look, rfl, rfl, rfl, by rw [List.size_toArray, hi.length]; exact hl, by simpa using rel⟩))
  | none =>
    let obj : Obj := { cls := .type "list", data := .seq vs.toArray }
    let H : Hp := fun b => if b = a then some (.frz obj (.lst (ns.map V.int))) else none
    have at_a : H a = some (.frz obj (.lst (ns.map V.int))) := if_pos rfl
    have off : ∀ {b}, b ≠ a → H b = none := fun z => if_neg z
    have hO : Only H := fun b => by
      by_cases z : b = a
      · rw [z]; exact .inr ⟨_, _, at_a⟩
      · exact .inl (off z)
    refine head_at H KX hns hb hbb hlim hg ha hr hsm F hbind hCX hO (fun b u z => ?_) (fun b z => Classical.byContradiction fun q => z (off q)) (fun _ => look) (hsp _ hO (.inl (.inr ⟨_, at_a⟩)))
    by_cases q : b = a
    · subst q
      rw [at_a] at z
      cases z
      exact ⟨ha, by rw [List.length_map]; exact hl, vs, _, rel, ha⟩
    · rw [off q] at z
      cases z
end
theorem walk_ofG {l : PySem.W.OpenLaw} {n k : Nat} {q : Program} {loose : List Str} {XP : (Str → Option Value) → Heap → Prop} {YP : World → Heap → Prop} {d : DefRec} {K : Params → PySem.W.Frag} {CX : World → CXT} {sp : World → Sp} {x : Str}
    (hq : importsNone q = true) (hn : l.most = some n) (hn2 : n ≤ sizeLine) (hdf : d.params.defaults = []) (hr : Room k callerA) (hY : ∀ (w : World) (h : Heap), YP w h → (K w.params).In h)
    (F : ∀ (w : World) (mg : Str → Option Value) (fa : Addr) (h : Heap), (K w.params).In h → h.Ns mainGlobals mg → mg d.name = some (.ref fa) →
      ∃ fd : FuncData, (∀ (s : Shared) (u : Value), BindsTo s fd ⟨[u], []⟩ [(x, u)]) ∧ ∀ base : Heap, (K w.params).In base → base.Ns mainGlobals mg → FnG l.prog w (K w.params) mg base (CX w) k fa fd [x] (sp w))
    (hsp : ∀ (w : World) (H : Hp) (a : Addr) (ns : List Int), ns.length ≤ n → (∀ z ∈ ns, Builtin.Int.intBits z ≤ 1048576) → Only H → SqL (K w.params) H a (ns.map V.int) → sp w [.ref a] H (fun v _ => v = .bl true) fun _ _ _ => False)
    (hCX : ∀ (w : World) (H : Hp) (s : Shared) (e : Value) (s' : Shared), CX w [] H s (fun _ _ _ => False) e s' → False) : PySem.W.WalkO q loose XP YP l.row.toRowW d [] (fun f vs => PySem.call f vs) :=
  Att.attach_callB hn hdf fun w s₀ s₁ mg mb fa o pm cd doc a vs ns G Y _ _ _ hmg hobj hints hlen hbits hg =>
    let ⟨_, hb, hF⟩ := F w mg fa _ (hY w _ Y) G.T.g hmg
    law_callG (hY w _ Y) G.T.g G.T.b G.T.builtins G.T.nolimit hg hobj hints (Nat.le_trans hlen hn2) hr (ns_dict (G.T.seer hq).mods) hF hb (fun H hO hS => hsp w H a ns hlen hbits hO hS) fun H e s' => hCX w H s₁ e s'
end DL
namespace DL
open PySem PySem.Spec PyProof.Rows L2
open Evl (Ex)
end DL

/-! DL11: repr of data, dicts among them. -/
namespace DL
open PySem PySem.Spec PyProof.Rows L2
open Evl (Ex)
def keyPy : Key → PyData
  | .inl i => .int i
  | .inr x => .str x
mutual
def pyA : D → Option PyData
  | .non => some .none
  | .bl b => some (.bool b)
  | .int i => some (.int i)
  | .str x => some (.str x)
  | .lst xs => (pyAs xs).map .list
  | .tup xs => (pyAs xs).map .tuple
  | .dct kvs => (pyAk kvs).map .dict
  | _ => none
def pyAs : List D → Option (List PyData)
  | [] => some []
  | x :: xs => match pyA x with
    | some d => (pyAs xs).map (d :: ·)
    | none => none
def pyAk : List (Key × D) → Option (List (PyData × PyData))
  | [] => some []
  | (k, x) :: xs => match pyA x with
    | some d => (pyAk xs).map ((keyPy k, d) :: ·)
    | none => none
end
section
variable {X : Cx} {pins : List (Addr × Obj)} {σ : L2.St} {H : Hp} {s : Shared}
theorem rd_ok (I : Inv X pins σ H s) {a : Addr} {kvs : List (Key × V)} (ha : Rd H a (.dK kvs)) : ObjOk X.prog X.w H s.heap a (.dK kvs) := by
  rcases ha with ha | ⟨ob, ha⟩
  · exact I.hok a _ ha
  · exact (I.hok a _ ha).2
theorem keys_read {knd : KeyKind X.prog X.w Key} (hk : ∀ k v, knd.is k v = keyIs k v) {h : Heap} : ∀ {es : List DictEntry} {vs : List (Key × Value)}, Pairs knd es vs → ReadsAll h (es.map (·.key)) (vs.map fun p => keyPy p.1) []
  | [], _, p => by cases p; exact .nil
  | e :: es, _, p => by
    cases p with
    | @cons _ kv _ kvs q1 q2 q3 =>
      rw [hk] at q1
      obtain ⟨k, v⟩ := kv
      have r := keys_read hk (h := h) q3
      have one : Reads h e.key (keyPy k) [] := by
        rcases keyIs_shape q1 with ⟨i, t, e1, e2⟩ | ⟨x, t, e1, e2⟩
        · have e1 : k = .inl i := e1
          subst e1; rw [e2]; exact .int i t
        · have e1 : k = .inr x := e1
          subst e1; rw [e2]; exact .str x t
      exact ReadsAll.cons (as := []) one r
theorem vals_read {knd : KeyKind X.prog X.w Key} : ∀ {es : List DictEntry} {vs : List (Key × Value)}, Pairs knd es vs → es.map (·.val) = vs.map (·.2)
  | [], _, p => by cases p; rfl
  | e :: es, _, p => by
    cases p with
    | @cons _ kv _ kvs q1 q2 q3 =>
      simp only [List.map_cons]
      rw [q2, vals_read q3]
theorem kv_keys : ∀ {kvs : List (Key × V)} {vs : List (Key × Value)}, KV kvs vs → vs.map (fun p => keyPy p.1) = kvs.map (fun p => keyPy p.1)
  | _, _, .nil => rfl
  | _, _, .cons (a := a) (b := b) h1 h2 => by
    simp only [List.map_cons]
    rw [kv_keys h2, h1.1]
theorem pyAk_keys {K : PySem.W.Frag} {G : Hp} : ∀ {kds : List (Key × D)} {kvs : List (Key × V)} {ds : List (PyData × PyData)}, pyAk kds = some ds → RepK K G kds kvs → ds.map (·.1) = kvs.map (fun p => keyPy p.1)
  | [], kvs, ds, e, h => by
    unfold pyAk at e
    unfold RepK at h
    subst h
    cases e
    rfl
  | (k, x) :: kds, kvs, ds, e, h => by
    unfold pyAk at e
    unfold RepK at h
    obtain ⟨v, vr, e1, h1, h2⟩ := h
    subst e1
    cases e2 : pyA x with
    | none => rw [e2] at e; cases e
    | some d =>
      rw [e2] at e
      cases e3 : pyAk kds with
      | none => rw [e3] at e; cases e
      | some r =>
        rw [e3] at e
        cases e
        simp only [List.map_cons]
        rw [pyAk_keys e3 h2]
mutual
theorem rep_reads (I : Inv X pins σ H s) (m : ∃ o es ep, X.base.get? sysModules = some o ∧ o.data = .dict es ep) : ∀ (x : D) (v : V) (u : Value) (d : PyData), pyA x = some d → Rep X.K H x v → RelV v u → ∃ as, Reads s.heap u d as ∧ sysModules ∉ as
  | .non, v, u, d, e, h, r => by unfold Rep at h; unfold pyA at e; subst h; cases e; cases r; exact ⟨_, .none, by simp⟩
  | .bl b, v, u, d, e, h, r => by unfold Rep at h; unfold pyA at e; subst h; cases e; cases r; exact ⟨_, .bool b, by simp⟩
  | .int i, v, u, d, e, h, r => by unfold Rep at h; unfold pyA at e; subst h; cases e; obtain ⟨t, rfl⟩ := r; exact ⟨_, .int i t, by simp⟩
  | .str z, v, u, d, e, h, r => by unfold Rep at h; unfold pyA at e; subst h; cases e; obtain ⟨t, rfl⟩ := r; exact ⟨_, .str z t, by simp⟩
  | .ty _, _, _, _, e, _, _ => by unfold pyA at e; cases e
  | .ptr _, _, _, _, e, _, _ => by unfold pyA at e; cases e
  | .ro _, _, _, _, e, _, _ => by unfold pyA at e; cases e
  | .obj _ _, _, _, _, e, _, _ => by unfold pyA at e; cases e
  | .dcT _, _, _, _, e, _, _ => by unfold pyA at e; cases e
  | .lst xs, v, u, d, e, h, r => by
    unfold Rep at h
    unfold pyA at e
    obtain ⟨a, vs, e1, h1, h2⟩ := h
    subst e1
    cases e2 : pyAs xs with
    | none => rw [e2] at e; cases e
    | some ds =>
      rw [e2] at e
      cases e
      cases r
      obtain ⟨its, rv, ⟨o, n, ho, hc, _, hd⟩, _⟩ := I.list (.inl (Rd.of h1))
      obtain ⟨as, hr, hn⟩ := reps_reads I m xs vs its ds e2 h2 rv
      refine ⟨_, Reads.list ho hc hd hr, fun hm => ?_⟩
      rcases List.mem_cons.mp hm with q | q
      · obtain ⟨o', es, ep, m1, m2⟩ := m
        have z := I.bk _ _ m1
        rw [q, ho] at z
        cases z
        rw [hd] at m2
        cases m2
      · exact hn q
  | .tup xs, v, u, d, e, h, r => by
    unfold Rep at h
    unfold pyA at e
    obtain ⟨a, vs, e1, h1, h2⟩ := h
    subst e1
    cases e2 : pyAs xs with
    | none => rw [e2] at e; cases e
    | some ds =>
      rw [e2] at e
      cases e
      cases r
      obtain ⟨its, rv, ⟨o, ho, hc, n, hd⟩, _⟩ := I.tuple (SqT.of h1)
      obtain ⟨as, hr, hn⟩ := reps_reads I m xs vs its ds e2 h2 rv
      exact ⟨_, Reads.tuple ho hc hd hr, hn⟩
  | .dct kds, v, u, d, e, h, r => by
    unfold Rep at h
    unfold pyA at e
    obtain ⟨a, kvs, e1, h1, h2⟩ := h
    subst e1
    cases e2 : pyAk kds with
    | none => rw [e2] at e; cases e
    | some ds =>
      rw [e2] at e
      cases e
      cases r
      obtain ⟨_, hsys, vs, hkv, o, es, ep, ho, hx, hd, hk, hp, hn⟩ := rd_ok I h1
      obtain ⟨bs, hr, hn2⟩ := repk_reads I m kds kvs vs ds e2 h2 hkv
      have k1 := keys_read (knd := mixKind X.prog X.w) (fun _ _ => rfl) (h := s.heap) hp
      rw [kv_keys hkv, ← pyAk_keys e2 h2] at k1
      rw [← vals_read hp] at hr
      refine ⟨_, Reads.dict ho hx.1 hd k1 hr, fun hm => ?_⟩
      rcases List.mem_cons.mp (show sysModules ∈ a :: bs from hm) with q | q
      · rw [← q] at hsys
        simp at hsys
      · exact hn2 q
theorem reps_reads (I : Inv X pins σ H s) (m : ∃ o es ep, X.base.get? sysModules = some o ∧ o.data = .dict es ep) : ∀ (xs : List D) (vs : List V) (us : List Value) (ds : List PyData), pyAs xs = some ds → Reps X.K H xs vs → Vals vs us → ∃ as, ReadsAll s.heap us ds as ∧ sysModules ∉ as
  | [], vs, us, ds, e, h, r => by
    unfold Reps at h
    unfold pyAs at e
    subst h
    cases e
    cases r
    exact ⟨_, .nil, by simp⟩
  | x :: xs, vs, us, ds, e, h, r => by
    unfold Reps at h
    unfold pyAs at e
    obtain ⟨v, vr, e1, h1, h2⟩ := h
    subst e1
    cases e2 : pyA x with
    | none => rw [e2] at e; cases e
    | some d =>
      rw [e2] at e
      cases e3 : pyAs xs with
      | none => rw [e3] at e; cases e
      | some ds =>
        rw [e3] at e
        cases e
        cases r with
        | cons r1 r2 =>
          obtain ⟨as, q1, n1⟩ := rep_reads I m x v _ d e2 h1 r1
          obtain ⟨bs, q2, n2⟩ := reps_reads I m xs vr _ ds e3 h2 r2
          exact ⟨_, .cons q1 q2, fun hm => (List.mem_append.mp hm).elim n1 n2⟩
theorem repk_reads (I : Inv X pins σ H s) (m : ∃ o es ep, X.base.get? sysModules = some o ∧ o.data = .dict es ep) : ∀ (xs : List (Key × D)) (kvs : List (Key × V)) (vs : List (Key × Value)) (ds : List (PyData × PyData)), pyAk xs = some ds → RepK X.K H xs kvs → KV kvs vs → ∃ as, ReadsAll s.heap (vs.map (·.2)) (ds.map (·.2)) as ∧ sysModules ∉ as
  | [], kvs, vs, ds, e, h, r => by
    unfold RepK at h
    unfold pyAk at e
    subst h
    cases e
    cases r
    exact ⟨_, .nil, by simp⟩
  | (k, x) :: xs, kvs, vs, ds, e, h, r => by
    unfold RepK at h
    unfold pyAk at e
    obtain ⟨v, vr, e1, h1, h2⟩ := h
    subst e1
    cases e2 : pyA x with
    | none => rw [e2] at e; cases e
    | some d =>
      rw [e2] at e
      cases e3 : pyAk xs with
      | none => rw [e3] at e; cases e
      | some ds =>
        rw [e3] at e
        cases e
        cases r with
        | cons r1 r2 =>
          obtain ⟨as, q1, n1⟩ := rep_reads I m x v _ d e2 h1 r1.2
          obtain ⟨bs, q2, n2⟩ := repk_reads I m xs vr _ ds e3 h2 r2
          exact ⟨_, .cons q1 q2, fun hm => (List.mem_append.mp hm).elim n1 n2⟩
end
end
def rReprD (K : PySem.W.Frag) : List V → Hp → VK → Prop := fun xs H Q => ∃ v x d, xs = [v] ∧ Rep K H x v ∧ pyA x = some d ∧ d.showable = true ∧ d.shown.length ≤ 16000000 ∧ d.depth ≤ 50 ∧ Q (.str d.shown) H
theorem call_reprD {X : Cx} (g : GOk X.base X.A) (hu : X.A.units + 64 < cLine) : CallR X (.builtin "repr") (rReprD X.K) := by
  intro pins s σ H xs us Q I r h
  obtain ⟨v, x, d, e, hd, hp, hs, hl, hdp, q⟩ := h
  subst e
  obtain ⟨u, eu, ru⟩ := vals1 r
  subst eu
  obtain ⟨as, rd, hn⟩ := rep_reads I g.2 x v u d hp hd ru
  have hl' : d.shown.length ≤ sizeLine := Nat.le_trans hl (by rw [sizeLine_eq]; decide)
  have viaRef : ∀ a, u = .ref a → wpAny (model X.prog X.w) X.A (call (.builtin "repr") [u]) (EP X pins σ Q) X.xe s := fun a e => by
    subst e
    exact repr_of_reads' rd hs (fun _ => hn) g.1 (by omega) (fun _ _ e => e) (fun h' t tk k => ⟨.str _, H, I.kept (t' := tk) k, ⟨_, rfl⟩, q⟩) hl'
  cases x with
  | non => unfold Rep at hd; unfold pyA at hp; subst hd; cases hp; cases rd; exact PySem.P.repr_of_none ⟨.str _, H, I.tok _, ⟨_, rfl⟩, q⟩
  | bl b => unfold Rep at hd; unfold pyA at hp; subst hd; cases hp; cases rd; exact PySem.P.repr_of_bool ⟨.str _, H, I.tok _, ⟨_, rfl⟩, q⟩
  | int i => unfold Rep at hd; unfold pyA at hp; subst hd; cases hp; cases rd; exact PySem.P.repr_of_int (by simpa [PyData.showable] using hs) ⟨.str _, H, I.tok _, ⟨_, rfl⟩, q⟩
  | str z => unfold Rep at hd; unfold pyA at hp; subst hd; cases hp; cases rd; exact PySem.P.repr_of_str ⟨.str _, H, I.tok _, ⟨_, rfl⟩, q⟩ hl'
  | lst xs => unfold Rep at hd; obtain ⟨a, _, e, _⟩ := hd; subst e; cases ru; exact viaRef a rfl
  | tup xs => unfold Rep at hd; obtain ⟨a, _, e, _⟩ := hd; subst e; cases ru; exact viaRef a rfl
  | dct xs => unfold Rep at hd; obtain ⟨a, _, e, _⟩ := hd; subst e; cases ru; exact viaRef a rfl
  | ty _ => unfold pyA at hp; cases hp
  | ptr _ => unfold pyA at hp; cases hp
  | ro _ => unfold pyA at hp; cases hp
  | obj _ _ => unfold pyA at hp; cases hp
  | dcT _ => unfold pyA at hp; cases hp
mutual
def rOk : D → Prop
  | .non => True
  | .bl _ => True
  | .int i => i.natAbs.log2 < 1920
  | .str z => ∀ ch ∈ z.cps.toList, ch < 4294967296
  | .lst xs => rOks xs
  | .tup xs => rOks xs
  | .dct kvs => rOkk kvs
  | _ => False
def rOks : List D → Prop
  | [] => True
  | x :: xs => rOk x ∧ rOks xs
def rOkk : List (Key × D) → Prop
  | [] => True
  | (.inl i, x) :: xs => i.natAbs.log2 < 1920 ∧ rOk x ∧ rOkk xs
  | (.inr z, x) :: xs => (∀ ch ∈ z.cps.toList, ch < 4294967296) ∧ rOk x ∧ rOkk xs
end
mutual
def wt : D → Nat
  | .str z => 10 * z.length + 2
  | .lst xs => wts xs + 3
  | .tup xs => wts xs + 3
  | .dct kvs => wtk kvs + 3
  | _ => 1921
def wts : List D → Nat
  | [] => 0
  | x :: xs => wt x + 2 + wts xs
def wtk : List (Key × D) → Nat
  | [] => 0
  | (.inl _, x) :: xs => 1921 + wt x + 4 + wtk xs
  | (.inr z, x) :: xs => 10 * z.length + 2 + wt x + 4 + wtk xs
end
mutual
def dpt : D → Nat
  | .lst xs => dpts xs + 1
  | .tup xs => dpts xs + 1
  | .dct kvs => dptk kvs + 1
  | _ => 0
def dpts : List D → Nat
  | [] => 0
  | x :: xs => max (dpt x) (dpts xs)
def dptk : List (Key × D) → Nat
  | [] => 0
  | (_, x) :: xs => max (dpt x) (dptk xs)
end
theorem shownAll_sum {x : PyData} {xs : List PyData} : ((PyData.shownAll (x :: xs)).map (·.length)).sum = x.shown.length + ((PyData.shownAll xs).map (·.length)).sum := by
  simp [PyData.shownAll]
theorem shownKv_sum {k v : PyData} {xs : List (PyData × PyData)} : ((PyData.shownKv ((k, v) :: xs)).map (·.length)).sum = k.shown.length + 2 + v.shown.length + ((PyData.shownKv xs).map (·.length)).sum := by
  have e2 : (k.shown ++ ": " ++ v.shown).length = k.shown.length + 2 + v.shown.length := by
    rw [strLen_append, strLen_append]; rfl
  simp only [PyData.shownKv, List.map_cons, List.sum_cons, e2]
theorem shownAll_len : ∀ xs : List PyData, (PyData.shownAll xs).length = xs.length
  | [] => rfl
  | x :: xs => by simp [PyData.shownAll, shownAll_len xs]
mutual
theorem rok_py : ∀ x : D, rOk x → ∃ d, pyA x = some d ∧ d.showable = true ∧ d.shown.length ≤ wt x ∧ d.depth ≤ dpt x
  | .non, _ => ⟨_, by unfold pyA; rfl, by simp [PyData.showable], by simp only [PyData.shown, wt]; decide +kernel, by simp [PyData.depth]⟩
  | .bl b, _ => ⟨_, by unfold pyA; rfl, by simp [PyData.showable], by simp only [PyData.shown, wt]; cases b <;> decide +kernel, by simp [PyData.depth]⟩
  | .int i, h => ⟨_, by unfold pyA; rfl, by unfold rOk at h; simp [PyData.showable, h], by unfold rOk at h; simp only [PyData.shown, wt]; exact int_text_len_1921 h, by simp [PyData.depth]⟩
  | .str z, h => ⟨_, by unfold pyA; rfl, by simp [PyData.showable], by unfold rOk at h; simp only [PyData.shown, wt]; exact StrLaws.reprText_len z h, by simp [PyData.depth]⟩
  | .lst xs, h => by
    unfold rOk at h
    obtain ⟨ds, h1, h2, h4, h5⟩ := roks_py xs h
    refine ⟨.list ds, by unfold pyA; rw [h1]; rfl, by simpa [PyData.showable] using h2, ?_, by simp only [PyData.depth, dpt]; omega⟩
    have q := listText_len_le (PyData.shownAll ds)
    simp only [PyData.shown, wt]
    rw [shownAll_len] at q
    omega
  | .tup xs, h => by
    unfold rOk at h
    obtain ⟨ds, h1, h2, h4, h5⟩ := roks_py xs h
    refine ⟨.tuple ds, by unfold pyA; rw [h1]; rfl, by simpa [PyData.showable] using h2, ?_, by simp only [PyData.depth, dpt]; omega⟩
    have q := tupleText_len_le (PyData.shownAll ds)
    simp only [PyData.shown, wt]
    rw [shownAll_len] at q
    omega
  | .dct kvs, h => by
    unfold rOk at h
    obtain ⟨ds, h1, h2, h4, h5⟩ := rokk_py kvs h
    refine ⟨.dict ds, by unfold pyA; rw [h1]; rfl, by simpa [PyData.showable] using h2, ?_, by simp only [PyData.depth, dpt]; omega⟩
    have q := dictText_len_le (PyData.shownKv ds)
    have q2 := PyData.shownKv_length ds
    simp only [PyData.shown, wt]
    omega
  | .ty _, h => by unfold rOk at h; exact h.elim
  | .ro _, h => by unfold rOk at h; exact h.elim
  | .ptr _, h => by unfold rOk at h; exact h.elim
  | .obj _ _, h => by unfold rOk at h; exact h.elim
  | .dcT _, h => by unfold rOk at h; exact h.elim
theorem roks_py : ∀ xs : List D, rOks xs → ∃ ds, pyAs xs = some ds ∧ PyData.showableAll ds = true ∧ ((PyData.shownAll ds).map (·.length)).sum + 2 * ds.length ≤ wts xs ∧ PyData.depthAll ds ≤ dpts xs
  | [], _ => ⟨[], by unfold pyAs; rfl, by simp [PyData.showableAll], by simp [PyData.shownAll], by simp [PyData.depthAll]⟩
  | x :: xs, h => by
    unfold rOks at h
    obtain ⟨d, h1, h2, h4, h5⟩ := rok_py x h.1
    obtain ⟨ds, g1, g2, g4, g5⟩ := roks_py xs h.2
    refine ⟨d :: ds, by unfold pyAs; rw [h1, g1]; rfl, by simp [PyData.showableAll, h2, g2], ?_, by simp only [PyData.depthAll, dpts]; omega⟩
    rw [shownAll_sum]
    simp only [wts, List.length_cons]
    omega
theorem rokk_py : ∀ xs : List (Key × D), rOkk xs → ∃ ds, pyAk xs = some ds ∧ PyData.showableKv ds = true ∧ ((PyData.shownKv ds).map (·.length)).sum + 2 * ds.length ≤ wtk xs ∧ PyData.depthKv ds ≤ dptk xs
  | [], _ => ⟨[], by unfold pyAk; rfl, by simp [PyData.showableKv], by simp [PyData.shownKv], by simp [PyData.depthKv]⟩
  | (.inl i, x) :: xs, h => by
    unfold rOkk at h
    obtain ⟨d, h1, h2, h4, h5⟩ := rok_py x h.2.1
    obtain ⟨ds, g1, g2, g4, g5⟩ := rokk_py xs h.2.2
    have hi : (PyData.int i).shown.length ≤ 1921 := by simp only [PyData.shown]; exact int_text_len_1921 h.1
    refine ⟨(.int i, d) :: ds, by unfold pyAk; rw [h1, g1]; rfl, by simp [PyData.showableKv, PyData.showable, h2, g2, h.1], ?_, by simp only [PyData.depthKv, PyData.depth, dptk]; omega⟩
    rw [shownKv_sum]
    simp only [wtk, List.length_cons]
    omega
  | (.inr z, x) :: xs, h => by
    unfold rOkk at h
    obtain ⟨d, h1, h2, h4, h5⟩ := rok_py x h.2.1
    obtain ⟨ds, g1, g2, g4, g5⟩ := rokk_py xs h.2.2
    have hi : (PyData.str z).shown.length ≤ 10 * z.length + 2 := by simp only [PyData.shown]; exact StrLaws.reprText_len z h.1
    refine ⟨(.str z, d) :: ds, by unfold pyAk; rw [h1, g1]; rfl, by simp [PyData.showableKv, PyData.showable, h2, g2], ?_, by simp only [PyData.depthKv, PyData.depth, dptk]; omega⟩
    rw [shownKv_sum]
    simp only [wtk, List.length_cons]
    omega
end
/-- the repr of data -/
def reprA (x : D) : Str := match pyA x with
  | some d => d.shown
  | none => ⟨#[]⟩
def rpOk (x : D) : Prop := rOk x ∧ wt x ≤ 16000000 ∧ dpt x ≤ 50
def rReprA (K : PySem.W.Frag) : List V → Hp → VK → Prop := rReprD K
theorem call_reprA {X : Cx} (g : GOk X.base X.A) (hu : X.A.units + 64 < cLine) : CallR X (.builtin "repr") (rReprA X.K) := call_reprD g hu
theorem cad_reprA {c : Cd} : CaD c (rReprA c.K) fun ds k => ∃ x, ds = [x] ∧ rpOk x ∧ k (.d (.str (reprA x))) := cad_one fun B G H σ δ r1 v x Ψ Q F h1 e1 hf k => by
  obtain ⟨⟨ho, hw, hd⟩, kk⟩ := hf
  obtain ⟨d, q1, q2, q4, q5⟩ := rok_py x ho
  have er : reprA x = d.shown := by unfold reprA; rw [q1]
  rw [er] at kk
  exact ⟨v, x, d, rfl, view_repH F h1 e1, q1, q2, by omega, by omega, k _ _ G H kk (Ex.refl G) (Ex.refl H) F (rep_str (K := c.K) (G := G))⟩
end DL

/-! DL12: exceptions of own classes over an own base of ValueError. -/
namespace DL
open PySem PySem.Spec PyProof.Rows L2
open Evl (Ex)
section
variable {X : Cx} {e : Expr} {es : List Expr} {ta : TA} {p1 p2 pos : Pos} {B : Str} {CB : Addr} {mc : Value}
/-- Base.__init__(self, ..), Base's __init__ being ValueError's -/
theorem pe_meinit {pl : Sem Bool} (hg : Gl X B) (hm : X.mg B = some (.ref CB)) (rd : ClX.CRead X.K CB mc) (vV : PySem.W.findCls X.K (.ref CB) mc "__init__" = some (.val (.builtin "ValueError.__init__"))) (ha : PA X (e :: es) ta)
    (hc : eval (.Call (.Attribute (.Name B p1) "__init__" p2) (e :: es) [] pos) X.env = (do
      let ov ← eval (.Name B p1) X.env
      standAt p2.atName
      let (f, first) ← holding [ov] (getMethod ov "__init__" pl)
      callWith pos f first (backTo pos (starEach (e :: es) X.env)) (backToKw pos (keywordEach [] X.env))) := by rfl)
    (hdb : (B == ("__debug__" : Str)) = false := by decide) (he : starEach (e :: es) X.env = (false, eval e X.env) :: starEach es X.env := by rfl) (hpl : (backTo pos (starEach es X.env)).any (·.1) = false := by rfl) :
    PE X (.Call (.Attribute (.Name B p1) "__init__" p2) (e :: es) [] pos) (tVeI X.K ta) := by
  constructor
  intro pins s σ H Q I h
  refine PySem.W.methodCall_KW (ld_glob I hg hm ?_ hdb) hc
  refine PySem.W.method_cls I.kIn rd.ga (PySem.W.cls_value I.kIn rd.rd vV rfl ?_)
  show wpAny _ _ (callWith pos (Value.builtin "ValueError.__init__") [] (backTo pos (starEach (e :: es) X.env)) []) _ _ _
  refine PyProof.Rows.callWith_method1 (thn (ha.run pos pins _ σ H _ (I.tok _) h) fun us s1 hh => ?_) he hpl
  obtain ⟨vs, H1, I1, r1, a, C, ws, ev, hl, T, ea, q⟩ := hh
  subst ev
  obtain ⟨u0, ur, eu, ra, rw'⟩ : ∃ u0 ur, us = u0 :: ur ∧ RelV (.ref a) u0 ∧ Vals ws ur := by
    cases r1 with
    | @cons _ u0 _ ur ra rw' => exact ⟨u0, ur, rfl, ra, rw'⟩
  subst eu
  have e0 : u0 = Value.ref a := ra
  subst e0
  refine oinit_ok T I1 ea ?_ fun s' J => ⟨.non, H1, J, rfl, q⟩
  rw [← Paired.length rw', sizeLine_eq]
  exact Nat.le_trans hl (by decide)
end
/-- what an own exception's __init__ does: its fields, the last one first -/
def spInit (K : PySem.W.Frag) (fl : List Str) : Sp := fun vs H Q _ => ∃ (a C : Addr) (ws : List V), vs = .ref a :: ws ∧ ws.length = fl.length ∧ OexC K C ∧ (∀ f ∈ fl, PySem.W.findIn K (.ref C) f = some none) ∧ H a = some (exo a C none) ∧
  ∀ dx, H dx = none → dx ≠ a → Q .non (upd (upd H dx (exd dx (fl.zip ws.reverse))) a (exo a C (some dx)))
theorem init_reads {K : PySem.W.Frag} {f : Str} {m : Str} {vs : List V} {N : List Str} {H : Hp} {Q : VK} {E : XK} (hN : N.length = 2) (h : spInit K [f] vs H Q E) :
    tSeq (tDrop (tVeI K (tCons (tVar 0) (tCons (tC (.str m)) tNil)))) (tOst K f (tVar 0) (tVar 1)) { nx := fun _ H' => Q .non H', rt := Q } (L2.start N vs) H := by
  obtain ⟨a, C, ws, e, hl, T, hf, ea, q⟩ := h
  match ws, hl with
  | [v], _ =>
    subst e
    have es : L2.start N [.ref a, v] = [some (.ref a), some v] := by
      unfold L2.start
      rw [hN]
      rfl
    rw [es]
    exact ⟨_, rfl, a, C, [.str m], rfl, Nat.le_of_ble_eq_true rfl, T, ea, _, rfl, _, rfl, a, C, rfl, T, hf f List.mem_cons_self, .inl ⟨ea, fun dx h1 h2 => q dx h1 h2⟩⟩
theorem init_reads2 {K : PySem.W.Frag} {f g : Str} {m : Str} {vs : List V} {N : List Str} {H : Hp} {Q : VK} {E : XK} (hN : N.length = 3) (h : spInit K [g, f] vs H Q E) :
    tSeq (tDrop (tVeI K (tCons (tVar 0) (tCons (tC (.str m)) tNil)))) (tSeq (tOst K f (tVar 0) (tVar 1)) (tOst K g (tVar 0) (tVar 2))) { nx := fun _ H' => Q .non H', rt := Q } (L2.start N vs) H := by
  obtain ⟨a, C, ws, e, hl, T, hf, ea, q⟩ := h
  match ws, hl with
  | [v, w], _ =>
    subst e
    have es : L2.start N [.ref a, v, w] = [some (.ref a), some v, some w] := by
      unfold L2.start
      rw [hN]
      rfl
    rw [es]
    refine ⟨_, rfl, a, C, [.str m], rfl, Nat.le_of_ble_eq_true rfl, T, ea, _, rfl, _, rfl, a, C, rfl, T, hf f (List.mem_cons_of_mem _ List.mem_cons_self), .inl ⟨ea, fun dx h1 h2 => ?_⟩⟩
    refine ⟨_, rfl, _, rfl, a, C, rfl, T, hf g List.mem_cons_self, .inr ⟨dx, [(f, v)], upd_same, by rw [upd_ne h2, upd_same], by simp, ?_⟩⟩
    have eh : upd (upd (upd H dx (exd dx [(f, v)])) a (exo a C (some dx))) dx (exd dx ((g, w) :: [(f, v)])) = upd (upd H dx (exd dx ([g, f].zip [v, w].reverse))) a (exo a C (some dx)) := by
      funext b
      by_cases q1 : b = dx
      · subst q1; rw [upd_same, upd_ne h2, upd_same]; rfl
      · rw [upd_ne q1]
        by_cases q2 : b = a
        · subst q2; rw [upd_same, upd_same]
        · rw [upd_ne q2, upd_ne q1, upd_ne q2, upd_ne q1]
    rw [eh]
    exact q dx h1 h2
end DL
namespace DL
open PySem PySem.Spec PyProof.Rows L2
open Evl (Ex)
/-! ### contracts that may raise -/
structure Cn where
  ad : Nat → Addr
  fl : Nat → List Str
  bs : Addr
abbrev SpX := List Sl → (R → List Sl → Prop) → (Nat → D → Prop) → Prop
/-- the fields of what was raised, of one thing, or of two in a tuple -/
def xfs : List Str → D → List (Str × D)
  | [f], x => [(f, x)]
  | [g, f], .tup [y, z] => [(g, z), (f, y)]
  | _, _ => []
/-- where a def raises, a new object without fields is lost, nothing else -/
def lose : List Sl → List Sl
  | .own _ (.obj _ []) :: as => .no :: as
  | as => as
theorem lose_sl {K : PySem.W.Frag} {G H : Hp} : ∀ {as : List Sl} {σ : St}, SlsR K G H as σ → SlsR K G H (lose as) σ := fun {as σ} h => by
  unfold lose
  split
  · obtain ⟨ov, σr, e, _, h2⟩ := h
    exact ⟨ov, σr, e, trivial, h2⟩
  · exact h
/-- a body that raises has left its parameters as they were -/
def Kp (as δ : List Sl) : Prop := parOk (lose as) δ ∧ parBack (lose as) δ = lose as
/-- an exception behind a call: its class, its dict with its fields -/
def liftX (K : PySem.W.Frag) (cn : Cn) (S : SpX) : Sp := fun vs H Q X => ∃ B G as, Frame K B G H (vs.map some) as ∧
  S as (fun r as' => ∀ v G' H', Ex G G' → Frame K B G' H' (vs.map some) as' → RV K B G' H' as' r v → Q v H')
    (fun nm x => ∀ d v G' H', Ex G G' → Frame K B G' H' (vs.map some) (lose as) → G' d = some (.xd v) → RepF K G' (xfs (cn.fl nm) x) v → X (.ref (cn.ad nm)) (some d) H')
/-- what a body that may raise leans on: Ψ is raised from slots δ' -/
def XR (K : PySem.W.Frag) (cn : Cn) (Ψ : Nat → D → List Sl → Prop) (W : WX) (B G : Hp) : Prop := ∀ nm x δ' σ' d v G' H', Ψ nm x δ' → Ex G G' → Frame K B G' H' σ' δ' → G' d = some (.xd v) → RepF K G' (xfs (cn.fl nm) x) v → W (.ref (cn.ad nm)) (some d) σ' H'
abbrev cX (K : PySem.W.Frag) (cn : Cn) (Ψ : Nat → D → List Sl → Prop) (W : WX) : Cd := ⟨K, XR K cn Ψ W, fun _ _ _ e h nm x δ' σ' d v G' H' a b c d' e' => h nm x δ' σ' d v G' H' a (e.trans b) c d' e'⟩
/-- a wall round all that is no one's yet -/
def wall (G H : Hp) : Hp := fun b => if (G b).isSome = true then none else H b
theorem wall_some {G H : Hp} {b : Addr} {o : HO} (h : H b = some o) (g : G b = none) : wall G H b = some o := by
  unfold wall
  rw [if_neg (by rw [g]; exact Bool.false_ne_true)]
  exact h
theorem wall_of {G H : Hp} {b : Addr} {o : HO} (h : wall G H b = some o) : H b = some o ∧ G b = none := by
  unfold wall at h
  cases g : G b with
  | none => rw [g] at h; exact ⟨h, rfl⟩
  | some u => rw [g] at h; cases h
section
variable {K : PySem.W.Frag} {B G G' H H' : Hp} {σ : St} {δ as : List Sl} {vs : List V}
theorem wall_frame (F : Frame K B G H σ δ) (hs : SlsR K G H as (vs.map some)) (ho : owned as = []) : Frame K (wall G H) G H (vs.map some) as :=
  ⟨fun b o h => (wall_of h).1, F.exG, fun b => by
    cases e : wall G H b with
    | none => exact .inl rfl
    | some o => exact .inr (.inl (wall_of e).2), hs, fun a ha => (by rw [ho] at ha; cases ha), by rw [ho]; exact List.nodup_nil⟩
theorem wall_back (F : Frame K B G H σ δ) (eG : Ex G G') (eB : Ex (wall G H) H') (eG' : Ex G' H') (dis : ∀ b, AptV (wall G H b) (G' b)) : Frame K B G' H' σ δ := by
  have thru : ∀ b o, H b = some o → G b = none → H' b = some o ∧ AptV (some o) (G' b) := fun b o h g => by
    have w := wall_some h g
    refine ⟨eB b o w, ?_⟩
    have q := dis b
    rw [w] at q
    exact q
  refine ⟨fun b o h => ?_, eG', fun b => ?_, F.sl.ex eG (fun a ha => ?_), fun a ha => ⟨(F.own a ha).1, ?_⟩, F.nd⟩
  · have h1 := F.exB b o h
    rcases F.dis b with q | q | ⟨xs, q⟩
    · rw [h] at q; cases q
    · exact (thru b o h1 q).1
    · have h2 := F.exG b _ q
      rw [h1] at h2
      cases h2
      exact eG' b _ (eG b _ q)
  · cases e : B b with
    | none => exact .inl rfl
    | some o =>
      rcases F.dis b with q | q | ⟨xs, q⟩
      · rw [e] at q; cases q
      · exact (thru b o (F.exB b o e) q).2
      · exact .inr (.inr ⟨xs, eG b _ q⟩)
  · obtain ⟨o, ho⟩ := F.there ha
    rw [ho]
    exact (thru a o ho (F.own a ha).2).1
  · obtain ⟨o, ho, n⟩ := F.obj ha
    have h2 := thru a o ho (F.own a ha).2
    rcases h2.2 with q | q | ⟨xs, q⟩
    · cases q
    · exact q
    · have h3 := eG' a _ q
      rw [h2.1] at h3
      cases h3
      exact absurd rfl (n xs)
theorem wall_new (F : Frame K B G H σ δ) (eG : Ex G G') {a : Addr} (h1 : wall G H a = none) (h2 : G' a = none) : B a = none ∧ a ∉ owned δ := by
  have g : G a = none := by
    cases e : G a with
    | none => rfl
    | some o => rw [eG a o e] at h2; cases h2
  have hH : H a = none := by
    cases e : H a with
    | none => rfl
    | some o => rw [wall_some e g] at h1; cases h1
  obtain ⟨q1, _, q3⟩ := F.fresh hH
  exact ⟨q1, q3⟩
end
end DL
namespace DL
open PySem PySem.Spec PyProof.Rows L2
open Evl (Ex)
section
variable {K : PySem.W.Frag} {cn : Cn} {Ψ : Nat → D → List Sl → Prop} {W : WX} {p : Bool} {δ : List Sl}
theorem slsR_datas {G H : Hp} : ∀ {ds : List D} {vs : List V}, RVs K G (ds.map R.d) vs → SlsR K G H (ds.map Sl.d) (vs.map some)
  | [], vs, h => by
    have e : vs = [] := h
    rw [e]
    exact rfl
  | d :: ds, vs, h => by
    obtain ⟨v, vr, e, h1, h2⟩ := h
    subst e
    exact ⟨some v, vr.map some, rfl, ⟨v, rfl, h1⟩, slsR_datas h2⟩
theorem owned_datas : ∀ ds : List D, owned (ds.map Sl.d) = []
  | [] => rfl
  | _ :: ds => owned_datas ds
/-- a call that may raise, its arguments data -/
theorem we_callX {S : SpX} {tr : TA} {Φ : R → List Sl → Prop} (h : WA (cX K cn Ψ W) false tr δ fun rs δ1 => ∃ ds : List DL.D, rs = ds.map DL.R.d ∧
    ∀ (P : R → List Sl → Prop) (Y : Nat → D → Prop), (∀ r as', ownOut r → Φ r δ1 → P r as') → (∀ nm x, Ψ nm x δ1 → Y nm x) → S (ds.map Sl.d) P Y) : WE (cX K cn Ψ W) false (tCallS (liftX K cn S) (L2.WE W) tr) δ Φ := by
  intro B G H σ Q F x k
  refine h B G H σ _ F x fun rs δ1 vs G1 H1 w e1 F1 rv p1 => ?_
  obtain ⟨ds, e, hS⟩ := w
  subst e
  refine ⟨wall G1 H1, G1, ds.map Sl.d, wall_frame F1 (slsR_datas rv) (owned_datas ds), hS _ _ (fun r as' ho q v G' H' eG F' rv' => ?_) fun nm y q d v G' H' eG F' hd hr => ?_⟩
  · have Fb := wall_back F1 eG F'.exB F'.exG F'.dis
    refine k r δ1 v G' H' q (e1.trans eG) Fb ?_ fun z => nomatch z
    cases r with
    | d y => exact rv'
    | own a y =>
      obtain ⟨q1, q2, q3, q4, q5⟩ := rv'
      obtain ⟨n1, n2⟩ := wall_new F1 eG q3 q4
      exact ⟨q1, q2, n1, q4, n2⟩
    | deep a y gs =>
      obtain ⟨q1, q2, q3, q4, q5⟩ := rv'
      exact ⟨q1, q2, q3, fun b hb => ⟨(wall_new F1 eG (q4 b hb).1 (q4 b hb).2.1).1, (q4 b hb).2.1, (wall_new F1 eG (q4 b hb).1 (q4 b hb).2.1).2⟩, q5⟩
    | bor i a => exact ho.elim
  · exact x nm y δ1 σ d v G' H' q (e1.trans eG) (wall_back F1 eG F'.exB F'.exG F'.dis) hd hr
theorem repF_zip {G : Hp} : ∀ {fl : List Str} {ys : List DL.D} {vs : List V}, Reps K G ys vs → RepF K G (fl.zip ys) (fl.zip vs)
  | [], ys, vs, _ => by show RepF K G [] []; unfold RepF; rfl
  | f :: fl, [], vs, h => by unfold Reps at h; subst h; show RepF K G [] []; unfold RepF; rfl
  | f :: fl, y :: ys, vs, h => by
    unfold Reps at h
    obtain ⟨v, vr, e, h1, h2⟩ := h
    subst e
    show RepF K G ((f, y) :: fl.zip ys) ((f, v) :: fl.zip vr)
    unfold RepF
    exact ⟨v, _, rfl, h1, repF_zip h2⟩
theorem rvs_datas {G : Hp} : ∀ {ys : List DL.D} {vs : List V}, RVs K G (ys.map DL.R.d) vs → Reps K G ys vs
  | [], vs, h => by have e : vs = [] := h; subst e; exact reps_nil
  | y :: ys, vs, h => by
    obtain ⟨v, vr, e, h1, h2⟩ := h
    subst e
    exact reps_cons h1 (rvs_datas h2)
/-- raise C(e, ..), C's own __init__ keeping its fields -/
theorem ws_raise {C : Addr} {ta : TA} {E : En} {nm : Nat} (hC : cn.ad nm = C) (T : OexC K C) (hf : ∀ f ∈ cn.fl nm, PySem.W.findIn K (.ref C) f = some none)
    (h : WA (cX K cn Ψ W) false ta δ fun rs δ1 => ∃ (ys : List DL.D) (x : DL.D), rs = ys.map DL.R.d ∧ ys.length = (cn.fl nm).length ∧ ys.length ≤ 1000 ∧ xfs (cn.fl nm) x = (cn.fl nm).zip ys.reverse ∧ Ψ nm x δ1) : WS (cX K cn Ψ W) (fun _ σ H => tMkO C (spInit K (cn.fl nm)) [] ta σ H fun cls d H' => W cls d σ H') δ E := by
  intro B G H σ Dd F x _
  refine h B G H σ _ F x fun rs δ1 vs G1 H1 w e1 F1 rv p1 => ?_
  obtain ⟨ys, y, e, hl, hl2, hx, q⟩ := w
  subst e
  have hr := rvs_datas rv
  have hvl := reps_length hr
  have hz := repF_zip (fl := cn.fl nm) (reps_rev hr)
  rw [← hx] at hz
  refine ⟨by rw [hvl]; exact hl2, fun a ha => ⟨a, C, vs, by rw [List.append_nil], by rw [hvl, hl], T, hf, upd_same, fun dx h3 h4 => ?_⟩⟩
  have hdx : H1 dx = none := by rw [upd_ne h4] at h3; exact h3
  generalize (cn.fl nm).zip vs.reverse = fvs at hz ⊢
  refine ⟨rfl, dx, fvs, upd_same, by rw [upd_ne h4, upd_same], hdx, ?_⟩
  have eh : upd (del (upd (upd (upd H1 a (exo a C none)) dx (exd dx fvs)) a (exo a C (some dx))) a) dx (.xd fvs) = upd H1 dx (.xd fvs) := by
    funext b
    by_cases q1 : b = dx
    · subst q1; rw [upd_same, upd_same]
    · rw [upd_ne q1, upd_ne q1]
      unfold del
      by_cases q2 : b = a
      · rw [if_pos q2, q2, ha]
      · rw [if_neg q2, upd_ne q2, upd_ne q1, upd_ne q2]
  rw [eh]
  subst hC
  have hG := (F1.fresh hdx).2.1
  exact x nm y δ1 σ dx fvs _ _ q (e1.trans (Ex.new hG)) (F1.laid hdx) upd_same (hz.mono (Ex.new hG))
end
end DL
namespace DL
open PySem PySem.Spec PyProof.Rows L2
open Evl (Ex)
/-! ### defs that may raise -/
section
variable {P : Program} {w : World} {K : PySem.W.Frag} {mg : Str → Option Value} {base : Heap}
theorem okGX {x qual : Str} {st : Stmt} {f : Addr} {fd : FuncData} {N ps : List Str} {k : Nat} {sp : Sp} (F : Fun K x qual st f fd) (S : FnScope N ps (defScope st)) (len : ∀ vs H Q E, sp vs H Q E → vs.length = ps.length)
    (hb : ∀ (cdv : Value) (A : Around) (outer : List Env) (s : Shared) (H : Hp) (vs : List V) (Q : VK) (E : XK), GOk base A → Room k (A.deeper (envOfC qual (defScope st) s.heap.objs.size f cdv)) → sp vs H Q E →
      ∃ t, PSs (cxOf (L2.CX P w) P w K mg base N qual (defScope st) f cdv A outer s H E) (defBody st) t ∧ t { nx := fun _ H' => Q .non H', rt := Q } (L2.start N vs) H) : FnG P w K mg base (L2.CX P w) (k + 1) f fd ps sp := by
  obtain ⟨_, _, _, _, _, _, cdv, _, _, e, lk, hcd⟩ := F.ex
  subst e
  exact fnG_of lk hcd S len fun A outer s H vs Q E g r q => hb cdv A outer s H vs Q E g r q
theorem tkX {N : List Str} {qual : Str} {scope : Scope} {f : Addr} {cd : Value} {A : Around} {outer : List Env} {s : Shared} {H : Hp} {E : XK} : Takes (cxOf (L2.CX P w) P w K mg base N qual scope f cd A outer s H E) (fun cls d _ H => E cls d H) := takes_of rfl rfl rfl rfl
theorem psX {N : List Str} {qual : Str} {scope : Scope} {f : Addr} {cd : Value} {A : Around} {outer : List Env} {s : Shared} {H : Hp} {E : XK} :
    PassesOwn (model P w) (cxOf (L2.CX P w) P w K mg base N qual scope f cd A outer s H E).A (cxOf (L2.CX P w) P w K mg base N qual scope f cd A outer s H E).env (cxOf (L2.CX P w) P w K mg base N qual scope f cd A outer s H E).xe := passes_of rfl
end
section
variable {X : Cx} {CX : CXT} {k : Nat} {f : Addr} {fd : FuncData} {ps : List Str} {sp : Sp} {E : L2.St → XK} {x : Str} {p pos : Pos} {e : Expr} {es : List Expr} {t : TA}
theorem pe_callSG (F : FnG X.prog X.w X.K X.mg X.base CX k f fd ps sp) (g : GOk X.base X.A) (hr : Room k X.A) (hg : Gl X x) (hm : X.mg x = some (.ref f)) (hk : PySem.W.keepIn X.K (.ref f) = true) (hb : Binds X.K fd ps []) (hx : ∀ σ, PassesAt CX X σ (E σ))
    (ha : PA X (e :: es) t) (hdb : (x == ("__debug__" : Str)) = false := by decide) (he : starEach (e :: es) X.env = (false, eval e X.env) :: starEach es X.env := by rfl) (hpl : (backTo pos (starEach es X.env)).any (·.1) = false := by rfl) : PE X (.Call (.Name x p) (e :: es) [] pos) (tCallS sp E t) := by
  constructor
  intro pins s σ H Q I h
  refine wpAny_Call_Name_kw (ld_glob I hg hm (PySem.W.callWith_K (h₀ := X.base) I.ok.mod.kin hk (thn (ha.run pos pins s σ H _ I h) fun us s1 ⟨vs, H1, I1, r, q⟩ => ⟨I1.kIn, ?_⟩) he hpl) hdb)
  have many : us.length = ps.length := by rw [← r.length]; exact F.len _ _ _ _ q
  have b := hb s1 us I1.kIn (by rw [List.append_nil]; exact many)
  rw [List.append_nil] at b
  refine wpAny_call (codeAny_mono (F.run X.A X.stack s1 H1 ⟨us, []⟩ us vs Q (E σ) g hr I1.env0 b r q) fun res s' q' => ?_)
  match res, q' with
  | .error ex, q' => exact hx σ pins H1 s1 ex s' I1 q'
  | .ok (.ret u), q' => exact I1.after q'
end
section
variable {K : PySem.W.Frag} {cn : Cn}
theorem liftX_len {S : SpX} {n : Nat} (hl : ∀ as Φ Y, S as Φ Y → as.length = n) {vs : List V} {H : Hp} {Q : VK} {X : XK} (h : liftX K cn S vs H Q X) : vs.length = n := by
  obtain ⟨B, G, as, F, hS⟩ := h
  have e := F.sl.len
  rw [← hl as _ _ hS, ← e, List.length_map]
end
end DL
namespace DL
open PySem PySem.Spec PyProof.Rows L2
open Evl (Ex)
/-! ### try, except X as n -/
/-- in an except suite: the exception's dict -/
abbrev cS (K : PySem.W.Frag) (d : Addr) (fs : List (Str × D)) : Cd := ⟨K, fun _ G => ∃ v, G d = some (.xd v) ∧ RepF K G fs v, fun _ _ _ e ⟨v, h1, h2⟩ => ⟨v, e _ _ h1, h2.mono e⟩⟩
section
variable {K : PySem.W.Frag} {cn : Cn} {p : Bool} {δ : List Sl}
/-- isinstance(e, C) -/
def rIsED (K : PySem.W.Frag) (C a d : Addr) : List V → Hp → VK → Prop := fun xs H Q => ∃ (C' : Addr) (b : Bool) (fs : List (Str × V)), xs = [.ref a, .ref C'] ∧ H d = some (.xd fs) ∧ PySem.W.kitOne K (.ref C) (.ref C') = some b ∧ Q (.bl b) H
end
end DL

/-! DL13: kept empty: what stood here is in DL11. -/

/-! DL14: an except suite that asks which class it holds. -/
namespace DL
open PySem PySem.Spec PyProof.Rows L2
open Evl (Ex)
/-- what the text says of an exception's class, its field f -/
structure ExcAll (K : PySem.W.Frag) (C : Addr) (fl : List Str) : Prop where
  oex : OexC K C
  xf : XfC K C
  fno : ∀ f ∈ fl, PySem.W.findIn K (.ref C) f = some none
  hcl : (PySem.W.clsIn K C).isSome = true
  hat : PySem.W.findIn K (.ref C) "__class__" = some (some (.builtin "object.__class__"))
  hm : PySem.W.mroIn K C (.type "object") = some true
  hn : PySem.W.specialIn K (.builtin "object.__class__") "__get__" = some (some (.builtin "getset_descriptor.__get__"))
  htk : PySem.W.takesIn K (.builtin "object.__class__") = some true
def tXfX (K : PySem.W.Frag) (a : Addr) (cls : Value) (d : Option Addr) (f : Str) (te : TE) : TE := fun σ H Q => ∃ C dd fl, cls = .ref C ∧ d = some dd ∧ ExcAll K C fl ∧ f ∈ fl ∧ tXf a cls d C f te σ H Q
section
variable {K : PySem.W.Frag} {p : Bool} {δ : List Sl} {a d C : Addr} {f : Str} {fl : List Str} {fs : List (Str × D)} {x : D}
end
end DL

/-! DL15: what the text says of an exception's class, and its __init__. -/
namespace DL
open PySem PySem.Spec PyProof.Rows L2
open Evl (Ex)
/-- a class of the text, its own __init__ the def st, f_ its function -/
structure ExcDef (K : PySem.W.Frag) (mg : Str → Option Value) (C : Addr) (nm qual : Str) (st : Stmt) (fl : List Str) (fI : Addr) (fd : FuncData) : Prop where
  all : ExcAll K C fl
  g : mg nm = some (.ref C)
  iC : PySem.W.findIn K (.ref C) "__init__" = some (some (.ref fI))
  tI : PySem.W.typeIn K (.ref fI) = some (.type "function")
  fn : Fun K "__init__" qual st fI fd
  b : Binds K fd ("self" :: fl.reverse) []
/-- the base of all of them -/
structure ExcBase (K : PySem.W.Frag) (mg : Str → Option Value) (B : Addr) (nm : Str) : Prop where
  g : mg nm = some (.ref B)
  rd : ClX.CRead K B (.type "type")
  vV : PySem.W.findCls K (.ref B) (.type "type") "__init__" = some (.val (.builtin "ValueError.__init__"))
theorem spInit_len {K : PySem.W.Frag} {fl : List Str} {vs : List V} {H : Hp} {Q : VK} {E : XK} (h : spInit K fl vs H Q E) : vs.length = fl.length + 1 := by
  obtain ⟨_, _, ws, e, hl, _⟩ := h
  rw [e, List.length_cons, hl]
/-- words about a def, the exceptions' facts known -/
def WsC {Fx : PySem.W.Frag → Cn → Prop} (S : SpD) (t : PySem.W.Frag → Cn → TS) (pad : List Sl) : Prop := ∀ (K : PySem.W.Frag) (cn : Cn) (as : List Sl) (Φ : R → List Sl → Prop), Fx K cn → S as Φ → W (c0 K) (t K cn) (as ++ pad) (RetD as Φ (.d .non)) (RetD as Φ) (fun _ => False) (fun _ => False)
def WsXC {Fx : PySem.W.Frag → Cn → Prop} (S : SpX) (t : PySem.W.Frag → Cn → WX → TS) (pad : List Sl) : Prop := ∀ (K : PySem.W.Frag) (cn : Cn) (Wx : WX) (as : List Sl) (Φ : R → List Sl → Prop) (Y : Nat → D → Prop), Fx K cn → S as Φ Y →
  W (cX K cn (fun nm x δ' => Y nm x ∧ Kp as δ') Wx) (t K cn Wx) (as ++ pad) (RetD as Φ (.d .non)) (RetD as Φ) (fun _ => False) (fun _ => False)
theorem liftX_WsC {Fx : PySem.W.Frag → Cn → Prop} {K : PySem.W.Frag} {cn : Cn} {S : SpX} {t : PySem.W.Frag → Cn → WX → TS} {n m : Nat} {N : List Str} {vs : List V} {H : Hp} {Q : VK} {X : XK} (fx : Fx K cn) (hl : ∀ as Φ Y, S as Φ Y → as.length = n) (hm : N.length = n + m)
    (hb : WsXC (Fx := Fx) S t (List.replicate m .no)) (h : liftX K cn S vs H Q X) : t K cn (fun cls d _ H => X cls d H) { nx := fun _ H' => Q .non H', rt := Q } (L2.start N vs) H := by
  obtain ⟨B, G, as, F, hS⟩ := h
  have ha := hl as _ _ hS
  have hv : as.length = vs.length := by have e := F.sl.len; simpa using e.symm
  have ow : owned (as ++ List.replicate m .no) = owned as := by rw [owned_append, owned_no, List.append_nil]
  have F0 : Frame K B G H (L2.start N vs) (as ++ List.replicate m .no) := by
    refine ⟨F.exB, F.exG, F.dis, ?_, by rw [ow]; exact F.own, by rw [ow]; exact F.nd⟩
    unfold L2.start
    refine F.sl.append ?_
    have z := SlsR.nos (K := K) (G := G) (H := H) (List.replicate (N.length - vs.length) none)
    rw [List.length_replicate, show N.length - vs.length = m by omega] at z
    rw [show N.length - vs.length = m by omega]
    exact z
  have back : ∀ (δ' : List Sl) (σ' : L2.St) (G' H' : Hp), parOk as δ' → Ex G G' → Frame K B G' H' σ' δ' → Frame K B G' H' (vs.map some) (parBack as δ') := fun δ' σ' G' H' ok e F' =>
    ⟨F'.exB, F'.exG, F'.dis, par_sl F.sl ok F'.sl e, fun a ha => F'.own a ((parBack_sub ok).subset ha), F'.nd.sublist (parBack_sub ok)⟩
  refine hb K cn _ as _ _ fx hS B G H (L2.start N vs) _ F0 (fun nm x δ' σ' d v G' H' q eG F' hd hr => q.1 d v G' H' eG (by
    rw [← q.2.2]
    exact ⟨F'.exB, F'.exG, F'.dis, par_sl (lose_sl F.sl) q.2.1 F'.sl eG, fun a ha => F'.own a ((parBack_sub q.2.1).subset ha), F'.nd.sublist (parBack_sub q.2.1)⟩) hd hr) ⟨fun δ' σ' G' H' q eG F' => ?_, fun r δ' v σ' G' H' q eG F' rv => ?_, fun _ _ _ _ q => q.elim, fun _ _ _ _ q => q.elim⟩
  · exact q.2 .non G' H' eG (back δ' σ' G' H' q.1 eG F') (rep_non (K := K) (G := G'))
  · obtain ⟨ok, q⟩ := q
    match r, q, rv with
    | .d x, q, rv => exact q v G' H' eG (back δ' σ' G' H' ok eG F') rv
    | .own a x, q, rv =>
      obtain ⟨e1, h1, h2, h3, h4⟩ := rv
      exact q v G' H' eG (back δ' σ' G' H' ok eG F') ⟨e1, h1, h2, h3, fun z => h4 ((parBack_sub ok).subset z)⟩
    | .deep a x gs, q, rv =>
      obtain ⟨e1, h1, h2, h3, h4⟩ := rv
      exact q v G' H' eG (back δ' σ' G' H' ok eG F') ⟨e1, h1, h2, fun b hb => ⟨(h3 b hb).1, (h3 b hb).2.1, fun z => (h3 b hb).2.2 ((parBack_sub ok).subset z)⟩, h4⟩
    | .bor i a, q, rv =>
      obtain ⟨hi, r', ex, q⟩ := q
      exact q v G' H' eG (back δ' σ' G' H' ok eG F') (outR_rv F' ok hi ex rv.1).1
theorem lift_WsC {Fx : PySem.W.Frag → Cn → Prop} {K : PySem.W.Frag} {cn : Cn} {S : SpD} {t : PySem.W.Frag → Cn → TS} {n m : Nat} {Nm : List Str} {vs : List V} {H : Hp} {Q : VK} {X : XK} (fx : Fx K cn) (hl : ∀ as Φ, S as Φ → as.length = n) (hm : Nm.length = n + m)
    (hb : WsC (Fx := Fx) S t (List.replicate m .no)) (h : lift K S vs H Q X) : t K cn { nx := fun _ H' => Q .non H', rt := Q } (L2.start Nm vs) H := lift_W h fun as Φ hS => by
  have e : Nm.length - as.length = m := by rw [hl as Φ hS, hm]; omega
  rw [e]
  exact hb K cn as Φ fx hS
end DL
namespace DL
open PySem PySem.Spec PyProof.Rows L2
open Evl (Ex)
section
variable {K : PySem.W.Frag} {cn : Cn} {Ψ : Nat → D → List Sl → Prop} {Wx : WX} {δ : List Sl} {N B C : List Sl → Prop} {Rt : R → List Sl → Prop}
theorem w_raiseN {nm : Nat} {f : Str} {ta : TA} (T : ExcAll K (cn.ad nm) (cn.fl nm)) (hf : cn.fl nm = [f]) (h : WA (cX K cn Ψ Wx) false ta δ fun rs δ1 => ∃ x, rs = [.d x] ∧ Ψ nm x δ1) :
    W (cX K cn Ψ Wx) (fun _ σ H => tMkO (cn.ad nm) (spInit K [f]) [] ta σ H fun cls d H' => Wx cls d σ H') δ N Rt B C := by
  have z := ws_raise (E := ⟨N, Rt, B, C⟩) (nm := nm) (ta := ta) (δ := δ) (Ψ := Ψ) (W := Wx) rfl T.oex T.fno (fun B G H σ Q F x k => h B G H σ Q F x fun rs δ' vs G' H' w => by
    obtain ⟨y, e, q⟩ := w
    exact k rs δ' vs G' H' ⟨[y], y, e, by rw [hf]; rfl, by simp, by rw [hf]; rfl, q⟩)
  rw [hf] at z
  exact z
theorem w_raise2 {nm : Nat} {f g : Str} {ta : TA} (T : ExcAll K (cn.ad nm) (cn.fl nm)) (hf : cn.fl nm = [g, f]) (h : WA (cX K cn Ψ Wx) false ta δ fun rs δ1 => ∃ x y, rs = [.d x, .d y] ∧ Ψ nm (.tup [x, y]) δ1) :
    W (cX K cn Ψ Wx) (fun _ σ H => tMkO (cn.ad nm) (spInit K [g, f]) [] ta σ H fun cls d H' => Wx cls d σ H') δ N Rt B C := by
  have z := ws_raise (E := ⟨N, Rt, B, C⟩) (nm := nm) (ta := ta) (δ := δ) (Ψ := Ψ) (W := Wx) rfl T.oex T.fno (fun B G H σ Q F x k => h B G H σ Q F x fun rs δ' vs G' H' w => by
    obtain ⟨y, y2, e, q⟩ := w
    exact k rs δ' vs G' H' ⟨[y, y2], .tup [y, y2], e, by rw [hf]; rfl, by simp, by rw [hf]; rfl, q⟩)
  rw [hf] at z
  exact z
end
end DL
namespace DL
open PySem PySem.Spec PyProof.Rows L2
/-- try: .. except (the class cE) as the i-th name: .. -/
def tTry (K : PySem.W.Frag) (cE : Value) (i : Nat) (tb : WX → TS) (ts : Addr → Value → Option Addr → TS) : TS := fun D σ H => tb (wAs K cE i ts (fun _ _ _ _ => False) D) D σ H
end DL

/-! DL16: try with several clauses, each with or without a name. -/
namespace DL
open PySem PySem.Spec PyProof.Rows L2
/-- one clause: its class, its name's slot, its suite -/
abbrev Cl := Value × Option Nat × (Addr → Value → Option Addr → TS)
def goneE (i : Nat) (D : Ends) : Ends := { nx := fun σ' H' => D.nx (σ'.set i none) H', rt := D.rt, bk := fun σ' H' => D.bk (σ'.set i none) H', ct := fun σ' H' => D.ct (σ'.set i none) H' }
def suW (o : Option Nat) (ts : Addr → Value → Option Addr → TS) (a : Addr) (cls : Value) (d : Option Addr) (D : Ends) (σ : L2.St) (H : Hp) : Prop := match o with
  | none => ts a cls d D σ H
  | some i => ts a cls d (goneE i D) (σ.set i (some (.ref a))) H
def wMix (K : PySem.W.Frag) (Wo : WX) (D : Ends) : List Cl → WX
  | [] => Wo
  | (c, o, ts) :: r => fun cls d σ H => ∃ b, PySem.W.exmOne K cls c = some b ∧ (b = true → ∀ a, H a = none → suW o ts a cls d D σ H) ∧ (b = false → wMix K Wo D r cls d σ H)
inductive ClsOk (X : Cx) : List ExceptHandler → List Cl → Prop
  | nil : ClsOk X [] []
  | bare {x : Str} {c : Value} {ts : Addr → Value → Option Addr → TS} {b0 : Stmt} {su : List Stmt} {p1 p2 : Pos} {hs : List ExceptHandler} {l : List Cl} (hc : Names X x c)
      (hsu : ∀ (a : Addr) (oe : Obj) (cls : Value) (d : Option Addr) (pn : List (Addr × Obj)), Zc cls d oe → (∃ vs, oe.data = .fields vs) → PSs (X.suite a ((a, oe) :: pn)) (b0 :: su) (ts a cls d)) (r : ClsOk X hs l) :
      ClsOk X (.ExceptHandler (some (.Name x p1)) none (b0 :: su) p2 :: hs) ((c, none, ts) :: l)
  | named {x n : Str} {c : Value} {i : Nat} {ts : Addr → Value → Option Addr → TS} {b0 : Stmt} {su : List Stmt} {p1 p2 : Pos} {hs : List ExceptHandler} {l : List Cl} (hc : Names X x c) (hN : X.N.Nodup) (hi : X.N[i]? = some n) (hln : X.env.kindOf n = some .local)
      (hsu : ∀ (a : Addr) (oe : Obj) (cls : Value) (d : Option Addr) (pn : List (Addr × Obj)), Zc cls d oe → (∃ vs, oe.data = .fields vs) → PSs (X.suite a ((a, oe) :: pn)) (b0 :: su) (ts a cls d)) (r : ClsOk X hs l) :
      ClsOk X (.ExceptHandler (some (.Name x p1)) (some n) (b0 :: su) p2 :: hs) ((c, some i, ts) :: l)
/-- try: .. except: .. except: .. -/
def tTryM (K : PySem.W.Frag) (l : List Cl) (tb : WX → TS) : TS := fun D σ H => tb (wMix K (fun _ _ _ _ => False) D l) D σ H
section
variable {K : PySem.W.Frag} {cn : Cn}
/-- the clauses, one after the other, at an exception of the class nm with the found data x -/
def Caught (K : PySem.W.Frag) (cn : Cn) (nm : Nat) (x : D) (δ : List Sl) (E : En) : List Cl → Prop
  | [] => False
  | (c, o, ts) :: r => ∃ b, PySem.W.exmOne K (.ref (cn.ad nm)) c = some b ∧
      (b = true → ∀ (a d : Addr), match o with
        | none => WS (cS K d (xfs (cn.fl nm) x)) (ts a (.ref (cn.ad nm)) (some d)) δ E
        | some i => WS (cS K d (xfs (cn.fl nm) x)) (ts a (.ref (cn.ad nm)) (some d)) (δ.set i (.d (.ptr a))) ⟨fun δ3 => E.nx (δ3.set i .no), E.rt, fun δ3 => E.bk (δ3.set i .no), fun δ3 => E.ct (δ3.set i .no)⟩) ∧
      (b = false → Caught K cn nm x δ E r)
end
end DL
namespace DL
open PySem PySem.Spec PyProof.Rows L2
open Evl (Ex)
/-- a class as a value: one of the text's, or a built-in one -/
inductive ClsV : V → Value → Prop
  | ref (C : Addr) : ClsV (.ref C) (.ref C)
  | ty (n : String) : ClsV (.ty n) (.type n)
theorem ClsV.rel {v : V} {u u' : Value} (h : ClsV v u) (r : RelV v u') : u' = u := by
  cases h with
  | ref C => exact r
  | ty n => exact r
/-- isinstance(e, C), e what the suite holds -/
def rIsG (K : PySem.W.Frag) (a : Addr) (cls : Value) (d : Option Addr) : List V → Hp → VK → Prop := fun xs H Q => ∃ f C dd v2 u2 b fs, cls = .ref C ∧ d = some dd ∧ ExcAll K C f ∧ xs = [.ref a, v2] ∧ ClsV v2 u2 ∧ H dd = some (.xd fs) ∧ PySem.W.kitOne K (.ref C) u2 = some b ∧ Q (.bl b) H
section
variable {K : PySem.W.Frag} {p : Bool} {δ : List Sl} {a d C : Addr} {f : List Str} {fs : List (Str × D)} {x : D} {tr : TA} {Φ : R → List Sl → Prop}
end
end DL
namespace DL
open PySem PySem.Spec PyProof.Rows L2
section
variable {c : Cd} {δ : List Sl} {N B C : List Sl → Prop} {Rt : R → List Sl → Prop} {tt : TT} {t : TS}
end
end DL
namespace DL
open PySem PySem.Spec PyProof.Rows L2
/-- a, b, .. = a tuple or a list of that length -/
def gSeq (K : PySem.W.Frag) (n : Nat) (t : TGs) : TG := fun v σ H Q => gTup K n t v σ H Q ∨ L2.gLst K n t v σ H Q
theorem pg_seq {X : Cx} {pos : Pos} {es : List Expr} {k : Nat} {t : TGs} {n : Nat} (hc : X.calm = true) (h : PGs X es t)
    (hn : (assignEach es X.env).length = n := by rfl) (hst : (assignEach es X.env).findIdx? (·.1) = none := by rfl) : PG X (.Tuple es k pos) (gSeq X.K n t) :=
  ⟨fun pins s σ H v u Q I r hw => hw.elim ((pg_tup hc h hn hst).run pins s σ H v u Q I r) ((L2.pg_lst hc h hn hst).run pins s σ H v u Q I r)⟩
section
variable {c : Cd} {δ : List Sl} {Φ : List Sl → Prop} {x y z : D} {a : Addr} {g1 g2 g3 : TG}
theorem wg_seqT {gs : TGs} {n : Nat} {xs : List D} (hn : xs.length = n) (h : WGs c gs xs δ Φ) : WG c (gSeq c.K n gs) (.d (.tup xs)) δ Φ := fun B G H σ v Q F z rv k => .inl (wg_tup hn h B G H σ v Q F z rv k)
theorem wgs2 (h : WG c g1 (.d x) δ fun δ1 => WG c g2 (.d y) δ1 Φ) : WGs c (gCons g1 (gCons g2 gNil)) [x, y] δ Φ := wgs_cons (wg_mono h fun δ1 q => wgs_cons (wg_mono q fun δ2 q2 => wgs_nil q2))
theorem wgs3 (h : WG c g1 (.d x) δ fun δ1 => WG c g2 (.d y) δ1 fun δ2 => WG c g3 (.d z) δ2 Φ) : WGs c (gCons g1 (gCons g2 (gCons g3 gNil))) [x, y, z] δ Φ := wgs_cons (wg_mono h fun δ1 q => wgs_cons (wg_mono q fun δ2 q2 => wgs_cons (wg_mono q2 fun δ3 q3 => wgs_nil q3)))
theorem wg_s2t (h : WG c g1 (.d x) δ fun δ1 => WG c g2 (.d y) δ1 Φ) : WG c (gSeq c.K 2 (gCons g1 (gCons g2 gNil))) (.d (.tup [x, y])) δ Φ := wg_seqT rfl (wgs2 h)
theorem wg_s3t (h : WG c g1 (.d x) δ fun δ1 => WG c g2 (.d y) δ1 fun δ2 => WG c g3 (.d z) δ2 Φ) : WG c (gSeq c.K 3 (gCons g1 (gCons g2 (gCons g3 gNil)))) (.d (.tup [x, y, z])) δ Φ := wg_seqT rfl (wgs3 h)
end
end DL

/-! DL17: equal data are equal, empty dicts among them. -/
namespace PySem
open Builtin
section
variable {A : Around} {s : Shared}
theorem dict_eq0 (a b : Addr) (ha : (a == sysModules) = false) (hb : (b == sysModules) = false) : Meets (Builtin.«dict.__eq__» ⟨[.ref a, .ref b], []⟩) (fun _ R s => (∃ o ep, s.heap.get? a = some o ∧ o.cls = .type "dict" ∧ o.data = .dict #[] ep) ∧ (∃ o ep, s.heap.get? b = some o ∧ o.cls = .type "dict" ∧ o.data = .dict #[] ep) ∧ R (.ok (.ret (.bool true))) s) :=
  .of_wp fun prog w A R s ⟨⟨o, ep, ho, hc, hd⟩, ⟨o2, ep2, ho2, hc2, hd2⟩, h⟩ => by
    show wpAny _ _ (Builtin.Dict.dictSlotArgs "__eq__" ⟨[.ref a, .ref b], []⟩ >>= _) _ _ s
    refine wpAny_bind ?_
    unfold Builtin.Dict.dictSlotArgs Builtin.Dict.notOrdered
    show wpAny _ _ (pure ((Value.ref a, Value.ref b) : Value × Value)) _ _ s
    refine wpAny_pure ?_
    show wpAny _ _ (isInstance (.ref b) (.type "dict") >>= _) _ _ s
    refine wpAny_bind (wpAny_isInstance (T := "dict") ⟨o2, ho2, hc2⟩ F.sub_dict_dict ?_)
    show wpAny _ _ (Builtin.Dict.addrOf (.ref a) >>= _) _ _ s
    refine wpAny_bind (wpAny_pure ?_)
    show wpAny _ _ (Builtin.Dict.addrOf (.ref b) >>= _) _ _ s
    refine wpAny_bind (wpAny_pure ?_)
    refine wpAny_bind ?_
    unfold Builtin.Dict.samePairs Builtin.Dict.showsAll
    rw [if_neg (by rw [ha]; exact Bool.false_ne_true), if_neg (by rw [hb]; exact Bool.false_ne_true)]
    refine wpAny_bind (wpAny_pure ?_)
    refine wpAny_bind (wpAny_pure ?_)
    refine wpAny_bind (wpAny_dictEntries ho hd ?_)
    refine wpAny_bind (wpAny_dictEntries ho2 hd2 ?_)
    rw [if_neg (by decide)]
    refine wpAny_bind (wpAny_dictEpoch ho hd ?_)
    refine wpAny_bind ?_
    rw [Std.Legacy.Range.forIn_eq_forIn_range']
    show wpAny _ _ (pure (none, ())) _ _ s
    refine wpAny_pure ?_
    show wpAny _ _ (pure true) _ _ s
    exact wpAny_pure (wpAny_pure ⟨_, rfl, h⟩)
theorem RcAt.dicts0 {a b : Addr} (ha : (a == sysModules) = false) (hb : (b == sysModules) = false) (hu : A.units < cLine) (h1 : ∃ o ep, s.heap.get? a = some o ∧ o.cls = .type "dict" ∧ o.data = .dict #[] ep) (h2 : ∃ o ep, s.heap.get? b = some o ∧ o.cls = .type "dict" ∧ o.data = .dict #[] ep) : SeqAt.RcAt A s (.ref a) (.ref b) true := fun prog w E Q h => by
  obtain ⟨o, ep, ho, hc, hd⟩ := id h1
  obtain ⟨o2, ep2, ho2, hc2, hd2⟩ := id h2
  exact richCompare_meets_room (op := .Eq) ⟨_, ho, hc⟩ ⟨_, ho2, hc2⟩ F.slot_dict_eq F.entry_dict_eq (F.args_dict_eq_2 _ _) (dict_eq0 a b ha hb) ⟨h1, h2, show Value.bool true ≠ Value.notImplemented ∧ Q (.bool true) s from ⟨(fun x => nomatch x), h⟩⟩ hu
open PySem.SeqAt in
mutual
/-- data with no dict but the empty one -/
def d0 : PyData → Bool
  | .none => true
  | .bool _ => true
  | .int _ => true
  | .str _ => true
  | .list xs => d0s xs
  | .tuple xs => d0s xs
  | .dict kvs => kvs.isEmpty
def d0s : List PyData → Bool
  | [] => true
  | x :: xs => d0 x && d0s xs
end
section
open SeqAt
theorem all_true (n : Nat) : (List.range n).all (fun _ => true) = true := by simp
mutual
theorem eq_same : ∀ (d : PyData) (A : Around) (s : Shared) (u v : Value) (as bs : List Addr), d0 d = true → Reads s.heap u d as → Reads s.heap v d bs → sysModules ∉ as → sysModules ∉ bs → A.units + d.depth < cLine → EqAt A s u v true
  | .none, A, s, u, v, as, bs, h0, r1, r2, n1, n2, hu => by cases r1; cases r2; exact EqAt.same _
  | .bool b, A, s, u, v, as, bs, h0, r1, r2, n1, n2, hu => by cases r1; cases r2; exact EqAt.same _
  | .int i, A, s, u, v, as, bs, h0, r1, r2, n1, n2, hu => by
    cases r1 with
    | int i t => cases r2 with
      | int _ t2 =>
        have := EqAt.int_int (A := A) (s := s) i t i t2
        rw [beq_self_eq_true] at this
        exact this
  | .str z, A, s, u, v, as, bs, h0, r1, r2, n1, n2, hu => by
    cases r1 with
    | str z t => cases r2 with
      | str _ t2 =>
        have := EqAt.str_str (A := A) (s := s) z t z t2
        rw [beq_self_eq_true] at this
        exact this
  | .list xs, A, s, u, v, as, bs, h0, r1, r2, n1, n2, hu => by
    cases r1 with
    | @list l o vs n _ as1 k1 k2 k3 k4 => cases r2 with
      | @list l' o' vs' n' _ as2 j1 j2 j3 j4 =>
        by_cases e : l = l'
        · subst e; exact EqAt.same _
        · simp only [PyData.depth] at hu
          have he := eqs_same xs A.in1 s vs.toList vs'.toList as1 as2 (by simpa only [d0] using h0) k4 j4 (fun m => n1 (List.mem_cons_of_mem _ m)) (fun m => n2 (List.mem_cons_of_mem _ m)) (by show A.units + 1 + _ < _; omega)
          have m1 : vs.size = xs.length := by simpa using ReadsAll.length _ _ _ k4
          have m2 : vs'.size = xs.length := by simpa using ReadsAll.length _ _ _ j4
          have z := RcAt.lists (A := A) (s := s) (e := fun _ => true) ⟨_, k1, k2, _, k3⟩ ⟨_, j1, j2, _, j3⟩ (m1.trans m2.symm) (by omega) (fun j h1 h2 => he j h1 h2)
          rw [all_true] at z
          exact EqAt.of_refs e z
  | .tuple xs, A, s, u, v, as, bs, h0, r1, r2, n1, n2, hu => by
    cases r1 with
    | @tuple l o vs n _ as1 k1 k2 k3 k4 => cases r2 with
      | @tuple l' o' vs' n' _ as2 j1 j2 j3 j4 =>
        by_cases e : l = l'
        · subst e; exact EqAt.same _
        · simp only [PyData.depth] at hu
          have he := eqs_same xs A.in1 s vs.toList vs'.toList _ _ (by simpa only [d0] using h0) k4 j4 n1 n2 (by show A.units + 1 + _ < _; omega)
          have m1 : vs.size = xs.length := by simpa using ReadsAll.length _ _ _ k4
          have m2 : vs'.size = xs.length := by simpa using ReadsAll.length _ _ _ j4
          have z := RcAt.tuples (A := A) (s := s) (e := fun _ => true) ⟨_, k1, k2, _, k3⟩ ⟨_, j1, j2, _, j3⟩ (by omega) (fun j h1 h2 => he j h1 h2)
          rw [all_true, m1, m2, beq_self_eq_true] at z
          exact EqAt.of_refs e z
  | .dict kvs, A, s, u, v, as, bs, h0, r1, r2, n1, n2, hu => by
    cases r1 with
    | @dict l o es n _ as1 as2 k1 k2 k3 k4 k5 => cases r2 with
      | @dict l' o' es' n' _ as3 as4 j1 j2 j3 j4 j5 =>
        by_cases e : l = l'
        · subst e; exact EqAt.same _
        · have q : kvs = [] := by simpa [d0] using h0
          subst q
          have e1 : es = #[] := by
            have := ReadsAll.length _ _ _ k4
            simpa using this
          have e2 : es' = #[] := by
            have := ReadsAll.length _ _ _ j4
            simpa using this
          subst e1 e2
          refine EqAt.of_refs e (RcAt.dicts0 ?_ ?_ (by omega) ⟨_, _, k1, k2, k3⟩ ⟨_, _, j1, j2, j3⟩)
          · simp only [beq_eq_false_iff_ne]
            intro z
            exact n1 (by rw [← z]; simp)
          · simp only [beq_eq_false_iff_ne]
            intro z
            exact n2 (by rw [← z]; simp)
theorem eqs_same : ∀ (xs : List PyData) (A : Around) (s : Shared) (us vs : List Value) (as bs : List Addr), d0s xs = true → ReadsAll s.heap us xs as → ReadsAll s.heap vs xs bs → sysModules ∉ as → sysModules ∉ bs → A.units + PyData.depthAll xs < cLine → ∀ j (h1 : j < us.length) (h2 : j < vs.length), EqAt A s us[j] vs[j] true
  | [], A, s, us, vs, as, bs, h0, r1, r2, n1, n2, hu => by cases r1; cases r2; intro j h1; exact absurd h1 (by simp)
  | x :: xs, A, s, us, vs, as, bs, h0, r1, r2, n1, n2, hu => by
    cases r1 with
    | @cons u us _ _ as1 bs1 k1 k2 => cases r2 with
      | @cons v vs _ _ as2 bs2 j1 j2 =>
        have h0' : d0 x = true ∧ d0s xs = true := by simpa [d0s] using h0
        simp only [PyData.depthAll] at hu
        intro j h1 h2
        cases j with
        | zero => exact eq_same x A s u v as1 as2 h0'.1 k1 j1 (fun m => n1 (List.mem_append_left _ m)) (fun m => n2 (List.mem_append_left _ m)) (by omega)
        | succ j => simpa using eqs_same xs A s us vs bs1 bs2 h0'.2 k2 j2 (fun m => n1 (List.mem_append_right _ m)) (fun m => n2 (List.mem_append_right _ m)) (by omega) j (by simpa using h1) (by simpa using h2)
end
end
end
end PySem
namespace DL
open PySem PySem.Spec PyProof.Rows L2
open Evl (Ex)
/-- lists of the same data -/
def rSame (r : Bool) (K : PySem.W.Frag) : R2 := fun x y H Q => ∃ xs d, Rep K H (.lst xs) x ∧ Rep K H (.lst xs) y ∧ pyA (.lst xs) = some d ∧ d0 d = true ∧ d.depth ≤ 50 ∧ Q (.bl r) H
def rEqB (K : PySem.W.Frag) : R2 := fun x y H Q => rEqA K x y H Q ∨ rSame true K x y H Q
def rNeB (K : PySem.W.Frag) : R2 := fun x y H Q => rNeA K x y H Q ∨ rSame false K x y H Q
/-- the same data, no dict in it but empty ones -/
def sameD (x y : D) : Prop := ∃ xs d, x = .lst xs ∧ y = .lst xs ∧ pyA (.lst xs) = some d ∧ d0 d = true ∧ d.depth ≤ 50
def dEqB (f : Bool → Bool) : Dop := fun x y k => dEqF f x y k ∨ (sameD x y ∧ k (.d (.bl (f true))))
section
variable {c : Cd}
end
end DL

/-! DL18: dicts looked up, asked, stored to, made of pairs; lists: pop, insert, index; texts split. -/
namespace DL
open PySem PySem.Spec PyProof.Rows L2
open Evl (Ex)
/-! ### k in d -/
def rInK : R2 := fun y x H Q => ∃ a o, x = .ref a ∧ DGet H a y o ∧ Q (.bl o.isSome) H
def rNotInK : R2 := fun y x H Q => ∃ a o, x = .ref a ∧ DGet H a y o ∧ Q (.bl (!o.isSome)) H
def rInB (K : PySem.W.Frag) : R2 := fun x y H Q => rInA K x y H Q ∨ rInK x y H Q
def rNotInB (K : PySem.W.Frag) : R2 := fun x y H Q => rNotInA K x y H Q ∨ rNotInK x y H Q
theorem op_inK {X : Cx} (hu : X.A.units + 64 < cLine) : OpR X (compareOp .In) rInK := by
  intro pins s σ H y x u v Q I ry rx h
  obtain ⟨a, o, e, g, q⟩ := h
  subst e
  obtain rfl : v = Value.ref a := rx
  exact d_in (by omega) I g ry fun s3 I3 => ⟨.bl o.isSome, H, I3, rfl, q⟩
theorem op_notInK {X : Cx} (hu : X.A.units + 64 < cLine) : OpR X (compareOp .NotIn) rNotInK := by
  intro pins s σ H y x u v Q I ry rx h
  obtain ⟨a, o, e, g, q⟩ := h
  subst e
  obtain rfl : v = Value.ref a := rx
  exact d_notIn (by omega) I g ry fun s3 I3 => ⟨.bl (!o.isSome), H, I3, rfl, q⟩
theorem op_inB {X : Cx} (hu : X.A.units + 64 < cLine) : OpR X (compareOp .In) (rInB X.K) := op_inA.or (op_inK hu)
theorem op_notInB {X : Cx} (hu : X.A.units + 64 < cLine) : OpR X (compareOp .NotIn) (rNotInB X.K) := op_notInA.or (op_notInK hu)
section
variable {c : Cd}
theorem view_get {B G H : Hp} {σ : St} {δ : List Sl} {r1 r2 : R} {v1 v2 : V} {x : D} {kds : List (Key × D)} {key : Key} (F : Frame c.K B G H σ δ) (h1 : RW c.K G r1 v1) (h2 : RW c.K G r2 v2) (e1 : view δ r1 = some x) (e2 : view δ r2 = some (.dct kds)) (hk : dKey x = some key) :
    ∃ a, v2 = .ref a ∧ ((getD kds key = none ∧ DGet H a v1 none) ∨ ∃ y v, getD kds key = some y ∧ DGet H a v1 (some v) ∧ Rep c.K G y v) := by
  obtain ⟨a, vs, e, ha, hr⟩ := view_dct F h2 e2
  have ek := dKey_rep hk (view_repH F h1 e1)
  refine ⟨a, e, ?_⟩
  rcases repK_val (k := key) hr with ⟨q1, q2⟩ | ⟨y, v, q1, q2, q3⟩
  · exact .inl ⟨q1, .inl ⟨vs, key, ha, ek, q2.symm⟩⟩
  · exact .inr ⟨y, v, q1, .inl ⟨vs, key, ha, ek, q2.symm⟩, q3⟩
def dInK (f : Bool → Bool) : Dop := fun x y k => ∃ key kds, dKey x = some key ∧ y = .dct kds ∧ k (.d (.bl (f (getD kds key).isSome)))
def dInB (f : Bool → Bool) : Dop := fun x y k => dIn f x y k ∨ dInK f x y k
theorem opd_inK : OpD c rInK (dInK id) := by
  intro B G H σ δ r1 r2 v1 v2 x y Ψ Q F h1 h2 e1 e2 hf k
  obtain ⟨key, kds, hk, ey, q⟩ := hf
  subst ey
  obtain ⟨a, e, g⟩ := view_get F h1 h2 e1 e2 hk
  rcases g with ⟨g1, g2⟩ | ⟨z, v, g1, g2, _⟩
  · rw [g1] at q
    exact ⟨a, none, e, g2, k _ _ G H q (Ex.refl G) (Ex.refl H) F (rep_bl (K := c.K) (G := G))⟩
  · rw [g1] at q
    exact ⟨a, some v, e, g2, k _ _ G H q (Ex.refl G) (Ex.refl H) F (rep_bl (K := c.K) (G := G))⟩
theorem opd_notInK : OpD c rNotInK (dInK not) := by
  intro B G H σ δ r1 r2 v1 v2 x y Ψ Q F h1 h2 e1 e2 hf k
  obtain ⟨key, kds, hk, ey, q⟩ := hf
  subst ey
  obtain ⟨a, e, g⟩ := view_get F h1 h2 e1 e2 hk
  rcases g with ⟨g1, g2⟩ | ⟨z, v, g1, g2, _⟩
  · rw [g1] at q
    exact ⟨a, none, e, g2, k _ _ G H q (Ex.refl G) (Ex.refl H) F (rep_bl (K := c.K) (G := G))⟩
  · rw [g1] at q
    exact ⟨a, some v, e, g2, k _ _ G H q (Ex.refl G) (Ex.refl H) F (rep_bl (K := c.K) (G := G))⟩
theorem opd_inBI : OpD c (rInB c.K) (dInB id) := fun B G H σ δ r1 r2 v1 v2 x y Ψ Q F h1 h2 e1 e2 hf k => hf.elim
  (fun hf => .inl (opd_inI B G H σ δ r1 r2 v1 v2 x y Ψ Q F h1 h2 e1 e2 hf k)) (fun hf => .inr (opd_inK B G H σ δ r1 r2 v1 v2 x y Ψ Q F h1 h2 e1 e2 hf k))
theorem opd_inBN : OpD c (rNotInB c.K) (dInB not) := fun B G H σ δ r1 r2 v1 v2 x y Ψ Q F h1 h2 e1 e2 hf k => hf.elim
  (fun hf => .inl (opd_inN B G H σ δ r1 r2 v1 v2 x y Ψ Q F h1 h2 e1 e2 hf k)) (fun hf => .inr (opd_notInK B G H σ δ r1 r2 v1 v2 x y Ψ Q F h1 h2 e1 e2 hf k))
end
section
variable {x y : D} {k : R → Prop} {kds : List (Key × D)} {key : Key}
theorem dInB_kI (hk : dKey x = some key) (h : k (.d (.bl (getD kds key).isSome))) : dInB id x (.dct kds) k := .inr ⟨key, kds, hk, rfl, h⟩
theorem dInB_kN (hk : dKey x = some key) (h : k (.d (.bl (!(getD kds key).isSome)))) : dInB not x (.dct kds) k := .inr ⟨key, kds, hk, rfl, h⟩
theorem dInB_sI {ch : Nat} {z : Str} (h : k (.d (.bl (decide (ch ∈ z.cps.toList))))) : dInB id (.str ⟨#[ch]⟩) (.str z) k := .inl (dIn_sI h)
theorem dInB_lI {xs : List D} (h1 : flatD x = true) (h2 : xs.all flatD = true) (h : k (.d (.bl (inD x xs)))) : dInB id x (.lst xs) k := .inl (dIn_l h1 h2 h)
theorem dInB_lN {xs : List D} (h1 : flatD x = true) (h2 : xs.all flatD = true) (h : k (.d (.bl (!inD x xs)))) : dInB not x (.lst xs) k := .inl (dIn_l h1 h2 h)
theorem dInB_tI {xs : List D} (h1 : flatD x = true) (h2 : xs.all flatD = true) (h : k (.d (.bl (inD x xs)))) : dInB id x (.tup xs) k := .inl (dIn_t h1 h2 h)
theorem dInB_tN {xs : List D} (h1 : flatD x = true) (h2 : xs.all flatD = true) (h : k (.d (.bl (!inD x xs)))) : dInB not x (.tup xs) k := .inl (dIn_t h1 h2 h)
end
/-! ### d[k] -/
def rIxK : R2 := fun x y H Q => ∃ a v, x = .ref a ∧ DGet H a y (some v) ∧ Q v H
def rIxB (K : PySem.W.Frag) : R2 := fun x y H Q => rIx K x y H Q ∨ rIxK x y H Q
theorem ix_dct {X : Cx} (hu : X.A.units + 64 < cLine) : IxR X rIxK := by
  intro value slice pins s σ H x y o i Q I rx ry h hs
  obtain ⟨a, v, e, g, q⟩ := h
  subst e
  obtain rfl : o = Value.ref a := rx
  have hT := dict_typeIs I g
  have h2 : wpAny (model X.prog X.w) X.A (getItem (.ref a) i) (EP X pins σ Q) X.xe s := d_getItem (by omega) I g ry fun w' s3 I3 rw' => ⟨v, H, I3, rw', q⟩
  unfold subscriptTail
  refine wpAny_bind ?_
  rw [getitemInPython_of_ne hT.not_modules]
  refine wpAny_bind (wpAny_specialOf hT PySem.F.slot_dict_getitem.lookup ?_)
  have fin : wpAny (model X.prog X.w) X.A (subscripted slice false (.ref a) i) (fun r z3 => wpAny (model X.prog X.w) X.A (letTemporaryGo value (.ref a) r >>= fun _ => pure r) (EP X pins σ Q) X.xe z3) X.xe s := by
    rw [hs]
    exact wpAny_operating (wpAny_mono h2 (fun r z3 h3 => wpAny_bind (wpAny_letTemporaryGo (wpAny_pure h3))) fun _ _ x => x)
  first
    | exact wpAny_pure (wpAny_bind fin)
    | exact wpAny_bind (wpAny_pure (wpAny_bind fin))
    | exact wpAny_bind fin
theorem ix_any {X : Cx} (hu : X.A.units + 64 < cLine) : IxR X (rIxB X.K) := ix_seq.or (ix_dct hu)
def dIxB : Dop := fun x y k => dIx x y k ∨ ∃ key kds z, dKey y = some key ∧ x = .dct kds ∧ getD kds key = some z ∧ k (.d z)
section
variable {c : Cd}
theorem opd_ixB : OpD c (rIxB c.K) dIxB := by
  intro B G H σ δ r1 r2 v1 v2 x y Ψ Q F h1 h2 e1 e2 hf k
  rcases hf with hf | ⟨key, kds, z, hk, ex, hz, q⟩
  · exact .inl (opd_ix B G H σ δ r1 r2 v1 v2 x y Ψ Q F h1 h2 e1 e2 hf k)
  · subst ex
    obtain ⟨a, e, g⟩ := view_get F h2 h1 e2 e1 hk
    rcases g with ⟨g1, _⟩ | ⟨w, v, g1, g2, g3⟩
    · rw [g1] at hz; cases hz
    · rw [g1] at hz
      cases hz
      exact .inr ⟨a, v, e, g2, k _ _ G H q (Ex.refl G) (Ex.refl H) F g3⟩
end
section
variable {x y z : D} {k : R → Prop} {kds : List (Key × D)} {key : Key} {xs : List D} {i : Int} {t : Str}
theorem dIxB_l (h1 : atI xs i = some x) (h : k (.d x)) : dIxB (.lst xs) (.int i) k := .inl (dIx_l h1 h)
theorem dIxB_r (h1 : atI xs i = some x) (h : k (.d x)) : dIxB (.ro xs) (.int i) k := .inl (dIx_r h1 h)
theorem dIxB_t (h1 : atI xs i = some x) (h : k (.d x)) : dIxB (.tup xs) (.int i) k := .inl (dIx_t h1 h)
theorem dIxB_s {ch : Nat} (h0 : t.length ≤ 16000000) (h1 : atI t.cps.toList i = some ch) (h : k (.d (.str ⟨#[ch]⟩))) : dIxB (.str t) (.int i) k := .inl (dIx_s h0 h1 h)
theorem dIxB_k (hk : dKey y = some key) (h1 : getD kds key = some z) (h : k (.d z)) : dIxB (.dct kds) y k := .inr ⟨key, kds, z, hk, rfl, h1, h⟩
end
/-! ### d[k] = v -/
def rSetB : TSet := fun o i v H Q => rSetL o i v H Q ∨ rSetD o i v H Q
theorem set_any {X : Cx} (hu : X.A.units + 64 < cLine) : PSet X rSetB := fun pins s σ H o i v ov iv u Q I ro ri rv h => h.elim (set_list pins s σ H o i v ov iv u Q I ro ri rv) (L2.set_dict (by omega) pins s σ H o i v ov iv u Q I ro ri rv)
theorem own_dct {K : PySem.W.Frag} {B G H : Hp} {σ : St} {δ : List Sl} {i : Nat} {a : Addr} {ds : List (Key × D)} (F : Frame K B G H σ δ) (e : δ[i]? = some (.own a (.dct ds))) : ∃ xs, H a = some (.dK xs) ∧ RepK K G ds xs := by
  obtain ⟨ov, _, _, h⟩ := F.get e
  exact h
theorem repK_len' {K : PySem.W.Frag} {G : Hp} : ∀ {ds : List (Key × D)} {vs : List (Key × V)}, RepK K G ds vs → vs.length = ds.length
  | [], vs, h => by unfold RepK at h; subst h; rfl
  | (k, d) :: ds, vs, h => by
    unfold RepK at h
    obtain ⟨v, vr, e, _, h2⟩ := h
    subst e
    simp [repK_len' h2]
section
variable {c : Cd} {δ : List Sl} {ta tb : TE}
theorem wg_setB {r : R} {Φ : List Sl → Prop} (h : ∃ x, frz r = .d x ∧ WE c false ta δ fun r1 δ1 => ∃ i a, r1 = .bor i a ∧ WE c false tb δ1 fun r2 δ2 =>
    (∃ n ds j, r2 = .d (.int n) ∧ δ2[i]? = some (.own a (.lst ds)) ∧ ixN ds.length n = some j ∧ ∀ δ3, δ3 = δ2.set i (.own a (.lst (ds.set j x))) → Φ δ3) ∨
    (∃ y key kds, r2 = .d y ∧ dKey y = some key ∧ δ2[i]? = some (.own a (.dct kds)) ∧ kds.length < 100000 ∧ ∀ δ3, δ3 = δ2.set i (.own a (.dct (putD kds key x))) → Φ δ3)) :
    WG c (gSub ta tb rSetB) r δ Φ := by
  intro B G H σ v Q F x k rv
  obtain ⟨y, hy, h⟩ := h
  obtain ⟨G0, e0, F0, rw0⟩ := k.weak F
  rw [hy] at rw0
  refine h B G0 H σ _ F0 (c.mono _ _ _ e0 x) fun r1 δ1 v1 G1 H1 w1 e1 F1 rv1 p1 => ?_
  obtain ⟨i, a, er, w1⟩ := w1
  subst er
  obtain ⟨ev, _⟩ := rv1
  subst ev
  refine w1 B G1 H1 σ _ F1 (c.mono _ _ _ (e0.trans e1) x) fun r2 δ2 v2 G2 H2 w2 e2 F2 rv2 p2 => ?_
  have hv : Rep c.K G2 y v := Rep.mono (e1.trans e2) (show Rep c.K G0 y v from rw0)
  rcases w2 with ⟨n, ds, j, er2, hd, hj, w2⟩ | ⟨w, key, kds, er2, hk, hd, hl, w2⟩
  · subst er2
    have q2 : v2 = .int n := by have z : Rep c.K G2 (.int n) v2 := rv2; unfold Rep at z; exact z
    subst q2
    obtain ⟨xs, hx, hr⟩ := own_lst F2 hd
    refine .inl ⟨a, xs, n, j, rfl, rfl, hx, by rw [reps_length hr]; exact hj, ?_⟩
    exact rv _ _ G2 _ (w2 _ rfl) (e0.trans (e1.trans e2)) (frame_mut F2 hd ⟨_, upd_same, reps_set j hr hv⟩)
  · subst er2
    have q2 : v2 = kV key := dKey_rep hk (show Rep c.K G2 w v2 from rv2)
    subst q2
    obtain ⟨xs, hx, hr⟩ := own_dct F2 hd
    have hl2 : xs.length < sizeLine := by rw [repK_len' hr, sizeLine_eq]; omega
    refine .inr ⟨a, _, rfl, .inl ⟨xs, key, hx, rfl, hl2, rfl⟩, ?_⟩
    exact rv _ _ G2 _ (w2 _ rfl) (e0.trans (e1.trans e2)) (frame_mut F2 hd ⟨_, upd_same, repK_put hr hv⟩)
end
end DL

/-! DL19: lists: pop, insert, index, clear; texts split; dict(..), list(a dict); d.get; isinstance of several. -/
namespace DL
open PySem PySem.Spec PyProof.Rows L2
open Evl (Ex)
section
variable {X : Cx}
theorem mt_popAtA : MtR X "list.pop" rPopAt := L2.mt_popAt
theorem mt_clearA : MtR X "list.clear" rClear := L2.mt_clear
def rInsertA : V → List V → Hp → VK → Prop := fun x vs H Q => ∃ (l : Addr) (xs : List V) (i : Int) (y : V), x = .ref l ∧ vs = [.int i, y] ∧ H l = some (.lst xs) ∧ xs.length < sizeLine ∧ 0 ≤ i ∧ i < 2 ^ 63 ∧ Q .non (upd H l (.lst (xs.take i.toNat ++ [y] ++ xs.drop i.toNat)))
def rSplitA : V → List V → Hp → VK → Prop := fun x xs H Q => ∃ a b, x = .str a ∧ xs = [.str b] ∧ (b.length == 0) = false ∧ a.length + 2 ≤ sizeLine ∧ rNewStrs (Txt.split a b) H Q
def rIndexA (K : PySem.W.Frag) : V → List V → Hp → VK → Prop := rIndex K
theorem mt_indexA : MtR X "list.index" (rIndexA X.K) := L2.mt_index
end
theorem reps_erase {K : PySem.W.Frag} {G : Hp} {ds : List D} {xs : List V} (i : Nat) (h : Reps K G ds xs) : Reps K G (ds.eraseIdx i) (xs.eraseIdx i) := by
  rw [List.eraseIdx_eq_take_drop_succ, List.eraseIdx_eq_take_drop_succ]
  exact reps_append (reps_take i h) (reps_drop (i + 1) h)
theorem sq_nat {i n : Nat} (h : i < n) : seqIndex? (i : Int) n = some i := by
  unfold seqIndex?
  simp
  omega
theorem mu_popAt : MuL rPopAt fun ds es k => ∃ (i : Nat) (x : D), es = [.int i] ∧ ds.length ≤ 100000 ∧ ds[i]? = some x ∧ k (ds.eraseIdx i) x := fun K G H a xs ds es vs Ψ Q hx eG hr he hf k => by
  obtain ⟨i, x, e, hl, hi, q⟩ := hf
  subst e
  obtain ⟨v, e2, h2⟩ := reps_one' he
  subst e2
  unfold Rep at h2
  subst h2
  obtain ⟨w, h3, h4⟩ := reps_get hr hi
  have hlt : i < xs.length := by
    rcases Nat.lt_or_ge i xs.length with q | q
    · exact q
    · rw [List.getElem?_eq_none q] at h3; cases h3
  have hle : xs.length = ds.length := reps_length hr
  exact ⟨a, xs, i, i, w, rfl, rfl, hx, by omega, by omega, sq_nat hlt, h3, k _ _ _ _ q (reps_erase i hr) h4⟩
section
variable {c : Cd} {p : Bool} {δ : List Sl} {te : TE} {tr : TA} {Φ : R → List Sl → Prop}
theorem we_popAt (h : WE c false te δ fun r1 δ1 => ∃ i a, r1 = .bor i a ∧ (∃ ds, δ1[i]? = some (.own a (.lst ds))) ∧ WA c false tr δ1 fun rs δ2 => ∃ (ds : List D) (n : Nat) (x : D), rs = [.d (.int n)] ∧ δ2[i]? = some (.own a (.lst ds)) ∧ ds.length ≤ 100000 ∧ ds[n]? = some x ∧
    ∀ δ3, δ3 = δ2.set i (.own a (.lst (ds.eraseIdx n))) → Φ (.d x) δ3) : WE c false (tBM c.K "list" rPopAt te tr) δ Φ := by
  refine we_mu mu_popAt (we_mono h fun r1 δ1 ⟨i, a, e1, h0, h1⟩ => ⟨i, a, e1, h0, ?_⟩)
  intro B G H σ Q F x k
  refine h1 B G H σ Q F x fun rs δ2 vs G' H' ⟨ds, n, y, e2, e3, hl, hy, q⟩ => k rs δ2 vs G' H' ⟨ds, [.int n], by rw [e2]; rfl, e3, n, y, rfl, hl, hy, q _ rfl⟩
theorem we_clear0 (h : WE c false te δ fun r1 δ1 => ∃ i a ds, r1 = .bor i a ∧ δ1[i]? = some (.own a (.lst ds)) ∧ ∀ δ3, δ3 = δ1.set i (.own a (.lst [])) → Φ (.d .non) δ3) : WE c false (tBM0 c.K "list" rClear te) δ Φ :=
  we_mu0 mu_clear (we_mono h fun r1 δ1 ⟨i, a, ds, e1, e2, q⟩ => ⟨i, a, ds, e1, e2, rfl, q _ rfl⟩)
theorem view_one {rs : List R} {K : PySem.W.Frag} {G : Hp} {vs : List V} {x : D} (e : views δ rs = some [x]) (h : RVs K G rs vs) : ∃ r w, rs = [r] ∧ vs = [w] ∧ view δ r = some x ∧ RW K G r w := by
  cases rs with
  | nil => cases views_nil e
  | cons r rs =>
    obtain ⟨x', es, e3, e4, e5⟩ := views_cons e
    cases e3
    cases rs with
    | nil =>
      obtain ⟨w, wr, e6, h3, h4⟩ := h
      have e7 : wr = [] := h4
      subst e7
      exact ⟨r, w, rfl, e6, e4, h3⟩
    | cons r2 rs =>
      obtain ⟨x', es, e3, e4, e5⟩ := views_cons e5
      cases e3
end
section
variable {c : Cd}
/-- the first place of x -/
def atD (x : D) : List D → Option Nat
  | [] => none
  | y :: ys => if eqF y x = true then some 0 else (atD x ys).map (· + 1)
theorem atD_spec {x : D} : ∀ {ys : List D} {j : Nat}, atD x ys = some j → (∃ z, ys[j]? = some z ∧ eqF z x = true) ∧ ∀ m z, m < j → ys[m]? = some z → eqF z x = false
  | [], j, h => by cases h
  | y :: ys, j, h => by
    unfold atD at h
    by_cases q : eqF y x = true
    · rw [if_pos q] at h
      cases h
      exact ⟨⟨y, rfl, q⟩, fun m z hm => absurd hm (by omega)⟩
    · rw [if_neg q] at h
      cases e : atD x ys with
      | none => rw [e] at h; cases h
      | some i =>
        rw [e] at h
        cases h
        obtain ⟨⟨z, h1, h2⟩, h3⟩ := atD_spec e
        refine ⟨⟨z, by simpa using h1, h2⟩, fun m w hm hw => ?_⟩
        cases m with
        | zero =>
          have : y = w := by simpa using hw
          subst this
          simpa using q
        | succ m => exact h3 m w (Nat.lt_of_succ_lt_succ (show m + 1 < i + 1 from hm)) (by simpa using hw)
theorem med_index : MeD c (rIndexA c.K) fun x ds k => ∃ xs y j, x = .lst xs ∧ ds = [y] ∧ flatD y = true ∧ xs.all flatD = true ∧ atD y xs = some j ∧ k (.d (.int (j : Nat))) := by
  intro B G H σ δ r1 rs v vs x ds Ψ Q F h1 hr e1 e2 hf k
  obtain ⟨xs, y, j, ex, ed, f1, f2, hj, q⟩ := hf
  subst ex ed
  obtain ⟨a, ws, ev, ha, hw⟩ := view_lst F h1 e1
  subst ev
  obtain ⟨r, w, er, ew, e3, h3⟩ := view_one e2 hr
  subst er ew
  have hy := view_repH F h3 e3
  obtain ⟨⟨z, z1, z2⟩, z3⟩ := atD_spec hj
  have hwH := Reps.mono F.exG hw
  obtain ⟨zv, zv1, zv2⟩ := reps_get hwH z1
  have fz : flatD z = true := List.all_eq_true.mp f2 z (List.mem_of_getElem? z1)
  refine ⟨a, ws, w, j, zv, rfl, rfl, .inl ha, flat_rep f1 hy, flats_rep f2 hwH, zv1, by rw [eqF_V fz f1 zv2 hy]; exact z2, fun m z' hm hz' => ?_, k _ _ G H q (Ex.refl G) (Ex.refl H) F (rep_int (K := c.K) (G := G))⟩
  obtain ⟨u, u1, u2⟩ := reps_getV hwH hz'
  rw [eqF_V (List.all_eq_true.mp f2 u (List.mem_of_getElem? u1)) f1 u2 hy]
  exact z3 m u hm u1
theorem reps_strs {K : PySem.W.Frag} {G : Hp} : ∀ ys : List Str, Reps K G (ys.map D.str) (ys.map V.str)
  | [] => reps_nil
  | y :: ys => reps_cons rep_str (reps_strs ys)
end
/-! ### dict(..), list(a dict), isinstance of several -/
/-- pairs of a key and data -/
def pairsD : List D → Option (List (Key × D))
  | [] => some []
  | .tup [k, x] :: r => match dKey k with
    | some key => (pairsD r).map ((key, x) :: ·)
    | none => none
  | _ :: _ => none
def rDictP (K : PySem.W.Frag) : List V → Hp → VK → Prop := fun xs H Q => ∃ (a : Addr) (ps : List Addr) (kvs : List (Key × V)), xs = [.ref a] ∧ SqL K H a (ps.map V.ref) ∧ Paired (fun p kv => SqT K H p [kV kv.1, kv.2]) ps kvs ∧ ∀ p, H p = none → Q (.ref p) (upd H p (.dK (mergeK [] kvs)))
def rDictD : List V → Hp → VK → Prop := fun xs H Q => ∃ (a : Addr) (kvs : List (Key × V)), xs = [.ref a] ∧ Rd H a (.dK kvs) ∧ ∀ p, H p = none → Q (.ref p) (upd H p (.dK kvs))
def rDictA (K : PySem.W.Frag) : List V → Hp → VK → Prop := fun xs H Q => rDictP K xs H Q ∨ rDictD xs H Q
def rListD : List V → Hp → VK → Prop := fun xs H Q => ∃ (a : Addr) (kvs : List (Key × V)), xs = [.ref a] ∧ Rd H a (.dK kvs) ∧ ∀ p, H p = none → Q (.ref p) (upd H p (.lst (kvs.map fun kv => kV kv.1)))
def rListB (K : PySem.W.Frag) : List V → Hp → VK → Prop := fun xs H Q => rListA K xs H Q ∨ rListD xs H Q
theorem call_listB {X : Cx} (hc : X.calm = true) : CallR X (.type "list") (rListB X.K) := call_listA.or (L2.call_listD hc)
section
variable {c : Cd}
theorem keys_reps {K : PySem.W.Frag} {G : Hp} : ∀ {ds : List (Key × D)} {vs : List (Key × V)}, RepK K G ds vs → Reps K G (ds.map fun kv => keyD kv.1) (vs.map fun kv => kV kv.1)
  | [], vs, h => by unfold RepK at h; subst h; exact reps_nil
  | (k, d) :: ds, vs, h => by
    unfold RepK at h
    obtain ⟨v, vr, e, _, h2⟩ := h
    subst e
    refine reps_cons ?_ (keys_reps h2)
    cases k <;> (unfold keyD Rep; rfl)
theorem cad_listB : CaD c (rListB c.K) fun ds k => ∃ x, ds = [x] ∧ ((∃ xs, seqD x = some xs ∧ ∀ a, k (.own a (.lst xs))) ∨ ∃ kds, x = .dct kds ∧ ∀ a, k (.own a (.lst (kds.map fun kv => keyD kv.1)))) := by
  intro B G H σ δ rs vs ds Ψ Q F h e hf k
  obtain ⟨x, ed, hf⟩ := hf
  rcases hf with ⟨xs, h1, q⟩ | ⟨kds, ex, q⟩
  · exact .inl (cad_list B G H σ δ rs vs ds Ψ Q F h e ⟨x, ed, xs, h1, q⟩ k)
  · subst ed ex
    obtain ⟨r, w, er, ew, e3, h3⟩ := view_one e h
    subst er ew
    obtain ⟨a, ws, ev, ha, hr⟩ := view_dct F h3 e3
    subst ev
    exact .inr ⟨a, ws, rfl, ha, fun l hl => k _ _ G _ (q l) (Ex.refl G) (Ex.new hl) (F.ex (Ex.new hl)) (rv_newL F hl (keys_reps hr))⟩
/-- isinstance(x, (A, B, ..)) -/
def rIsiS (K : PySem.W.Frag) : List V → Hp → VK → Prop := fun xs H Q => ∃ (x : V) (tp : Addr) (cs : List V) (t : Value) (us : List Value) (b : Bool), xs = [x, .ref tp] ∧ SqT K H tp cs ∧ Paired L2.ClsV cs us ∧ TyX K H x t ∧ PySem.W.kitAny K t us = some b ∧ Q (.bl b) H
theorem call_isiS {X : Cx} : CallR X (.builtin "isinstance") (rIsiS X.K) := by
  intro pins s σ H xs us Q I r h
  obtain ⟨x, tp, cs, t, ws, b, rfl, hT, k, ty, e, q⟩ := h
  obtain ⟨u1, u2, rfl, r1, r2⟩ := vals2 r
  cases (show u2 = Value.ref tp from r2)
  obtain ⟨P, Z, p, hx⟩ := kit_of I r1 ty
  obtain ⟨its, rv, ⟨o, h1, h2, n, h3⟩, _⟩ := I.tuple hT
  have e3 := L2.ClsV.all k rv
  subst e3
  obtain ⟨oc, od, dt, sl⟩ := o
  simp only at h2 h3
  subst h2 h3
  exact PySem.W.kia_tup Z I.kIn p h1 e hx fun tk => ⟨.bl b, H, I.tok tk, rfl, q⟩
def tysOf : List D → Option (List String)
  | [] => some []
  | .ty n :: r => (tysOf r).map (n :: ·)
  | _ :: _ => none
def kitAnyB (T : String) : List String → Option Bool
  | [] => some false
  | n :: r => match kitB T n with
    | some true => some true
    | some false => kitAnyB T r
    | none => none
theorem tys_cls {K : PySem.W.Frag} {G : Hp} {T : String} : ∀ {ys : List D} {ns : List String} {cs : List V} {b : Bool}, tysOf ys = some ns → Reps K G ys cs → kitAnyB T ns = some b → ∃ us, Paired L2.ClsV cs us ∧ PySem.W.kitAny K (.type T) us = some b
  | [], ns, cs, b, h, r, e => by
    unfold Reps at r
    cases h
    subst r
    exact ⟨[], .nil, e⟩
  | y :: ys, ns, cs, b, h, r, e => by
    cases y with
    | ty n =>
      unfold tysOf at h
      cases h2 : tysOf ys with
      | none => rw [h2] at h; cases h
      | some ms =>
        rw [h2] at h
        cases h
        unfold Reps at r
        obtain ⟨v, vr, e1, r1, r2⟩ := r
        subst e1
        unfold Rep at r1
        subst r1
        unfold kitAnyB at e
        cases hk : kitB T n with
        | none => rw [hk] at e; cases e
        | some q =>
          rw [hk] at e
          have ko : PySem.W.kitOne K (.type T) (.type n) = some q := kit_ty hk
          have all : ∃ us, Paired L2.ClsV vr us := by
            clear e ko hk
            induction ys generalizing vr ms with
            | nil => unfold Reps at r2; subst r2; exact ⟨[], .nil⟩
            | cons z zs ih =>
              cases z with
              | ty n2 =>
                unfold tysOf at h2
                cases h3 : tysOf zs with
                | none => rw [h3] at h2; cases h2
                | some _ =>
                  unfold Reps at r2
                  obtain ⟨w, wr, e2, q1, q2⟩ := r2
                  subst e2
                  unfold Rep at q1
                  subst q1
                  obtain ⟨us, hu⟩ := ih _ h3 _ q2
                  exact ⟨.type n2 :: us, .cons (.ty n2) hu⟩
              | _ => cases h2
          cases q with
          | true =>
            obtain ⟨us, hu⟩ := all
            refine ⟨.type n :: us, .cons (.ty n) hu, ?_⟩
            unfold PySem.W.kitAny
            rw [ko]
            exact e
          | false =>
            obtain ⟨us, hu, hb⟩ := tys_cls h2 r2 e
            refine ⟨.type n :: us, .cons (.ty n) hu, ?_⟩
            unfold PySem.W.kitAny
            rw [ko]
            exact hb
    | _ => cases h
def rIsiB (K : PySem.W.Frag) : List V → Hp → VK → Prop := fun xs H Q => rIsiA K xs H Q ∨ rIsiS K xs H Q
theorem call_isiB {X : Cx} : CallR X (.builtin "isinstance") (rIsiB X.K) := call_isiA.or call_isiS
def isiB (x : D) : D → Option Bool
  | .ty b => (tyD x).bind fun a => kitB a b
  | .tup ys => (tysOf ys).bind fun ns => (tyD x).bind fun a => kitAnyB a ns
  | _ => none
theorem cad_isiB : CaD c (rIsiB c.K) fun ds k => ∃ x y, ds = [x, y] ∧ ∃ b, isiB x y = some b ∧ k (.d (.bl b)) := by
  intro B G H σ δ rs vs ds Ψ Q F h e hf k
  obtain ⟨x, y, ed, b, hb, q⟩ := hf
  cases y with
  | ty n => exact .inl (cad_isi B G H σ δ rs vs ds Ψ Q F h e ⟨x, .ty n, ed, b, hb, q⟩ k)
  | tup ys =>
    subst ed
    obtain ⟨r, w, r2, w2, er, ew, e3, e4, h3, h4⟩ := views_two e h
    subst er ew
    have hb : ((tysOf ys).bind fun ns => (tyD x).bind fun a => kitAnyB a ns) = some b := hb
    cases hn : tysOf ys with
    | none => rw [hn] at hb; cases hb
    | some ns =>
      cases ht : tyD x with
      | none => rw [hn, ht] at hb; cases hb
      | some T =>
        rw [hn, ht] at hb
        obtain ⟨a, cs, ev, ha, hr⟩ := view_tup F h4 e4
        subst ev
        obtain ⟨us, hu, hk⟩ := tys_cls (K := c.K) hn hr hb
        exact .inr ⟨w, a, cs, .type T, us, b, rfl, ha, hu, tyD_ok F h3 e3 ht, hk, k _ _ G H q (Ex.refl G) (Ex.refl H) F (rv_bl (K := c.K))⟩
  | _ => cases hb
end
end DL

/-! DL20: the closers that the walk uses for DL18, DL19. -/
namespace DL
open PySem PySem.Spec PyProof.Rows L2
section
variable {δ : List Sl} {i : Nat} {a : Addr} {x y : D} {n : Int} {ds : List D} {kds : List (Key × D)} {key : Key} {j : Nat} {Q : Prop}
theorem ex_setBL {P : List D → Nat → Prop} (h1 : δ[i]? = some (.own a (.lst ds))) (h2 : ixN ds.length n = some j) (q : P ds j) :
    (∃ n' ds' j', R.d (.int n) = .d (.int n') ∧ δ[i]? = some (.own a (.lst ds')) ∧ ixN ds'.length n' = some j' ∧ P ds' j') ∨ Q := .inl ⟨n, ds, j, rfl, h1, h2, q⟩
theorem ex_setBD {P : Key → List (Key × D) → Prop} (h1 : δ[i]? = some (.own a (.dct kds))) (hk : dKey x = some key) (h2 : kds.length < 100000) (q : P key kds) :
    Q ∨ ∃ y' key' kds', R.d x = .d y' ∧ dKey y' = some key' ∧ δ[i]? = some (.own a (.dct kds')) ∧ kds'.length < 100000 ∧ P key' kds' := .inr ⟨x, key, kds, rfl, hk, h1, h2, q⟩
theorem ex_popAt {P : List D → Nat → D → Prop} {m : Nat} (h1 : δ[i]? = some (.own a (.lst ds))) (h2 : ds.length ≤ 100000) (h3 : ds[m]? = some x) (q : P ds m x) :
    ∃ (ds' : List D) (n' : Nat) (x' : D), [R.d (.int (m : Nat))] = [.d (.int (n' : Nat))] ∧ δ[i]? = some (.own a (.lst ds')) ∧ ds'.length ≤ 100000 ∧ ds'[n']? = some x' ∧ P ds' n' x' := ⟨ds, m, x, rfl, h1, h2, h3, q⟩
end
end DL

/-! DL21: objects of classes of one's own: fields read and written, made, asked. -/
namespace DL
open PySem PySem.Spec PyProof.Rows L2
open Evl (Ex)
theorem view_obj {K : PySem.W.Frag} {B G H : Hp} {σ : St} {δ : List Sl} {r : R} {v : V} {C : Addr} {fs : List (Str × D)} (F : Frame K B G H σ δ) (h : RW K G r v) (e : view δ r = some (.obj C fs)) : ∃ a dx fvs, v = .ref a ∧ H a = some (.ins C dx fvs) ∧ RepF K G fs fvs := by
  cases r with
  | d y =>
    have e' : y = .obj C fs := Option.some.inj e
    subst e'
    have h' : Rep K G (.obj C fs) v := h
    unfold Rep at h'
    obtain ⟨a, dx, xs, e1, h1, h2⟩ := h'
    exact ⟨a, dx, xs, e1, F.exG _ _ h1, h2⟩
  | own a y => exact h.elim
  | deep a y gs => cases e
  | bor i a =>
    have e1 : v = .ref a := h
    obtain ⟨dx, xs, h3, h4⟩ := (view_own F e).1
    exact ⟨a, dx, xs, e1, h3, h4⟩
theorem repF_look {K : PySem.W.Frag} {G : Hp} {f : Str} {x : D} : ∀ {fs : List (Str × D)} {vs : List (Str × V)}, RepF K G fs vs → fs.lookup f = some x → ∃ v, vs.lookup f = some v ∧ Rep K G x v
  | [], vs, h, e => by cases e
  | (g, d) :: fs, vs, h, e => by
    unfold RepF at h
    obtain ⟨v, vr, e1, h1, h2⟩ := h
    subst e1
    rw [List.lookup_cons] at e ⊢
    cases q : f == g with
    | true => rw [q] at e; cases e; exact ⟨v, rfl, h1⟩
    | false => rw [q] at e; exact repF_look h2 e
theorem repF_none {K : PySem.W.Frag} {G : Hp} {f : Str} : ∀ {fs : List (Str × D)} {vs : List (Str × V)}, RepF K G fs vs → fs.lookup f = none → vs.lookup f = none
  | [], vs, h, e => by unfold RepF at h; subst h; rfl
  | (g, d) :: fs, vs, h, e => by
    unfold RepF at h
    obtain ⟨v, vr, e1, h1, h2⟩ := h
    subst e1
    rw [List.lookup_cons] at e ⊢
    cases q : f == g with
    | true => rw [q] at e; cases e
    | false => rw [q] at e; exact repF_none h2 e
theorem repF_len {K : PySem.W.Frag} {G : Hp} : ∀ {fs : List (Str × D)} {vs : List (Str × V)}, RepF K G fs vs → vs.length = fs.length
  | [], vs, h => by unfold RepF at h; subst h; rfl
  | (k, d) :: ds, vs, h => by
    unfold RepF at h
    obtain ⟨v, vr, e, _, h2⟩ := h
    subst e
    simp [repF_len h2]
section
variable {c : Cd} {p : Bool} {δ : List Sl} {te tv : TE} {f : Str}
/-- e.f -/
theorem we_fld {Φ : R → List Sl → Prop} (h : WE c p te δ fun r δ1 => ∃ C fs x, view δ1 (frz r) = some (.obj C fs) ∧ Cls c.K C ∧ NoAttr c.K C f ∧ fs.lookup f = some x ∧ Φ (.d x) δ1) : WE c p (tFld c.K te f) δ Φ := by
  intro B G H σ Q F x k
  refine h B G H σ _ F x fun r1 δ1 v1 G1 H1 w1 e1 F1 rv1 p1 => ?_
  obtain ⟨G1', e1', F1', rw1⟩ := rv1.weak F1
  obtain ⟨C, fs, y, hv, hc, hn, hl, q⟩ := w1
  obtain ⟨a, dx, fvs, ev, ha, hr⟩ := view_obj F1' rw1 hv
  obtain ⟨v, h3, h4⟩ := repF_look hr hl
  exact ⟨a, C, dx, fvs, v, ev, ha, hc, hn, h3, k _ δ1 _ G1' H1 q (e1.trans e1') F1' h4 p1⟩
end
section
variable {K : PySem.W.Frag} {B G G' H H' : Hp} {σ : St} {δ : List Sl}
/-- the call of a def that may raise, objects lent: where it raises they are as they were -/
theorem callX_core {cn : Cn} {S : SpX} {Ψx : Nat → D → List Sl → Prop} {Φ : R → List Sl → Prop} {rs : List R} {as : List Sl} {vs : List V} {Q : VK} {X : XK} (F : Frame K B G H σ δ) (hv : RVs K G rs vs) (hto : toAs δ rs = some as) (nd : (owned as).Nodup)
    (hS : ∀ (P : R → List Sl → Prop) (Y : Nat → D → Prop), (∀ r as', ownOut r → Φ r (backAs δ rs as') → P r as') → (∀ nm x, Ψx nm x (backAs δ rs (lose as)) → Y nm x) → S as P Y)
    (k : ∀ r δ' v G' H', Φ r δ' → Ex G G' → Frame K B G' H' σ δ' → RV K B G' H' δ' r v → (noBor rs = true → δ' = δ ∧ Ex H H') → Q v H')
    (kx : ∀ nm x (d : Addr) v G' H', Ψx nm x (backAs δ rs (lose as)) → Ex G G' → Frame K B G' H' σ (backAs δ rs (lose as)) → G' d = some (.xd v) → RepF K G' (xfs (cn.fl nm) x) v → X (.ref (cn.ad nm)) (some d) H') : liftX K cn S vs H Q X := by
  obtain ⟨Bc, F0, hb⟩ := call_in F hv hto nd
  refine ⟨Bc, G, as, F0, hS _ _ (fun r as' hr hΦ v G' H' eG F' rv => ?_) fun nm y q d v G' H' eG F' hd hr => ?_⟩
  · obtain ⟨F2, hr2, hn⟩ := hb as' G' H' eG F'
    exact k r _ v G' H' hΦ eG F2 (hr2 r v hr rv) hn
  · exact kx nm y d v G' H' q eG (hb _ G' H' eG F').1 hd hr
end
section
variable {cn : Cn} {Ψ : Nat → D → List Sl → Prop} {Wx : WX} {δ : List Sl} {tr : TA}
/-- a call of a def that may raise, objects lent -/
theorem we_callXO {K : PySem.W.Frag} {S : SpX} {Φ : R → List Sl → Prop} (h : WA (cX K cn Ψ Wx) false tr δ fun rs δ1 => ∃ as, toAs δ1 rs = some as ∧ (owned as).Nodup ∧
    ∀ (P : R → List Sl → Prop) (Y : Nat → D → Prop), (∀ r as', ownOut r → Φ r (backAs δ1 rs as') → P r as') → (∀ nm x, Ψ nm x (backAs δ1 rs (lose as)) → Y nm x) → S as P Y) : WE (cX K cn Ψ Wx) false (tCallS (liftX K cn S) (L2.WE Wx) tr) δ Φ := by
  intro B G H σ Q F x k
  refine h B G H σ _ F x fun rs δ1 vs G1 H1 w e1 F1 rv p1 => ?_
  obtain ⟨as, hto, nd, hS⟩ := w
  exact callX_core F1 rv hto nd hS (fun r δ' v G' H' q eG F' rv' n => k r δ' v G' H' q (e1.trans eG) F' rv' fun z => nomatch z)
    fun nm y d v G' H' q eG F' hd hr => x nm y _ σ d v G' H' q (e1.trans eG) F' hd hr
end
end DL

/-! DL22: methods, objects made, fields written. -/
namespace DL
open PySem PySem.Spec PyProof.Rows L2
open Evl (Ex)
section
variable {X : Cx} {CX : CXT} {k : Nat} {f C : Addr} {fd : FuncData} {ps : List Str} {sp : Sp} {E : L2.St → XK} {x m : Str} {p pos apos : Pos} {e o : Expr} {es : List Expr} {ta : TE} {t : TA}
theorem runSG {pins : List (Addr × Obj)} {σ : L2.St} {H : Hp} {s : Shared} {Q : VK} {us : List Value} {vs : List V} (F : FnG X.prog X.w X.K X.mg X.base CX k f fd ps sp) (g : GOk X.base X.A) (hr : Room k X.A) (hb : Binds X.K fd ps []) (hx : PassesAt CX X σ (E σ))
    (I : Inv X pins σ H s) (r : Vals vs us) (h : sp vs H Q (E σ)) : wpAny (model X.prog X.w) X.A (call (.ref f) us) (EP X pins σ Q) X.xe s := by
  have many : us.length = ps.length := by rw [← r.length]; exact F.len _ _ _ _ h
  have b := hb s us I.kIn (by rw [List.append_nil]; exact many)
  rw [List.append_nil] at b
  refine wpAny_call (codeAny_mono (F.run X.A X.stack s H ⟨us, []⟩ us vs Q (E σ) g hr I.env0 b r h) fun res s' q' => ?_)
  match res, q' with
  | .error ex, q' => exact hx pins H s ex s' I q'
  | .ok (.ret u), q' => exact I.after q'
/-- o.m(e, ..) -/
def tMethS (m : Str) (sp : Sp) (E : L2.St → XK) (ta : TE) (C : Addr) (t : TA) : TE := fun σ H Q => ta σ H fun x H1 => ∃ a dx fs, x = .ref a ∧ H1 a = some (.ins C dx fs) ∧ fs.lookup m = none ∧ t σ H1 fun vs H2 => sp (x :: vs) H2 Q (E σ)
theorem pe_methSG {pl : Sem Bool} (he : PE X o ta) (c : Cls X.K C) (hm : Meth X.K C m f) (F : FnG X.prog X.w X.K X.mg X.base CX k f fd ps sp) (g : GOk X.base X.A) (hr : Room k X.A) (hb : Binds X.K fd ps []) (hx : ∀ σ, PassesAt CX X σ (E σ)) (ha : PA X (e :: es) t)
    (hst : starEach (e :: es) X.env = (false, eval e X.env) :: starEach es X.env := by rfl) (hpl : (backTo pos (starEach es X.env)).any (·.1) = false := by rfl)
    (ht : eval (.Call (.Attribute o m apos) (e :: es) [] pos) X.env = (do
      let ov ← eval o X.env
      standAt apos.atName
      let (f, first) ← holding [ov] (getMethod ov m pl)
      callWith pos f first (backTo pos (starEach (e :: es) X.env)) (backToKw pos (keywordEach [] X.env))) := by rfl) :
    PE X (.Call (.Attribute o m apos) (e :: es) [] pos) (tMethS m sp E ta C t) := by
  refine ⟨fun pins s σ H Q I h => ?_⟩
  refine PySem.W.methodCall_KW (pl := pl) (thn (he.run pins s σ H _ I h) fun u s1 ⟨x, H1, I1, rx, a, dx, fs, ex, ea, l, q⟩ => ?_) ht
  subst ex
  obtain rfl : u = Value.ref a := rx
  refine getmeth_ok I1 ea c hm l ?_
  refine PySem.W.callWith_K (first := [.ref a]) (h₀ := X.base) I.ok.mod.kin hm.kp (thn (ha.run pos pins s1 σ H1 _ I1 q) fun us s2 ⟨vs, H2, I2, r, q2⟩ => ⟨I2.kIn, ?_⟩) hst hpl
  exact runSG (us := .ref a :: us) (vs := .ref a :: vs) F g hr hb (hx σ) I2 (.cons rfl r) q2
theorem pe_methSG0 {pl : Sem Bool} (he : PE X o ta) (c : Cls X.K C) (hm : Meth X.K C m f) (F : FnG X.prog X.w X.K X.mg X.base CX k f fd ps sp) (g : GOk X.base X.A) (hr : Room k X.A) (hb : Binds X.K fd ps []) (hx : ∀ σ, PassesAt CX X σ (E σ))
    (ht : eval (.Call (.Attribute o m apos) [] [] pos) X.env = (do
      let ov ← eval o X.env
      standAt apos.atName
      let (f, first) ← holding [ov] (getMethod ov m pl)
      callWith pos f first (backTo pos (starEach [] X.env)) (backToKw pos (keywordEach [] X.env))) := by rfl) :
    PE X (.Call (.Attribute o m apos) [] [] pos) (tMethS m sp E ta C tNil) := by
  refine ⟨fun pins s σ H Q I h => ?_⟩
  refine PySem.W.methodCall_KW (pl := pl) (thn (he.run pins s σ H _ I h) fun u s1 ⟨x, H1, I1, rx, a, dx, fs, ex, ea, l, q⟩ => ?_) ht
  subst ex
  obtain rfl : u = Value.ref a := rx
  refine getmeth_ok I1 ea c hm l ?_
  exact PySem.W.callWith_K0 (first := [.ref a]) I1.kIn hm.kp (runSG (us := [.ref a]) (vs := [.ref a]) F g hr hb (hx σ) I1 (.cons rfl .nil) q)
/-- C(e, ..): a new object, then its __init__ -/
def tMakeS (C : Addr) (sp : Sp) (E : L2.St → XK) (t : TA) : TE := fun σ H Q => t σ H fun vs H1 => ∀ x dx, H1 x = none → H1 dx = none → dx ≠ x →
  sp (.ref x :: vs) (upd (upd H1 dx (.own x)) x (.ins C dx [])) (fun v H2 => v = .non ∧ Q (.ref x) H2) (E σ)
theorem run_makeG {pins : List (Addr × Obj)} {σ : L2.St} {H : Hp} {s : Shared} {Q : VK} {us : List Value} {vs : List V} (M : Mk X.K C f) (F : FnG X.prog X.w X.K X.mg X.base CX k f fd ps sp) (g : GOk X.base X.A) (hr : Room (k + 1) X.A) (hb : Binds X.K fd ps [])
    (hx : PassesAt CX X σ (E σ)) (I : Inv X pins σ H s) (r : Vals vs us)
    (h : ∀ x dx, H x = none → H dx = none → dx ≠ x → sp (.ref x :: vs) (upd (upd H dx (.own x)) x (.ins C dx [])) (fun v H2 => v = .non ∧ Q (.ref x) H2) (E σ)) :
    wpAny (model X.prog X.w) X.A (call (.ref C) us) (EP X pins σ Q) X.xe s := by
  have wish := h (s.heap.objs.size + 1) s.heap.objs.size (I.hok.fresh (Nat.le_succ _)) (I.hok.fresh (Nat.le_refl _)) (Nat.ne_of_lt (Nat.lt_succ_self _))
  have J := Inv.made (C := C) I
  have r2 : Vals (V.ref (s.heap.objs.size + 1) :: vs) (Value.ref (s.heap.objs.size + 1) :: us) := .cons rfl r
  have many : (Value.ref (s.heap.objs.size + 1) :: us).length = ps.length := by
    have z := r2.length
    rw [F.len _ _ _ _ wish] at z
    exact z.symm
  have b := hb _ (Value.ref (s.heap.objs.size + 1) :: us) J.kIn (by rw [List.append_nil]; exact many)
  rw [List.append_nil] at b
  refine wpAny_call (make_map (f := f) I.kIn M.makes M.init (beq_iff_eq.mp M.fn) (codeAny_mono (F.run _ X.stack _ _ ⟨Value.ref (s.heap.objs.size + 1) :: us, []⟩ (Value.ref (s.heap.objs.size + 1) :: us) _ _ (E σ) g (hr.make C us [])
    (J.env0.make C us []) b r2 wish) fun res s' hq' => ?_))
  match res, hq' with
  | .error ex, hq' => exact hx pins _ _ ex s' J hq'
  | .ok (.ret u), hq' =>
    obtain ⟨v, H', I3, rv, ev, q3⟩ := J.after hq'
    subst ev
    exact ⟨rv, ⟨V.ref (s.heap.objs.size + 1), H', I3, rfl, q3⟩⟩
theorem pe_makeSG (M : Mk X.K C f) (F : FnG X.prog X.w X.K X.mg X.base CX k f fd ps sp) (g : GOk X.base X.A) (hr : Room (k + 1) X.A) (hg : Gl X x) (hm : X.mg x = some (.ref C)) (hb : Binds X.K fd ps []) (hx : ∀ σ, PassesAt CX X σ (E σ))
    (ha : PA X (e :: es) t) (hdb : (x == ("__debug__" : Str)) = false := by decide) (he : starEach (e :: es) X.env = (false, eval e X.env) :: starEach es X.env := by rfl) (hpl : (backTo pos (starEach es X.env)).any (·.1) = false := by rfl) :
    PE X (.Call (.Name x p) (e :: es) [] pos) (tMakeS C sp E t) := by
  refine ⟨fun pins s σ H Q I h => ?_⟩
  refine wpAny_Call_Name_kw (ld_glob I hg hm ?_ hdb)
  refine PySem.W.callWith_K (h₀ := X.base) I.ok.mod.kin M.kp (thn (ha.run pos pins s σ H _ I h) fun us s1 ⟨vs, H1, I1, r, q⟩ => ⟨I1.kIn, ?_⟩) he hpl
  exact run_makeG M F g hr hb (hx σ) I1 r q
end
end DL

/-! DL23: the words of methods, of objects made, of fields written. -/
namespace DL
open PySem PySem.Spec PyProof.Rows L2
open Evl (Ex)
/-! ### a slot more at the end -/
section
variable {K : PySem.W.Frag} {B G G' H H' : Hp} {σ : St} {δ ε : List Sl}
theorem SlsR.split : ∀ {δ ε : List Sl} {σ τ : St}, σ.length = δ.length → SlsR K G H (δ ++ ε) (σ ++ τ) → SlsR K G H δ σ ∧ SlsR K G H ε τ
  | [], ε, σ, τ, hl, h => by
    cases σ with
    | nil => exact ⟨rfl, h⟩
    | cons _ _ => cases hl
  | s :: δ, ε, σ, τ, hl, h => by
    cases σ with
    | nil => cases hl
    | cons ov σ =>
      obtain ⟨ov', σr, e, h1, h2⟩ := h
      cases e
      obtain ⟨q1, q2⟩ := SlsR.split (by simpa using hl) h2
      exact ⟨⟨ov, σ, rfl, h1, q1⟩, q2⟩
/-- a new object of one's own, as a slot more -/
theorem frame_more {a : Addr} {x : D} (F : Frame K B G H σ δ) (h : OwnR K G H a x) (hB : B a = none) (hG : G a = none) (hO : a ∉ owned δ) : Frame K B G H (σ ++ [some (.ref a)]) (δ ++ [.own a x]) := by
  have e : owned (δ ++ [.own a x]) = owned δ ++ [a] := by rw [owned_append]; rfl
  refine ⟨F.exB, F.exG, F.dis, F.sl.append ⟨_, _, rfl, ⟨rfl, h⟩, rfl⟩, fun b hb => ?_, ?_⟩
  · rw [e] at hb
    rcases List.mem_append.mp hb with q | q
    · exact F.own b q
    · rw [List.mem_singleton.mp q]; exact ⟨hB, hG⟩
  · rw [e]
    refine List.nodup_append.mpr ⟨F.nd, by simp, fun b hb c hc => ?_⟩
    rw [List.mem_singleton.mp hc]
    exact fun z => hO (by rw [← z]; exact hb)
/-- a slot's own, as what is handed on -/
inductive OutS (a : Addr) : Sl → R → Prop
  | own (x : D) : OutS a (.own a x) (.own a x)
  | deep (x : D) (gs : List (Addr × D)) : OutS a (.deep a x gs) (.deep a x gs)
theorem frame_less {ov : Option V} {s : Sl} (hl : σ.length = δ.length) (F : Frame K B G H (σ ++ [ov]) (δ ++ [s])) : Frame K B G H σ δ ∧ ∀ a r, OutS a s r → ov = some (.ref a) ∧ RV K B G H δ r (.ref a) := by
  obtain ⟨h1, h2⟩ := SlsR.split hl F.sl
  have sub : (owned δ).Sublist (owned (δ ++ [s])) := by rw [owned_append]; exact List.sublist_append_left _ _
  refine ⟨⟨F.exB, F.exG, F.dis, h1, fun b hb => F.own b (sub.subset hb), F.nd.sublist sub⟩, fun a r e => ?_⟩
  obtain ⟨ov', σr, e2, h3, _⟩ := h2
  cases e2
  have eo : owned (δ ++ [s]) = owned δ ++ ads s := by rw [owned_append, owned_cons]; simp [owned]
  have nd := F.nd
  rw [eo] at nd
  have nd' := List.nodup_append.mp nd
  have all : ∀ b ∈ ads s, B b = none ∧ G b = none ∧ b ∉ owned δ := fun b hb => by
    have hb' : b ∈ owned (δ ++ [s]) := by rw [eo]; exact List.mem_append_right _ hb
    exact ⟨(F.own b hb').1, (F.own b hb').2, fun z => nd'.2.2 b z b hb rfl⟩
  cases e with
  | own x =>
    have ha := all a (List.mem_singleton.mpr rfl)
    exact ⟨h3.1, rfl, h3.2, ha.1, ha.2.1, ha.2.2⟩
  | deep x gs => exact ⟨h3.1, rfl, h3.2.1, h3.2.2, all, nd'.2.1⟩
theorem toAs_app : ∀ {rs : List R} {as : List Sl}, toAs δ rs = some as → toAs (δ ++ ε) rs = some as
  | [], as, e => e
  | .d x :: rs, as, e => by
    unfold toAs at e ⊢
    cases q : toAs δ rs with
    | none => rw [q] at e; cases e
    | some es => rw [q] at e; rw [toAs_app q]; exact e
  | .own a x :: rs, as, e => by cases e
  | .deep a x gs :: rs, as, e => by cases e
  | .bor i a :: rs, as, e => by
    unfold toAs at e ⊢
    split at e
    · rename_i b x hx
      have hlt : i < δ.length := (List.getElem?_eq_some_iff.mp hx).1
      rw [List.getElem?_append_left hlt, hx]
      dsimp only
      split at e
      · rename_i hab
        rw [if_pos hab]
        cases q : toAs δ rs with
        | none => rw [q] at e; cases e
        | some es => rw [q] at e; rw [toAs_app q]; exact e
      · cases e
    · rename_i b x gs hx
      have hlt : i < δ.length := (List.getElem?_eq_some_iff.mp hx).1
      rw [List.getElem?_append_left hlt, hx]
      dsimp only
      split at e
      · rename_i hab
        rw [if_pos hab]
        cases q : toAs δ rs with
        | none => rw [q] at e; cases e
        | some es => rw [q] at e; rw [toAs_app q]; exact e
      · cases e
    · cases e
theorem toAs_lt (F : Frame K B G H σ δ) {rs : List R} {as : List Sl} {i : Nat} {a : Addr} (h : toAs δ rs = some as) (m : R.bor i a ∈ rs) : i < δ.length := by
  obtain ⟨⟨s, hs⟩, _⟩ := toAs_at F h m
  exact (List.getElem?_eq_some_iff.mp hs).1
theorem clr_len (rs : List R) : (clr δ rs).length = δ.length := clr_size rs
theorem clr_app : ∀ {rs : List R}, (∀ i a, R.bor i a ∈ rs → i < δ.length) → clr (δ ++ ε) rs = clr δ rs ++ ε
  | [], _ => rfl
  | .d x :: rs, h => clr_app (rs := rs) fun i a m => h i a (List.mem_cons_of_mem _ m)
  | .own a x :: rs, h => clr_app (rs := rs) fun i a m => h i a (List.mem_cons_of_mem _ m)
  | .deep a x gs :: rs, h => clr_app (rs := rs) fun i a m => h i a (List.mem_cons_of_mem _ m)
  | .bor i a :: rs, h => by
    show (clr (δ ++ ε) rs).set i .no = (clr δ rs).set i .no ++ ε
    rw [clr_app (rs := rs) fun i a m => h i a (List.mem_cons_of_mem _ m), List.set_append_left _ _ (by rw [clr_len]; exact h i a List.mem_cons_self)]
theorem fill_len (rs : List R) (as : List Sl) (δ : List Sl) : (fill δ rs as).length = δ.length := fill_size rs as δ
theorem fill_app : ∀ (rs : List R) (as : List Sl) (δ : List Sl), (∀ i a, R.bor i a ∈ rs → i < δ.length) → fill (δ ++ ε) rs as = fill δ rs as ++ ε
  | [], as, δ, _ => by cases as <;> rfl
  | .d x :: rs, [], δ, _ => rfl
  | .own a x :: rs, [], δ, _ => rfl
  | .deep a x gs :: rs, [], δ, _ => rfl
  | .bor i a :: rs, [], δ, _ => rfl
  | .d x :: rs, s :: as, δ, h => fill_app rs as δ fun i a m => h i a (List.mem_cons_of_mem _ m)
  | .own a x :: rs, s :: as, δ, h => fill_app rs as δ fun i a m => h i a (List.mem_cons_of_mem _ m)
  | .deep a x gs :: rs, s :: as, δ, h => fill_app rs as δ fun i a m => h i a (List.mem_cons_of_mem _ m)
  | .bor i a :: rs, s :: as, δ, h => by
    show (fill (δ ++ ε) rs as).set i s = (fill δ rs as).set i s ++ ε
    rw [fill_app rs as δ fun i a m => h i a (List.mem_cons_of_mem _ m), List.set_append_left _ _ (by rw [fill_len]; exact h i a List.mem_cons_self)]
theorem clr_more {n : Nat} {a : Addr} {s : Sl} {rs : List R} (hn : n = δ.length) (h : ∀ i a, R.bor i a ∈ rs → i < δ.length) : clr (δ ++ [s]) (.bor n a :: rs) = clr δ rs ++ [.no] := by
  show (clr (δ ++ [s]) rs).set n .no = _
  rw [clr_app h, List.set_append_right _ _ (by rw [clr_len, hn]; exact Nat.le_refl _), clr_len, hn, Nat.sub_self]
  rfl
theorem back_more {n : Nat} {a : Addr} {s s' : Sl} {rs : List R} {as : List Sl} (hn : n = δ.length) (h : ∀ i a, R.bor i a ∈ rs → i < δ.length) : backAs (δ ++ [s]) (.bor n a :: rs) (s' :: as) = backAs δ rs as ++ [s'] := by
  unfold backAs
  rw [clr_more hn h]
  show (fill (clr δ rs ++ [.no]) rs as).set n s' = _
  rw [fill_app rs as _ fun i a m => by rw [clr_len]; exact h i a m]
  rw [List.set_append_right _ _ (by rw [fill_len, clr_len, hn]; exact Nat.le_refl _), fill_len, clr_len, hn, Nat.sub_self]
  rfl
end
section
variable {c : Cd} {cn : Cn} {Ψ : Nat → D → List Sl → Prop} {Wx : WX} {δ : List Sl} {te tv : TE} {tr : TA} {C : Addr} {m : Str} {Φ : R → List Sl → Prop}
theorem frame_obj {K : PySem.W.Frag} {B G H : Hp} {σ : L2.St} {x dx : Addr} (F : Frame K B G H σ δ) (hx : H x = none) (hd : H dx = none) (hne : dx ≠ x) : Frame K B G (upd (upd H dx (.own x)) x (.ins C dx [])) (σ ++ [some (.ref x)]) (δ ++ [.own x (.obj C [])]) := by
  obtain ⟨h1, h2, h3⟩ := F.fresh hx
  have hx2 : (upd H dx (.own x)) x = none := by rw [upd_ne (fun z => hne z.symm)]; exact hx
  have F2 := (F.ex (Ex.new (o := .own x) hd)).ex (Ex.new (o := .ins C dx []) hx2)
  exact frame_more F2 ⟨dx, [], upd_same, by unfold RepF; rfl⟩ h1 h2 h3
theorem make_in {K : PySem.W.Frag} {B G1 H1 : Hp} {σ : L2.St} {δ1 : List Sl} {rs : List R} {as : List Sl} {vs : List V} {x dx : Addr} (F1 : Frame K B G1 H1 σ δ1) (rv : RVs K G1 rs vs) (hto : toAs δ1 rs = some as) (nd : (owned as).Nodup) (hx : H1 x = none) :
    (∀ i a, R.bor i a ∈ rs → i < δ1.length) ∧ toAs (δ1 ++ [.own x (.obj C [])]) (.bor δ1.length x :: rs) = some (.own x (.obj C []) :: as) ∧ (owned (.own x (.obj C []) :: as)).Nodup := by
  have hat : (δ1 ++ [Sl.own x (.obj C [])])[δ1.length]? = some (.own x (.obj C [])) := by simp
  refine ⟨fun i a hm => toAs_lt F1 hto hm, ?_, ?_⟩
  · unfold toAs
    rw [hat]
    dsimp only
    rw [if_pos rfl, toAs_app hto]
    rfl
  · show (x :: owned as).Nodup
    refine List.nodup_cons.mpr ⟨fun z => ?_, nd⟩
    rw [toAs_owned hto] at z
    obtain ⟨i, a, s, hi, hs, hm⟩ := lent_mem z
    exact (F1.fresh hx).2.2 (owned_getA hs hm)
/-- C(..), its __init__ may raise -/
theorem make_core {S : SpX} {Ψx : Nat → D → List Sl → Prop} {K : PySem.W.Frag} {B G1 H1 : Hp} {σ : L2.St} {δ1 : List Sl} {rs : List R} {as : List Sl} {vs : List V} {Q : VK} {E : XK} {x dx : Addr} (F1 : Frame K B G1 H1 σ δ1) (rv : RVs K G1 rs vs) (hto : toAs δ1 rs = some as) (nd : (owned as).Nodup)
    (hx : H1 x = none) (hd : H1 dx = none) (hne : dx ≠ x)
    (hS : ∀ (P : R → List Sl → Prop) (Y : Nat → D → Prop), (∀ s r as', OutS x s r → Φ r (backAs δ1 rs as') → P (.d .non) (s :: as')) → (∀ nm y, Ψx nm y δ1 → Y nm y) → S (.own x (.obj C []) :: as) P Y)
    (k : ∀ r δ' v G' H', Φ r δ' → Ex G1 G' → Frame K B G' H' σ δ' → RV K B G' H' δ' r v → Q v H')
    (kx : ∀ nm y (d : Addr) v G' H', Ψx nm y δ1 → Ex G1 G' → Frame K B G' H' σ δ1 → G' d = some (.xd v) → RepF K G' (xfs (cn.fl nm) y) v → E (.ref (cn.ad nm)) (some d) H') :
    liftX K cn S (.ref x :: vs) (upd (upd H1 dx (.own x)) x (.ins C dx [])) (fun v H2 => v = .non ∧ Q (.ref x) H2) E := by
  have F3 := frame_obj (C := C) F1 hx hd hne
  obtain ⟨hlt, hto', nd'⟩ := make_in (C := C) (dx := dx) F1 rv hto nd hx
  have hlen : σ.length = δ1.length := F1.sl.len
  have el : backAs (δ1 ++ [.own x (.obj C [])]) (.bor δ1.length x :: rs) (lose (.own x (.obj C []) :: as)) = δ1 ++ [.no] := by
    show backAs _ _ (.no :: as) = _
    rw [back_more rfl hlt, toAs_back hto]
  refine callX_core (Ψx := fun nm y δ2 => Ψx nm y δ1) (Φ := fun r δ2 => r = .d .non ∧ ∃ s r' δ3, OutS x s r' ∧ δ2 = δ3 ++ [s] ∧ Φ r' δ3) F3 (rs := .bor δ1.length x :: rs) (vs := .ref x :: vs) ⟨.ref x, vs, rfl, rfl, rv⟩ hto' nd'
    (fun P Y hP hY => hS P Y (fun s r as' ho q => hP _ _ trivial ⟨rfl, s, r, _, ho, back_more rfl hlt, q⟩) hY) (fun r δ2 v G' H' q eG F' rv' n => ?_) fun nm y d v G' H' q eG F' h1 h2 => ?_
  · obtain ⟨er, s, r', δ3, ho, ed, q⟩ := q
    subst er ed
    have ev : v = .non := by have z : Rep K G' .non v := rv'; unfold Rep at z; exact z
    have hl : σ.length = δ3.length := by have z := F'.sl.len; simpa using z
    obtain ⟨F4, ow⟩ := frame_less hl F'
    exact ⟨ev, k _ δ3 _ G' H' q eG F4 (ow x r' ho).2⟩
  · rw [el] at F'
    exact kx nm y d v G' H' q eG (frame_less hlen F').1 h1 h2
theorem we_makeX0 {S : SpX} {E : L2.St → XK} (h : WA c false tr δ fun rs δ1 => ∃ as, toAs δ1 rs = some as ∧ (owned as).Nodup ∧
    ∀ (x : Addr) (P : R → List Sl → Prop) (Y : Nat → D → Prop), (∀ s r as', OutS x s r → Φ r (backAs δ1 rs as') → P (.d .non) (s :: as')) → S (.own x (.obj C []) :: as) P Y) : WE c false (tMakeS C (liftX c.K cn S) E tr) δ Φ := by
  intro B G H σ Q F xk k
  refine h B G H σ _ F xk fun rs δ1 vs G1 H1 w e1 F1 rv p1 => ?_
  obtain ⟨as, hto, nd, hS⟩ := w
  intro x dx hx hd hne
  exact make_core (Φ := Φ) (Ψx := fun _ _ _ => False) F1 rv hto nd hx hd hne (fun P Y h1 _ => hS x P Y h1) (fun r δ' v G' H' q eG F' rv' => k r δ' v G' H' q (e1.trans eG) F' rv' fun z => nomatch z)
    fun nm y d v G' H' q => q.elim
/-- o.m(..) -/
theorem we_meth {S : SpD} {E : L2.St → XK} (h : WE c false te δ fun r1 δ1 => (∃ fs, view δ1 (frz r1) = some (.obj C fs) ∧ fs.lookup m = none) ∧ WA c false tr δ1 fun rs δ2 => ∃ as, toAs δ2 (frz r1 :: rs) = some as ∧ (owned as).Nodup ∧
    ∀ P : R → List Sl → Prop, (∀ r as', ownOut r → Φ r (backAs δ2 (frz r1 :: rs) as') → P r as') → S as P) : WE c false (tMethS m (lift c.K S) E te C tr) δ Φ := by
  intro B G H σ Q F xk k
  refine h B G H σ _ F xk fun r1 δ1 v1 G1 H1 w1 e1 F1 rv1 p1 => ?_
  obtain ⟨⟨fs, hv, hl⟩, w1⟩ := w1
  obtain ⟨G1', e1', F1', rw1⟩ := rv1.weak F1
  obtain ⟨a, dx, fvs, ev, ha, hr⟩ := view_obj F1' rw1 hv
  refine ⟨a, dx, fvs, ev, ha, repF_none hr hl, ?_⟩
  refine w1 B G1' H1 σ _ F1' (c.mono _ _ _ (e1.trans e1') xk) fun rs δ2 vs G2 H2 w2 e2 F2 rv2 p2 => ?_
  obtain ⟨as, hto, nd, hS⟩ := w2
  exact call_core F2 (rs := frz r1 :: rs) (vs := v1 :: vs) ⟨v1, vs, rfl, rw1.mono e2, rv2⟩ hto nd hS fun r δ' v G' H' q eG F' rv' n => k r δ' v G' H' q ((e1.trans e1').trans (e2.trans eG)) F' rv' fun z => nomatch z
theorem we_methX0 {S : SpX} {E : L2.St → XK} (h : WE c false te δ fun r1 δ1 => (∃ fs, view δ1 (frz r1) = some (.obj C fs) ∧ fs.lookup m = none) ∧ WA c false tr δ1 fun rs δ2 => ∃ as, toAs δ2 (frz r1 :: rs) = some as ∧ (owned as).Nodup ∧
    ∀ (P : R → List Sl → Prop) (Y : Nat → D → Prop), (∀ r as', ownOut r → Φ r (backAs δ2 (frz r1 :: rs) as') → P r as') → S as P Y) : WE c false (tMethS m (liftX c.K cn S) E te C tr) δ Φ := by
  intro B G H σ Q F xk k
  refine h B G H σ _ F xk fun r1 δ1 v1 G1 H1 w1 e1 F1 rv1 p1 => ?_
  obtain ⟨⟨fs, hv, hl⟩, w1⟩ := w1
  obtain ⟨G1', e1', F1', rw1⟩ := rv1.weak F1
  obtain ⟨a, dx, fvs, ev, ha, hr⟩ := view_obj F1' rw1 hv
  refine ⟨a, dx, fvs, ev, ha, repF_none hr hl, ?_⟩
  refine w1 B G1' H1 σ _ F1' (c.mono _ _ _ (e1.trans e1') xk) fun rs δ2 vs G2 H2 w2 e2 F2 rv2 p2 => ?_
  obtain ⟨as, hto, nd, hS⟩ := w2
  exact callX_core (Ψx := fun _ _ _ => False) F2 (rs := frz r1 :: rs) (vs := v1 :: vs) ⟨v1, vs, rfl, rw1.mono e2, rv2⟩ hto nd (fun P Y h1 _ => hS P Y h1) (fun r δ' v G' H' q eG F' rv' n => k r δ' v G' H' q ((e1.trans e1').trans (e2.trans eG)) F' rv' fun z => nomatch z)
    fun nm y d v G' H' q => q.elim
/-! ### o.f = e -/
def putFD (f : Str) (x : D) : List (Str × D) → List (Str × D)
  | [] => [(f, x)]
  | (g, y) :: r => if g = f then (g, x) :: r else (g, y) :: putFD f x r
theorem repF_put {K : PySem.W.Frag} {G : Hp} {f : Str} {x : D} {w : V} (hx : Rep K G x w) : ∀ {fs : List (Str × D)} {vs : List (Str × V)}, RepF K G fs vs → RepF K G (putFD f x fs) (putF f w vs)
  | [], vs, h => by
    unfold RepF at h
    subst h
    unfold putFD putF RepF
    exact ⟨w, [], rfl, hx, by unfold RepF; rfl⟩
  | (g, d) :: fs, vs, h => by
    unfold RepF at h
    obtain ⟨v, vr, e, h1, h2⟩ := h
    subst e
    unfold putFD putF
    by_cases q : g = f
    · rw [if_pos q, if_pos q]
      unfold RepF
      exact ⟨w, vr, rfl, hx, h2⟩
    · rw [if_neg q, if_neg q]
      unfold RepF
      exact ⟨v, _, rfl, h1, repF_put hx h2⟩
theorem w_setF {N Bk Ct : List Sl → Prop} {Rt : R → List Sl → Prop} {f : Str} (h : WE c false tv δ fun r δ1 => ∃ x, frz r = .d x ∧ WE c false te δ1 fun r2 δ2 => ∃ i a C fs, r2 = .bor i a ∧ δ2[i]? = some (.own a (.obj C fs)) ∧ Cls c.K C ∧ NoAttr c.K C f ∧ fs.length < 1000 ∧ ∀ δ3, δ3 = δ2.set i (.own a (.obj C (putFD f x fs))) → N δ3) :
    W c (sFld c.K te tv f) δ N Rt Bk Ct := by
  intro B G H σ D0 F xk hE
  refine h B G H σ _ F xk fun r1 δ1 v1 G1 H1 w1 e1 F1 rv1 p1 => ?_
  obtain ⟨y, hy, w1⟩ := w1
  obtain ⟨G1', e1', F1', rw1⟩ := rv1.weak F1
  rw [hy] at rw1
  refine w1 B G1' H1 σ _ F1' (c.mono _ _ _ (e1.trans e1') xk) fun r2 δ2 v2 G2 H2 w2 e2 F2 rv2 p2 => ?_
  obtain ⟨i, a, C, fs, er, hd, hc, hn, hl, w2⟩ := w2
  subst er
  obtain ⟨ev, _⟩ := rv2
  subst ev
  obtain ⟨ov, _, _, dx, fvs, ha, hr⟩ := F2.get hd
  have hv : Rep c.K G2 y v1 := Rep.mono e2 (show Rep c.K G1' y v1 from rw1)
  exact ⟨a, C, dx, fvs, rfl, ha, hc, hn, by rw [repF_len hr]; exact hl, hE.nx _ _ G2 _ (w2 _ rfl) ((e1.trans e1').trans e2) (frame_mut F2 hd ⟨dx, _, upd_same, repF_put hv hr⟩)⟩
end
end DL

/-! DL24: what the text's end leans on for own classes. -/
namespace DL
open PySem PySem.Spec PyProof.Rows L2
theorem passLA {X : Cx} (σ : L2.St) : PassesAt (L2.CX X.prog X.w) X σ E0 := fun pins H s e s' I c => passL pins σ H s e s' I c
/-- a class's method -/
structure MethOk (K : PySem.W.Frag) (C : Addr) (m qual : Str) (st : Stmt) (ps : List Str) (a : Addr) (fd : FuncData) : Prop where
  fn : Fun K m qual st a fd
  b : Binds K fd ps []
  m : Meth K C m a
end DL

/-! DL25: dicts that are walked (locked meanwhile), a slot's own lent as data, list(d.values()), max of a list. -/
namespace DL
open PySem PySem.Spec PyProof.Rows L2
open Evl (Ex)
/-! ### a dict locked, unlocked: what is read stays -/
/-- a dict's content -/
def Dky (u : HO) : Prop := (∃ kvs, u = .dK kvs) ∨ ∃ kvs, u = .dT kvs
/-- the same but for a dict that is locked or unlocked -/
def LE (G G' : Hp) : Prop := ∀ b o, G b = some o → G' b = some o ∨ ∃ u, Dky u ∧ Rd G b u ∧ Rd G' b u
section
variable {K : PySem.W.Frag} {G G' : Hp}
theorem LE.of (e : Ex G G') : LE G G' := fun b o h => .inl (e b o h)
theorem Dky.frz {o : Obj} {u : HO} (h : Dky (.frz o u)) : False := by rcases h with ⟨_, e⟩ | ⟨_, e⟩ <;> cases e
theorem LE.rd (e : LE G G') {a : Addr} {u : HO} (hu : ∀ o w, u ≠ .frz o w) (h : Rd G a u) : Rd G' a u := by
  rcases h with h | ⟨o, h⟩
  · rcases e a _ h with q | ⟨w, d, q1, q2⟩
    · exact .inl q
    · rcases q1 with q1 | ⟨o', q1⟩
      · rw [h] at q1; cases q1; exact q2
      · rw [h] at q1
        cases q1
        exact absurd rfl (hu _ _)
  · rcases e a _ h with q | ⟨w, d, q1, q2⟩
    · exact .inr ⟨o, q⟩
    · rcases q1 with q1 | ⟨o', q1⟩
      · rw [h] at q1; cases q1; exact d.frz.elim
      · rw [h] at q1; cases q1; exact q2
theorem LE.l (e : LE G G') {a : Addr} {xs : List V} (h : SqL K G a xs) : SqL K G' a xs := by
  rcases h with h | h
  · exact .inl (e.rd (fun _ _ z => nomatch z) h)
  · exact .inr h
theorem LE.t (e : LE G G') {a : Addr} {xs : List V} (h : SqT K G a xs) : SqT K G' a xs := by
  rcases h with h | h
  · exact .inl (e.rd (fun _ _ z => nomatch z) h)
  · exact .inr h
mutual
theorem Rep.le (e : LE G G') : ∀ {d : D} {v : V}, Rep K G d v → Rep K G' d v
  | .non, _, h => h
  | .bl _, _, h => h
  | .int _, _, h => h
  | .str _, _, h => h
  | .ty _, _, h => h
  | .ptr _, _, h => h
  | .lst ds, v, h => by
    unfold Rep at h ⊢
    obtain ⟨a, xs, e1, h1, h2⟩ := h
    refine ⟨a, xs, e1, ?_, Reps.le e h2⟩
    rcases e a _ h1 with q | ⟨w, d, q1, q2⟩
    · exact q
    · rcases q1 with q1 | ⟨o', q1⟩
      · rw [h1] at q1; cases q1; rcases d with ⟨_, z⟩ | ⟨_, z⟩ <;> cases z
      · rw [h1] at q1; cases q1
  | .ro ds, v, h => by
    unfold Rep at h ⊢
    obtain ⟨a, xs, e1, h1, h2⟩ := h
    exact ⟨a, xs, e1, e.l h1, Reps.le e h2⟩
  | .tup ds, v, h => by
    unfold Rep at h ⊢
    obtain ⟨a, xs, e1, h1, h2⟩ := h
    refine ⟨a, xs, e1, ?_, Reps.le e h2⟩
    rcases e a _ h1 with q | ⟨w, d, q1, q2⟩
    · exact q
    · rcases q1 with q1 | ⟨o', q1⟩
      · rw [h1] at q1; cases q1; rcases d with ⟨_, z⟩ | ⟨_, z⟩ <;> cases z
      · rw [h1] at q1; cases q1
  | .dct ds, v, h => by
    unfold Rep at h ⊢
    obtain ⟨a, xs, e1, h1, h2⟩ := h
    exact ⟨a, xs, e1, e.rd (fun _ _ z => nomatch z) h1, RepK.le e h2⟩
  | .dcT ds, v, h => by
    unfold Rep at h ⊢
    obtain ⟨a, xs, e1, h1, h2⟩ := h
    exact ⟨a, xs, e1, e.rd (fun _ _ z => nomatch z) h1, RepT.le e h2⟩
  | .obj C fs, v, h => by
    unfold Rep at h ⊢
    obtain ⟨a, dx, xs, e1, h1, h2⟩ := h
    refine ⟨a, dx, xs, e1, ?_, RepF.le e h2⟩
    rcases e a _ h1 with q | ⟨w, d, q1, q2⟩
    · exact q
    · rcases q1 with q1 | ⟨o', q1⟩
      · rw [h1] at q1; cases q1; rcases d with ⟨_, z⟩ | ⟨_, z⟩ <;> cases z
      · rw [h1] at q1; cases q1
theorem Reps.le (e : LE G G') : ∀ {ds : List D} {vs : List V}, Reps K G ds vs → Reps K G' ds vs
  | [], _, h => h
  | d :: ds, vs, h => by
    unfold Reps at h ⊢
    obtain ⟨v, vr, e1, h1, h2⟩ := h
    exact ⟨v, vr, e1, Rep.le e h1, Reps.le e h2⟩
theorem RepK.le (e : LE G G') : ∀ {ds : List (Key × D)} {vs : List (Key × V)}, RepK K G ds vs → RepK K G' ds vs
  | [], _, h => h
  | (k, d) :: ds, vs, h => by
    unfold RepK at h ⊢
    obtain ⟨v, vr, e1, h1, h2⟩ := h
    exact ⟨v, vr, e1, Rep.le e h1, RepK.le e h2⟩
theorem RepT.le (e : LE G G') : ∀ {ds : List (List Key × D)} {vs : List (List Key × V)}, RepT K G ds vs → RepT K G' ds vs
  | [], _, h => h
  | (k, d) :: ds, vs, h => by
    unfold RepT at h ⊢
    obtain ⟨v, vr, e1, h1, h2⟩ := h
    exact ⟨v, vr, e1, Rep.le e h1, RepT.le e h2⟩
theorem RepF.le (e : LE G G') : ∀ {ds : List (Str × D)} {vs : List (Str × V)}, RepF K G ds vs → RepF K G' ds vs
  | [], _, h => h
  | (k, d) :: ds, vs, h => by
    unfold RepF at h ⊢
    obtain ⟨v, vr, e1, h1, h2⟩ := h
    exact ⟨v, vr, e1, Rep.le e h1, RepF.le e h2⟩
end
variable {B H H' : Hp} {σ : St} {δ : List Sl}
theorem OwnR.le {a : Addr} {x : D} (e : LE G G') (h : OwnR K G H a x) (hH : H' a = H a) : OwnR K G' H' a x := by
  cases x with
  | lst ds => obtain ⟨xs, h1, h2⟩ := h; exact ⟨xs, hH.trans h1, h2.le e⟩
  | dct ds => obtain ⟨xs, h1, h2⟩ := h; exact ⟨xs, hH.trans h1, h2.le e⟩
  | dcT ds => obtain ⟨xs, h1, h2⟩ := h; exact ⟨xs, hH.trans h1, h2.le e⟩
  | obj C ds => obtain ⟨dx, xs, h1, h2⟩ := h; exact ⟨dx, xs, hH.trans h1, h2.le e⟩
  | _ => exact h.elim
theorem SlR.le {s : Sl} {ov : Option V} (e : LE G G') (eH : ∀ a ∈ ads s, H' a = H a) (h : SlR K G H s ov) : SlR K G' H' s ov := by
  cases s with
  | no => trivial
  | d x => obtain ⟨v, e1, r⟩ := h; exact ⟨v, e1, r.le e⟩
  | own a x => obtain ⟨e1, r⟩ := h; exact ⟨e1, r.le e (eH a (List.mem_singleton.mpr rfl))⟩
  | deep a x gs => obtain ⟨e1, r, g⟩ := h; exact ⟨e1, r.le e (eH a List.mem_cons_self), fun q hq => (g q hq).le e (eH _ (List.mem_cons_of_mem _ (List.mem_map_of_mem hq)))⟩
theorem SlsR.le : ∀ {δ : List Sl} {σ : St}, LE G G' → (∀ a ∈ owned δ, H' a = H a) → SlsR K G H δ σ → SlsR K G' H' δ σ
  | [], σ, _, _, h => h
  | s :: δ, σ, eG, eH, h => by
    obtain ⟨ov, σr, e, h1, h2⟩ := h
    rw [owned_cons] at eH
    exact ⟨ov, σr, e, h1.le eG fun a ha => eH a (List.mem_append_left _ ha), SlsR.le eG (fun a ha => eH a (List.mem_append_right _ ha)) h2⟩
theorem RV.le {r : R} {v : V} {a : Addr} (e : LE G G') (hH : ∀ b, b ≠ a → H' b = H b) (hG : ∀ b, b ≠ a → G' b = G b) (ha : (G a).isSome = true) (h : RV K B G H δ r v) : RV K B G' H' δ r v := by
  have nb : ∀ b, G b = none → b ≠ a := fun b h3 z => by subst z; rw [h3] at ha; cases ha
  cases r with
  | d x => exact Rep.le e h
  | own b x =>
    obtain ⟨e1, h1, h2, h3, h4⟩ := h
    exact ⟨e1, h1.le e (hH b (nb b h3)), h2, (hG b (nb b h3)).trans h3, h4⟩
  | deep b x gs =>
    obtain ⟨e1, h1, h2, h3, h4⟩ := h
    have nn : ∀ c ∈ b :: gs.map Prod.fst, c ≠ a := fun c hc => nb c (h3 c hc).2.1
    exact ⟨e1, h1.le e (hH b (nn b List.mem_cons_self)), fun q hq => (h2 q hq).le e (hH _ (nn _ (List.mem_cons_of_mem _ (List.mem_map_of_mem hq)))), fun c hc => ⟨(h3 c hc).1, (hG c (nn c hc)).trans (h3 c hc).2.1, (h3 c hc).2.2⟩, h4⟩
  | bor i a => exact h
end
end DL
namespace DL
open PySem PySem.Spec PyProof.Rows L2
open Evl (Ex)
/-- the statement, a dict locked meanwhile or no more to be locked -/
def tLk (t : TS) : TS := fun D σ H => tLock t D σ H ∨ t D σ H
def tLkE (t : TE) : TE := fun σ H Q => tLockE t σ H Q ∨ t σ H Q
/-- where a dict is locked -/
abbrev cL (K : PySem.W.Frag) (a : Addr) (u : HO) : Cd := ⟨K, fun _ G => G a = some u, fun _ _ _ e h => e a u h⟩
def dItems (kds : List (Key × D)) : List D := kds.map fun q => D.tup [keyD q.1, q.2]
def dValues (kds : List (Key × D)) : List D := kds.map Prod.snd
def dKeys (kds : List (Key × D)) : List D := kds.map fun q => keyD q.1
section
variable {K : PySem.W.Frag} {δ : List Sl} {i : Nat} {a : Addr} {o : Obj} {kds : List (Key × D)} {kvs : List (Key × V)} {p : Bool}
/-- an address's slot, its dict locked -/
structure VarL (K : PySem.W.Frag) (G : Hp) (σ : St) (i : Nat) (a : Addr) (o : Obj) (kvs : List (Key × V)) (kds : List (Key × D)) : Prop where
  s : σ[i]? = some (some (.ref a))
  g : G a = some (.frz o (.dK kvs))
  r : RepK K G kds kvs
abbrev cV (K : PySem.W.Frag) (a : Addr) (o : Obj) (kvs : List (Key × V)) (kds : List (Key × D)) : Cd := ⟨K, fun _ G => G a = some (.frz o (.dK kvs)) ∧ RepK K G kds kvs, fun _ _ _ e h => ⟨e a _ h.1, h.2.mono e⟩⟩
/-- WI at one state -/
def WIat (c : Cd) (p : Bool) (wi : TI) (δ : List Sl) (B G H : Hp) (σ : St) (ds : List D) : Prop :=
  ∀ (R : It → Hp → Prop), (∀ J G' H', Ex G G' → Frame c.K B G' H' σ δ → (p = true → Ex H H') → (∃ Gd Y, Walk J ds.length Gd Y ∧ (∀ H2, Ex G' H2 → Gd H2) ∧ Yl c.K G' ds Y) → R J H') → wi σ H R
end
end DL

namespace DL
open PySem PySem.Spec PyProof.Rows L2
open Evl (Ex)
/-- a walk at states where the i-th name stands for a -/
def wiAt (i : Nat) (a : Addr) (wi : TI) : TI := fun σ H R => σ[i]? = some (some (.ref a)) → wi σ H R
section
variable {K : PySem.W.Frag} {δ : List Sl} {i : Nat} {kds : List (Key × D)} {wi : TI} {g : TG} {t : TS} {tt : TT} {te : TE} {ds : List D} {E : En} {vs : List Nat}
abbrev WalkL (K : PySem.W.Frag) (wi : TI) (i : Nat) (δ : List Sl) (kds : List (Key × D)) (ds : List D) : Prop := ∀ (a : Addr) (o : Obj) (kvs : List (Key × V)) (B G H : Hp) (σ : St), Frame K B G H σ δ → VarL K G σ i a o kvs kds → WIat (c0 K) true wi δ B G H σ ds
/-! ### list(d.values()) -/
def tListVals (td : TE) : TE := fun σ H Q => td σ H fun x H1 => ∃ a kvs, x = V.ref a ∧ Rd H1 a (.dK kvs) ∧ ∀ l, H1 l = none → Q (.ref l) (upd H1 l (.lst (kvs.map Prod.snd)))
variable {X : Cx} {e : Expr} {p apos cpos pos : Pos}
/-! ### max of a list -/
def intsD : List D → Option (List Int)
  | [] => some []
  | .int i :: r => (intsD r).map (i :: ·)
  | _ :: _ => none
end
end DL

/-! DL26: more closers. -/
namespace DL
open PySem PySem.Spec PyProof.Rows L2
section
variable {x y : D} {b : Bool} {n T : String}
theorem ex_isiB {P : Bool → Prop} (h2 : isiB x y = some b) (q : P b) : ∃ x' y', [x, y] = [x', y'] ∧ ∃ b, isiB x' y' = some b ∧ P b := ⟨x, y, rfl, b, h2, q⟩
theorem isiB_ty (h : tyD x = some T) (h2 : kitB T n = some b) : isiB x (.ty n) = some b := by
  show ((tyD x).bind fun a => kitB a n) = some b
  rw [h]
  exact h2
end
theorem isi2_lst {xs : List D} : isiB (.lst xs) (.tup [.ty "list", .ty "tuple"]) = some true := by
  show kitAnyB "list" ["list", "tuple"] = some true
  decide +kernel
theorem isi2_tup {xs : List D} : isiB (.tup xs) (.tup [.ty "list", .ty "tuple"]) = some true := by
  show kitAnyB "tuple" ["list", "tuple"] = some true
  decide +kernel
theorem isi_lst {xs : List D} : isiB (.lst xs) (.ty "list") = some true := isiB_ty rfl (by decide +kernel)
theorem isi_tup {xs : List D} : isiB (.tup xs) (.ty "tuple") = some true := isiB_ty rfl (by decide +kernel)
section
variable {k : R → Prop} {kds : List (Key × D)} {z : Str} {v : D}
end
section
variable {K : PySem.W.Frag} {ε : List Sl} {vs : List Nat} {g1 g2 g3 : TG} {x y z : D} {Φ : List Sl → Prop}
theorem wgc_s2 (h : WGc g1 K x ε vs fun ε1 => WGc g2 K y ε1 vs Φ) : WGc (gSeq K 2 (gCons g1 (gCons g2 gNil))) K (.tup [x, y]) ε vs Φ := fun B G H σ v Q F r k =>
  .inl (wgc_tup rfl (wgcs_cons (fun B G H σ v Q F r k => h B G H σ v Q F r fun ε1 σ1 w => k ε1 σ1 (wgcs_cons (fun B G H σ v Q F r k => w B G H σ v Q F r fun ε2 σ2 w2 => k ε2 σ2 (wgcs_nil w2))))) B G H σ v Q F r k)
end
section
variable {K : PySem.W.Frag} {δ : List Sl} {r : R} {C : Addr} {fs : List (Str × D)} {x : D} {f : Str} {P : D → Prop}
theorem ex_fld (h1 : view δ r = some (.obj C fs)) (hc : Cls K C) (hn : NoAttr K C f) (hl : fs.lookup f = some x) (q : P x) : ∃ C fs x, view δ r = some (.obj C fs) ∧ Cls K C ∧ NoAttr K C f ∧ fs.lookup f = some x ∧ P x := ⟨C, fs, x, h1, hc, hn, hl, q⟩
end
end DL

/-! DL27: objects that are reached through others: a slot's own and what stands behind it. -/
namespace DL
open PySem PySem.Spec PyProof.Rows L2
open Evl (Ex)
section
variable {K : PySem.W.Frag} {B G G' H H' : Hp} {σ : St} {δ : List Sl}
def setG (gs : List (Addr × D)) (b : Addr) (y : D) : List (Addr × D) := gs.map fun q => if q.1 = b then (b, y) else q
/-- the slots, an object's content told otherwise -/
def upV (δ : List Sl) (i : Nat) (a : Addr) (y : D) : List Sl := match δ[i]? with
  | some (.own b _) => δ.set i (.own b y)
  | some (.deep b x gs) => if a = b then δ.set i (.deep b y gs) else δ.set i (.deep b x (setG gs a y))
  | _ => δ
/-- what stands at the i-th slot's address a -/
def At (δ : List Sl) (i : Nat) (a : Addr) (x : D) : Prop := view δ (.bor i a) = some x
end
/-! ### what a slot with objects behind it tells as data -/
def All2 {α β : Type} (R : α → β → Prop) : List α → List β → Prop
  | [], [] => True
  | x :: xs, y :: ys => R x y ∧ All2 R xs ys
  | _, _ => False
def ResC (R : D → D → Prop) : D → D → Prop
  | .lst ds, .lst zs => All2 R ds zs
  | .dct ds, .dct zs => All2 (fun p q => p.1 = q.1 ∧ R p.2 q.2) ds zs
  | .dcT ds, .dcT zs => All2 (fun p q => p.1 = q.1 ∧ R p.2 q.2) ds zs
  | .obj C fs, .obj C' zs => C = C' ∧ All2 (fun p q => p.1 = q.1 ∧ R p.2 q.2) fs zs
  | _, _ => False
def Res (gs : List (Addr × D)) : Nat → D → D → Prop
  | 0, d, z => d = z
  | n + 1, d, z => d = z ∨ ∃ b y, d = .ptr b ∧ gs.lookup b = some y ∧ ResC (Res gs n) y z
theorem resC_rep {K : PySem.W.Frag} {G G1 H : Hp} {R : D → D → Prop} (hR : ∀ d z v, R d z → Rep K G d v → Rep K G1 z v) {a : Addr} {y z : D} (h : ResC R y z) (ho : OwnR K G H a y) (hG : G1 a = H a) : Rep K G1 z (.ref a) := by
  have l2 : ∀ {ds zs : List D} {vs : List V}, All2 R ds zs → Reps K G ds vs → Reps K G1 zs vs := by
    intro ds
    induction ds with
    | nil => intro zs vs h h'; cases zs with
      | nil => unfold Reps at h' ⊢; exact h'
      | cons _ _ => exact h.elim
    | cons d ds ih =>
      intro zs vs h h'
      cases zs with
      | nil => exact h.elim
      | cons z zs =>
        unfold Reps at h'
        obtain ⟨v, vr, e, h1, h2⟩ := h'
        subst e
        exact reps_cons (hR d z v h.1 h1) (ih h.2 h2)
  cases y with
  | lst ds =>
    cases z <;> first | exact h.elim | skip
    rename_i zs
    obtain ⟨xs, h1, h2⟩ := ho
    unfold Rep
    exact ⟨a, xs, rfl, hG.trans h1, l2 h h2⟩
  | dct ds =>
    cases z <;> first | exact h.elim | skip
    rename_i zs
    obtain ⟨xs, h1, h2⟩ := ho
    unfold Rep
    refine ⟨a, xs, rfl, Rd.of (hG.trans h1), ?_⟩
    clear h1
    have h' : All2 (fun p q => p.1 = q.1 ∧ R p.2 q.2) ds zs := h
    clear h
    induction ds generalizing zs xs with
    | nil => cases zs with
      | nil => unfold RepK at h2 ⊢; exact h2
      | cons _ _ => exact h'.elim
    | cons d ds ih =>
      cases zs with
      | nil => exact h'.elim
      | cons z zs =>
        obtain ⟨k, d⟩ := d
        obtain ⟨k', z⟩ := z
        obtain ⟨⟨ek, hr⟩, h'⟩ := h'
        unfold RepK at h2 ⊢
        obtain ⟨v, vr, e, h3, h4⟩ := h2
        exact ⟨v, vr, by rw [e]; show (k, v) :: vr = (k', v) :: vr; rw [show k = k' from ek], hR d z v hr h3, ih zs vr h4 h'⟩
  | dcT ds =>
    cases z <;> first | exact h.elim | skip
    rename_i zs
    obtain ⟨xs, h1, h2⟩ := ho
    unfold Rep
    refine ⟨a, xs, rfl, Rd.of (hG.trans h1), ?_⟩
    clear h1
    have h' : All2 (fun p q => p.1 = q.1 ∧ R p.2 q.2) ds zs := h
    clear h
    induction ds generalizing zs xs with
    | nil => cases zs with
      | nil => unfold RepT at h2 ⊢; exact h2
      | cons _ _ => exact h'.elim
    | cons d ds ih =>
      cases zs with
      | nil => exact h'.elim
      | cons z zs =>
        obtain ⟨k, d⟩ := d
        obtain ⟨k', z⟩ := z
        obtain ⟨⟨ek, hr⟩, h'⟩ := h'
        unfold RepT at h2 ⊢
        obtain ⟨v, vr, e, h3, h4⟩ := h2
        exact ⟨v, vr, by rw [e]; show (k, v) :: vr = (k', v) :: vr; rw [show k = k' from ek], hR d z v hr h3, ih zs vr h4 h'⟩
  | obj C ds =>
    cases z <;> first | exact h.elim | skip
    rename_i C' zs
    obtain ⟨dx, xs, h1, h2⟩ := ho
    obtain ⟨ec, h'⟩ := (h : C = C' ∧ All2 (fun p q => p.1 = q.1 ∧ R p.2 q.2) ds zs)
    subst ec
    unfold Rep
    refine ⟨a, dx, xs, rfl, hG.trans h1, ?_⟩
    clear h1
    induction ds generalizing zs xs with
    | nil => cases zs with
      | nil => unfold RepF at h2 ⊢; exact h2
      | cons _ _ => exact h'.elim
    | cons d ds ih =>
      cases zs with
      | nil => exact h'.elim
      | cons z zs =>
        obtain ⟨k, d⟩ := d
        obtain ⟨k', z⟩ := z
        obtain ⟨⟨ek, hr⟩, h'⟩ := h'
        unfold RepF at h2 ⊢
        obtain ⟨v, vr, e, h3, h4⟩ := h2
        exact ⟨v, vr, by rw [e]; show (k, v) :: vr = (k', v) :: vr; rw [show k = k' from ek], hR d z v hr h3, ih zs vr h4 h'⟩
  | _ => exact ho.elim
theorem res_rep {K : PySem.W.Frag} {G G1 H : Hp} {gs : List (Addr × D)} (eG : Ex G G1) (hg : ∀ b y, gs.lookup b = some y → OwnR K G H b y ∧ G1 b = H b) : ∀ (n : Nat) (d z : D) (v : V), Res gs n d z → Rep K G d v → Rep K G1 z v
  | 0, d, z, v, h, r => by
    have e : d = z := h
    subst e
    exact r.mono eG
  | n + 1, d, z, v, h, r => by
    rcases h with e | ⟨b, y, e, hl, hc⟩
    · subst e; exact r.mono eG
    · subst e
      have ev : v = .ref b := by unfold Rep at r; exact r
      subst ev
      obtain ⟨ho, hb⟩ := hg b y hl
      exact resC_rep (res_rep eG hg n) hc ho hb
/-- a slot tells z -/
def Tells : Sl → D → Prop
  | .own _ x, z => x = z
  | .deep _ x gs, z => ∃ n, ResC (Res gs n) x z
  | _, _ => False
theorem lookup_mem {gs : List (Addr × D)} {b : Addr} {y : D} (h : gs.lookup b = some y) : b ∈ gs.map Prod.fst := by
  induction gs with
  | nil => simp at h
  | cons q gs ih =>
    obtain ⟨c, w⟩ := q
    rw [List.lookup_cons] at h
    by_cases hc : b = c
    · subst hc; exact List.mem_cons_self
    · have hc' : (b == c) = false := by simp [hc]
      rw [hc'] at h
      exact List.mem_cons_of_mem _ (ih h)
section
variable {K : PySem.W.Frag} {B G G' H H' : Hp} {σ : St} {δ : List Sl}
/-- a slot's own told as data, and what stands behind it -/
theorem frame_tell {i : Nat} {s : Sl} {z : D} (F : Frame K B G H σ δ) (e : δ[i]? = some s) (ht : Tells s z) : ∃ G1, Ex G G1 ∧ (∀ b, b ∈ ads s → G1 b = H b) ∧ (∀ b, b ∉ ads s → G1 b = G b) ∧ Frame K B G1 H σ (δ.set i (.d z)) := by
  classical
  let G1 : Hp := fun b => if b ∈ ads s then H b else G b
  have g1 : ∀ b, b ∈ ads s → G1 b = H b := fun b hb => if_pos hb
  have g2 : ∀ b, b ∉ ads s → G1 b = G b := fun b hb => if_neg hb
  have own : ∀ b ∈ ads s, B b = none ∧ G b = none := fun b hb => F.own b (owned_getA e hb)
  have eG : Ex G G1 := fun b o h => by
    rw [g2 b (fun hb => by rw [(own b hb).2] at h; cases h)]; exact h
  refine ⟨G1, eG, g1, g2, F.exB, fun b o h => ?_, fun b => ?_, ?_, fun b hb => ?_, F.nd.sublist (owned_set_no rfl)⟩
  · by_cases hb : b ∈ ads s
    · rw [g1 b hb] at h; exact h
    · rw [g2 b hb] at h; exact F.exG b o h
  · by_cases hb : b ∈ ads s
    · exact .inl (own b hb).1
    · rw [g2 b hb]; exact F.dis b
  · obtain ⟨ov, h1, h2⟩ := F.get e
    refine (F.sl.ex (H' := H) eG fun _ _ => rfl).setS (ov := none) i fun ow ee => ?_
    rw [h1] at ee
    cases ee
    cases s with
    | no => exact ht.elim
    | d x => exact ht.elim
    | own a x =>
      have e1 : x = z := ht
      subst e1
      obtain ⟨e2, ho⟩ := h2
      refine ⟨_, e2, ?_⟩
      have hz : ResC (Res [] 0) x x := by
        have all : ∀ {α : Type} {R : α → α → Prop}, (∀ y, R y y) → ∀ l : List α, All2 R l l := fun {α} {R} hr l => by
          induction l with
          | nil => trivial
          | cons y l ih => exact ⟨hr y, ih⟩
        cases x with
        | lst ds => exact all (fun y => rfl) ds
        | dct ds => exact all (fun y => ⟨rfl, rfl⟩) ds
        | dcT ds => exact all (fun y => ⟨rfl, rfl⟩) ds
        | obj C fs => exact ⟨rfl, all (fun y => ⟨rfl, rfl⟩) fs⟩
        | _ => exact ho.elim
      exact resC_rep (res_rep (gs := []) (H := H) eG (fun b y h => by simp at h) 0) hz ho (g1 a (List.mem_singleton.mpr rfl))
    | deep a x gs =>
      obtain ⟨n, hc⟩ := ht
      obtain ⟨e2, ho, hg⟩ := h2
      exact ⟨_, e2, resC_rep (res_rep (H := H) eG (fun b y h => ⟨hg.get h, g1 b (List.mem_cons_of_mem _ (lookup_mem h))⟩) n) hc ho (g1 a List.mem_cons_self)⟩
  · have hn : b ∉ ads s := fun hs => not_owned_set F.nd e hs (t := .d z) rfl hb
    rw [g2 b hn]
    exact F.own b ((owned_set_no rfl).subset hb)
end
/-! ### scalars, and tuples of such: they hold nothing that changes -/
mutual
def tsc : D → Prop
  | .non => True
  | .bl _ => True
  | .int _ => True
  | .str _ => True
  | .ty _ => True
  | .tup xs => tscs xs
  | _ => False
def tscs : List D → Prop
  | [] => True
  | x :: xs => tsc x ∧ tscs xs
end
mutual
theorem tsc_rep {K : PySem.W.Frag} {G G' : Hp} (hT : ∀ b xs, G b = some (.tup xs) → G' b = some (.tup xs)) : ∀ (x : D) (v : V), tsc x → Rep K G x v → Rep K G' x v
  | .non, v, _, h => by unfold Rep at h ⊢; exact h
  | .bl _, v, _, h => by unfold Rep at h ⊢; exact h
  | .int _, v, _, h => by unfold Rep at h ⊢; exact h
  | .str _, v, _, h => by unfold Rep at h ⊢; exact h
  | .ty _, v, _, h => by unfold Rep at h ⊢; exact h
  | .tup xs, v, t, h => by
    unfold Rep at h ⊢
    obtain ⟨a, vs, e, h1, h2⟩ := h
    exact ⟨a, vs, e, hT a vs h1, tscs_rep hT xs vs (by unfold tsc at t; exact t) h2⟩
  | .ptr _, v, t, _ => by unfold tsc at t; exact t.elim
  | .lst _, v, t, _ => by unfold tsc at t; exact t.elim
  | .ro _, v, t, _ => by unfold tsc at t; exact t.elim
  | .dct _, v, t, _ => by unfold tsc at t; exact t.elim
  | .dcT _, v, t, _ => by unfold tsc at t; exact t.elim
  | .obj _ _, v, t, _ => by unfold tsc at t; exact t.elim
theorem tscs_rep {K : PySem.W.Frag} {G G' : Hp} (hT : ∀ b xs, G b = some (.tup xs) → G' b = some (.tup xs)) : ∀ (xs : List D) (vs : List V), tscs xs → Reps K G xs vs → Reps K G' xs vs
  | [], vs, _, h => by unfold Reps at h ⊢; exact h
  | x :: xs, vs, t, h => by
    unfold tscs at t
    unfold Reps at h ⊢
    obtain ⟨v, vr, e, h1, h2⟩ := h
    exact ⟨v, vr, e, tsc_rep hT x v t.1 h1, tscs_rep hT xs vr t.2 h2⟩
end
def tscK {α : Type} : List (α × D) → Prop
  | [] => True
  | p :: ps => tsc p.2 ∧ tscK ps
/-- a new object whose things are such -/
def tscO : D → Prop
  | .lst xs => tscs xs
  | .dct ks => tscK ks
  | .dcT ks => tscK ks
  | _ => False
theorem tscO_own {K : PySem.W.Frag} {G G' H : Hp} {a : Addr} (hT : ∀ b xs, G b = some (.tup xs) → G' b = some (.tup xs)) {x : D} (t : tscO x) (h : OwnR K G H a x) : OwnR K G' H a x := by
  cases x with
  | lst xs => obtain ⟨vs, h1, h2⟩ := h; exact ⟨vs, h1, tscs_rep hT xs vs t h2⟩
  | dct ks =>
    obtain ⟨vs, h1, h2⟩ := h
    refine ⟨vs, h1, ?_⟩
    have t' : tscK ks := t
    clear h1 t
    induction ks generalizing vs with
    | nil => unfold RepK at h2 ⊢; exact h2
    | cons p ks ih =>
      obtain ⟨k, d⟩ := p
      unfold RepK at h2 ⊢
      obtain ⟨v, vr, e, h3, h4⟩ := h2
      exact ⟨v, vr, e, tsc_rep hT d v t'.1 h3, ih vr h4 t'.2⟩
  | dcT ks =>
    obtain ⟨vs, h1, h2⟩ := h
    refine ⟨vs, h1, ?_⟩
    have t' : tscK ks := t
    clear h1 t
    induction ks generalizing vs with
    | nil => unfold RepT at h2 ⊢; exact h2
    | cons p ks ih =>
      obtain ⟨k, d⟩ := p
      unfold RepT at h2 ⊢
      obtain ⟨v, vr, e, h3, h4⟩ := h2
      exact ⟨v, vr, e, tsc_rep hT d v t'.1 h3, ih vr h4 t'.2⟩
  | _ => exact t.elim
/-- what may be handed on where a slot was lent -/
def Free : R → Prop
  | .d x => tsc x
  | .own _ x => tscO x
  | _ => False
section
variable {K : PySem.W.Frag} {B G G1 G' H H' : Hp} {σ : St} {δ : List Sl}
/-- a slot that was lent as data is its own again -/
theorem frame_untell {i : Nat} {s : Sl} {z : D} (F : Frame K B G H σ δ) (e : δ[i]? = some s) (g1 : ∀ b, b ∈ ads s → G1 b = H b) (g2 : ∀ b, b ∉ ads s → G1 b = G b) (e2 : Ex G1 G') (F2 : Frame K B G' H' σ (δ.set i (.d z))) (eH : Ex H H') :
    ∃ G2, Ex G G2 ∧ Frame K B G2 H' σ δ ∧ ∀ r v, Free r → RV K B G' H' (δ.set i (.d z)) r v → RV K B G2 H' δ r v := by
  classical
  let G2 : Hp := fun b => if b ∈ ads s then none else G' b
  have q1 : ∀ b, b ∈ ads s → G2 b = none := fun b hb => if_pos hb
  have q2 : ∀ b, b ∉ ads s → G2 b = G' b := fun b hb => if_neg hb
  have own : ∀ b ∈ ads s, B b = none ∧ G b = none := fun b hb => F.own b (owned_getA e hb)
  obtain ⟨ov, h1, h2⟩ := F.get e
  have eG : Ex G G2 := fun b o h => by
    have hn : b ∉ ads s := fun hb => by rw [(own b hb).2] at h; cases h
    rw [q2 b hn]
    exact e2 b o (by rw [g2 b hn]; exact h)
  have atS : ∀ b ∈ ads s, ∃ o, G' b = some o ∧ H b = some o := fun b hb => by
    obtain ⟨o, ho⟩ := h2.there hb
    exact ⟨o, e2 b o (by rw [g1 b hb]; exact ho), ho⟩
  have hT : ∀ b xs, G' b = some (.tup xs) → G2 b = some (.tup xs) := fun b xs h => by
    have hn : b ∉ ads s := fun hb => by
      obtain ⟨o, ho, hH⟩ := atS b hb
      have nt : ∀ {y : D}, OwnR K G H b y → o ≠ .tup xs := fun {y} h => by
        cases y with
        | lst ds => obtain ⟨_, h, _⟩ := h; rw [hH] at h; cases h; exact fun z => (nomatch z)
        | dct ds => obtain ⟨_, h, _⟩ := h; rw [hH] at h; cases h; exact fun z => (nomatch z)
        | dcT ds => obtain ⟨_, h, _⟩ := h; rw [hH] at h; cases h; exact fun z => (nomatch z)
        | obj C ds => obtain ⟨_, _, h, _⟩ := h; rw [hH] at h; cases h; exact fun z => (nomatch z)
        | _ => exact h.elim
      have nt2 : o ≠ .tup xs := by
        cases s with
        | no => cases hb
        | d x => cases hb
        | own a x => cases List.mem_singleton.mp hb; exact nt h2.2
        | deep a x gs =>
          rcases List.mem_cons.mp hb with q | q
          · subst q; exact nt h2.2.1
          · obtain ⟨w, hw, ew⟩ := List.mem_map.mp q
            subst ew
            exact nt (h2.2.2 w hw)
      rw [ho] at h; cases h; exact nt2 rfl
    rw [q2 b hn]
    exact h
  have cov : ∀ b ∈ owned δ, b ∈ ads s ∨ b ∈ owned (δ.set i (.d z)) := fun b hb => by
    obtain ⟨j, t, e3, m⟩ := owned_mem hb
    by_cases hj : i = j
    · subst hj; rw [e] at e3; cases e3; exact .inl m
    · exact .inr (owned_getA (i := j) (by rw [List.getElem?_set_ne hj]; exact e3) m)
  refine ⟨G2, eG, ⟨F.exB.trans eH, fun b o h => ?_, fun b => ?_, F.sl.ex eG fun a ha => ?_, fun a ha => ⟨(F.own a ha).1, ?_⟩, F.nd⟩, fun r v hr rv => ?_⟩
  · by_cases hb : b ∈ ads s
    · rw [q1 b hb] at h; cases h
    · rw [q2 b hb] at h; exact F2.exG b o h
  · by_cases hb : b ∈ ads s
    · exact .inl (own b hb).1
    · rw [q2 b hb]; exact F2.dis b
  · obtain ⟨o, ho⟩ := F.there ha
    rw [ho]; exact eH a o ho
  · by_cases hb : a ∈ ads s
    · exact q1 a hb
    · rw [q2 a hb]
      rcases cov a ha with q | q
      · exact absurd q hb
      · exact (F2.own a q).2
  · cases r with
    | d x => exact tsc_rep hT x v hr rv
    | own a x =>
      obtain ⟨z1, z2, z3, z4, z5⟩ := rv
      have hn : a ∉ ads s := fun hb => by
        obtain ⟨o, ho, _⟩ := atS a hb
        rw [ho] at z4; cases z4
      refine ⟨z1, tscO_own hT hr z2, z3, (q2 a hn).trans z4, fun q => ?_⟩
      rcases cov a q with q | q
      · exact hn q
      · exact z5 q
    | deep a x gs => exact hr.elim
    | bor i a => exact hr.elim
end
section
variable {c : Cd} {p : Bool} {δ : List Sl} {te : TE} {tt : TT} {t : TS} {tr : TA} {Φ : R → List Sl → Prop} {N Bk Ct : List Sl → Prop} {Rt : R → List Sl → Prop}
/-- an expression that reads a slot as data -/
theorem we_lend (i : Nat) {s : Sl} (z : D) (hi : δ[i]? = some s) (ht : Tells s z) (h : WE (c0 c.K) true te (δ.set i (.d z)) fun r _ => Free r ∧ Φ r δ) : WE c p te δ Φ := by
  intro B G H σ Q F xr k
  obtain ⟨G1, e1, g1, g2, F1⟩ := frame_tell F hi ht
  refine h B G1 H σ Q F1 trivial fun r δ' v G' H' w e2 F2 rv p2 => ?_
  obtain ⟨ed, eH⟩ := p2 rfl
  subst ed
  obtain ⟨G2, e3, F3, hr⟩ := frame_untell F hi g1 g2 e2 F2 eH
  exact k r δ v G2 H' w.2 e3 F3 (hr r v w.1 rv) fun _ => ⟨rfl, eH⟩
theorem wt_lend {Φ : Bool → List Sl → Prop} (i : Nat) {s : Sl} (z : D) (hi : δ[i]? = some s) (ht : Tells s z) (h : WT (c0 c.K) true tt (δ.set i (.d z)) fun b _ => Φ b δ) : WT c p tt δ Φ := by
  intro B G H σ Q F xr k
  obtain ⟨G1, e1, g1, g2, F1⟩ := frame_tell F hi ht
  refine h B G1 H σ Q F1 trivial fun b δ' G' H' w e2 F2 p2 => ?_
  obtain ⟨ed, eH⟩ := p2 rfl
  subst ed
  obtain ⟨G2, e3, F3, hr⟩ := frame_untell F hi g1 g2 e2 F2 eH
  exact k b δ G2 H' w e3 F3 fun _ => ⟨rfl, eH⟩
end
end DL

/-! DL28: dicts whose keys are tuples; sorted. -/
namespace DL
open PySem PySem.Spec PyProof.Rows L2
open Evl (Ex)
/-! ### sorted(d), d's keys pairs of ints -/
def pk (p : Int × Int) : List Key := [.inl p.1, .inl p.2]
def pairAt (H : Hp) : V → Int × Int
  | .ref a => match H a with
    | some (.tup [.int i, .int j]) => (i, j)
    | _ => (0, 0)
  | _ => (0, 0)
theorem pairAt_of {H : Hp} {a : Addr} {i j : Int} (h : H a = some (.tup [.int i, .int j])) : pairAt H (.ref a) = (i, j) := by
  show (match H a with
    | some (.tup [.int i, .int j]) => (i, j)
    | _ => (0, 0)) = _
  rw [h]
/-- first by the first, then by the second -/
def lexP (p q : Int × Int) : Prop := p.1 < q.1 ∨ (p.1 = q.1 ∧ p.2 ≤ q.2)
def rSortedDT : List V → Hp → VK → Prop := fun vs H Q => ∃ (d : Addr) (kvs : List (List Key × V)) (ps : List (Int × Int)), vs = [V.ref d] ∧ Rd H d (.dT kvs) ∧ kvs.map (·.1) = ps.map pk ∧
  ∀ (zs : List (Addr × Int × Int)) (p : Addr), (zs.map (·.2)).Perm ps → (zs.map (·.2)).Pairwise lexP → (∀ z ∈ zs, H z.1 = some (.tup [.int z.2.1, .int z.2.2])) → H p = none → Q (.ref p) (upd H p (.lst (zs.map fun z => V.ref z.1)))
theorem kt_get {H : Hp} : ∀ {kvs : List (List Key × V)} {xs : List (List Key × Addr × Value)} {ps : List (Int × Int)}, KT H kvs xs → kvs.map (·.1) = ps.map pk → ∀ x ∈ xs, ∃ p : Int × Int, H x.2.1 = some (.tup [.int p.1, .int p.2])
  | _, _, ps, .nil, _, x, hx => by cases hx
  | _, _, [], .cons _ _, e, x, hx => by simp at e
  | _, _, p :: ps, .cons (a := kv) (b := y) h t, e, x, hx => by
    rw [List.map_cons, List.map_cons] at e
    have e1 := (List.cons.inj e).1
    have e2 := (List.cons.inj e).2
    rcases List.mem_cons.mp hx with q | q
    · subst q
      refine ⟨p, ?_⟩
      rw [h.2.1, e1]
      rfl
    · exact kt_get t e2 x q
theorem kt_pairs {H : Hp} : ∀ {kvs : List (List Key × V)} {xs : List (List Key × Addr × Value)} {ps : List (Int × Int)}, KT H kvs xs → kvs.map (·.1) = ps.map pk → (xs.map fun x => pairAt H (.ref x.2.1)) = ps
  | _, _, [], .nil, _ => rfl
  | _, _, _ :: _, .nil, e => by simp at e
  | _, _, [], .cons _ _, e => by simp at e
  | _, _, p :: ps, .cons (a := kv) (b := y) h t, e => by
    rw [List.map_cons, List.map_cons] at e
    have e1 := (List.cons.inj e).1
    have e2 := (List.cons.inj e).2
    rw [List.map_cons, kt_pairs t e2]
    congr 1
    have e3 : H y.2.1 = some (.tup [.int p.1, .int p.2]) := by rw [h.2.1, e1]; rfl
    exact pairAt_of e3
theorem cr_sortedDT {X : Cx} (hc : X.calm = true) : CallR X (.builtin "sorted") rSortedDT := by
  intro pins s σ H vs us Q I r h
  obtain ⟨d, kvs, ps, rfl, hd, hk, q⟩ := h
  obtain ⟨u, rfl, rx⟩ := vals1 r
  cases rx
  obtain ⟨z, hs, ks, pr, o, es, ep, ho, hx, hdt, he, hn⟩ := (show ObjOk X.prog X.w H s.heap d (.dT kvs) from hd.ok I.hok)
  have l1 : es.size = ks.length := size_of_entries he
  have l2 : kvs.length = ks.length := Paired.length pr
  refine Calls.call_function_entry PyProof.Rows.kind_sorted PyProof.Rows.plain_sorted PyProof.Rows.entry_sorted (PyProof.Rows.args_sorted1 _) ?_
  unfold Builtin.«sorted»
  refine wpAny_bind (m := checkCount "sorted" 1 1 _) (wpAny_pure ?_)
  refine wpAny_bind (PySem.W.kdu_collect (A := X.A.in1) (kdl_raw hs hx hdt) (I.ok.hd hc) ho (by omega) fun h' tk acc hkp it => ?_)
  have ea : acc.toList = ks.map fun x => Value.ref x.2.1 := by
    have hl : acc.toList.length = ks.length := by rw [Array.length_toList, it.1]; exact l1
    apply List.ext_getElem?
    intro j
    rw [List.getElem?_map]
    cases hj : acc.toList[j]? with
    | none =>
      have h1 := List.getElem?_eq_none_iff.mp hj
      rw [List.getElem?_eq_none (by omega)]
      all_goals rfl
    | some v =>
      obtain ⟨en, hen, hv⟩ := it.2 j v (by rw [← Array.getElem?_toList]; exact hj)
      have qe := entry_at he j
      rw [hen] at qe
      cases hb : ks[j]? with
      | none =>
        rw [hb] at qe
        exact nomatch (show some en = none from qe)
      | some b =>
        rw [hb] at qe
        have e2 : en = entryOfKey (tupleKind (mixKind X.prog X.w)) b := Option.some.inj qe
        rw [hv, e2]
        all_goals rfl
  have hlen : acc.toList.length ≤ sizeLine := by rw [ea, List.length_map, ← l2]; exact z
  have I1 : Inv X pins σ H { s with heap := h', toks := tk } := I.kept hkp
  refine wpAny_bind (wpAny_newList ?_ hlen)
  have hoL : (h'.push (seqObj "list" acc.toList.toArray 0)).get? h'.objs.size = some (seqObj "list" acc.toList.toArray 0) := Heap.get?_push_size _ rfl
  show wpAny _ _ _ _ _ { s with heap := h'.push (seqObj "list" acc.toList.toArray 0), toks := tk }
  have isP : ∀ v ∈ acc.toList, ∃ t i j, v = Value.ref t ∧ H t = some (.tup [.int i, .int j]) ∧ pairAt H (.ref t) = (i, j) := fun v hv => by
    rw [ea] at hv
    obtain ⟨x, hx, rfl⟩ := List.mem_map.mp hv
    obtain ⟨p, hp⟩ := kt_get pr hk x hx
    exact ⟨_, p.1, p.2, rfl, hp, pairAt_of hp⟩
  have hp : ∀ v ∈ acc.toList, Srt.IsPair (h'.push (seqObj "list" acc.toList.toArray 0)) v (pairAt H (backV v)).1 (pairAt H (backV v)).2 := fun v hv => by
    obtain ⟨t, i, j, rfl, ht, hpa⟩ := isP v hv
    obtain ⟨_, its2, r2, o2, ho2, hc2, n2, hd2⟩ := I1.hok _ _ ht
    obtain ⟨u1, u2, rfl, ri, rj⟩ := vals2 r2
    obtain ⟨t1, rfl⟩ := ri
    obtain ⟨t2, rfl⟩ := rj
    show Srt.IsPair _ _ (pairAt H (.ref t)).1 (pairAt H (.ref t)).2
    rw [hpa]
    exact ⟨t, o2, t1, t2, n2, rfl, Heap.get?_push_of_some _ ho2, hc2, hd2⟩
  refine wpAny_bind (wpAny_holding (wpAny_call_entry PyProof.Rows.slot_list_sort ⟨_, hoL, rfl⟩ PyProof.Rows.entry_list_sort
    (SrtO.list_sort_ord (s := { s with heap := h'.push (seqObj "list" acc.toList.toArray 0), toks := tk }) (SrtO.swo_lex fun u => pairAt H (backV u)) hoL hlen (fun h2 => SrtO.pairs_sortableO (by omega) hp fun o e => ?_) fun out h1 h2 => ⟨_, rfl, ?_⟩) (PyProof.Rows.args_list_sort _)))
  · have e' : some o = some (seqObj "list" acc.toList.toArray 0) := e.symm.trans hoL
    cases e'
    intro c
    exact absurd (Value.type.inj c) (by decide)
  · have h3 : ∀ u ∈ out, ∃ t i j, u = Value.ref t ∧ H t = some (.tup [.int i, .int j]) ∧ pairAt H (.ref t) = (i, j) := fun u hu => isP u (h2.perm.mem_iff.mp hu)
    obtain ⟨e', he'⟩ := PyProof.Rows.sortedHeap_at (vs := acc.toList) (out := out.toArray) hoL
    -- the addresses and their pairs
    have lift : ∀ l : List Value, (∀ u ∈ l, ∃ t i j, u = Value.ref t ∧ H t = some (.tup [.int i, .int j]) ∧ pairAt H (.ref t) = (i, j)) → ∃ zs : List (Addr × Int × Int), l = zs.map (fun z => Value.ref z.1) ∧ (∀ z ∈ zs, H z.1 = some (.tup [.int z.2.1, .int z.2.2])) ∧ l.map (fun u => pairAt H (backV u)) = zs.map (·.2) := by
      intro l
      induction l with
      | nil => intro _; exact ⟨[], rfl, fun z hz => (by cases hz), rfl⟩
      | cons u l ih =>
        intro hl
        obtain ⟨t, i, j, e1, e2, e3⟩ := hl u List.mem_cons_self
        obtain ⟨zs, g1, g2, g3⟩ := ih fun v hv => hl v (List.mem_cons_of_mem _ hv)
        subst e1
        refine ⟨(t, i, j) :: zs, by rw [List.map_cons, ← g1], fun z hz => ?_, ?_⟩
        · rcases List.mem_cons.mp hz with q | q
          · subst q; exact e2
          · exact g2 z q
        · rw [List.map_cons, List.map_cons, g3]
          congr 1
    obtain ⟨zs, z1, z2, z3⟩ := lift out h3
    have hperm : (zs.map (·.2)).Perm ps := by
      rw [← z3, ← kt_pairs pr hk]
      have e := h2.perm.map (fun u => pairAt H (backV u))
      rw [ea, List.map_map] at e
      exact e
    have hsort : (zs.map (·.2)).Pairwise lexP := by
      rw [← z3, List.pairwise_map]
      refine List.Pairwise.imp (fun {x y} h => ?_) h1
      have h' := SrtO.lexB_no.mp h
      unfold lexP
      omega
    have rv : Vals (zs.map fun z => V.ref z.1) out := by
      rw [z1]
      clear z1 z2 z3 hperm hsort
      induction zs with
      | nil => exact .nil
      | cons z zs ih => exact .cons rfl ih
    have hlen2 : (zs.map fun z => V.ref z.1).length ≤ sizeLine := by
      have e := h2.len
      have e2 := congrArg List.length z1
      rw [List.length_map] at e2 ⊢
      omega
    refine wpAny_pure ⟨_, rfl, .ref h'.objs.size, upd H h'.objs.size (.lst (zs.map fun z => V.ref z.1)), I1.laid (t' := tk) (fun b u e => ?_) (Nat.le_refl _)
      (show ObjOk X.prog X.w _ _ _ (.lst (zs.map fun z => V.ref z.1)) from ⟨hlen2, out, e', rv, he'⟩), rfl, q zs _ hperm hsort z2 (I1.hok.fresh (Nat.le_refl _))⟩
    have hb : b < h'.objs.size := Heap.lt_size e
    rw [PyProof.Rows.sortedHeap_old (Nat.ne_of_lt hb) (by rw [size_push']; exact Nat.lt_succ_of_lt hb)]
    exact Heap.get?_push_of_some _ e
/-! ### sorted(a tuple of texts) -/
def rSortedSU (K : PySem.W.Frag) : List V → Hp → VK → Prop := fun vs H Q => ∃ (a : Addr) (xs : List Str), vs = [V.ref a] ∧ SqT K H a (xs.map V.str) ∧ xs.length < 64 ∧
  ∀ (ys : List Str) (p : Addr), ys.Perm xs → PyProof.Rows.sortedS ys = true → H p = none → Q (.ref p) (upd H p (.lst (ys.map V.str)))
theorem cr_sortedSU {X : Cx} : CallR X (.builtin "sorted") (rSortedSU X.K) := by
  intro pins s σ H vs us Q I r h
  obtain ⟨a, xs, rfl, hs, h64, q⟩ := h
  obtain ⟨its, rv, ⟨o, ho, hc, n, hd⟩, _⟩ := I.tuple hs
  rw [Vals.ref1 r]
  have hlen0 := rv.length
  rw [List.length_map] at hlen0
  have hS := rv.strs
  have hz : its.length < 64 := by omega
  have hz2 : its.length ≤ sizeLine := by rw [sizeLine_eq]; omega
  refine Calls.call_function_entry PyProof.Rows.kind_sorted PyProof.Rows.plain_sorted PyProof.Rows.entry_sorted (PyProof.Rows.args_sorted1 _) ?_
  unfold Builtin.«sorted»
  refine wpAny_bind (m := checkCount "sorted" 1 1 _) (wpAny_pure ?_)
  refine wpAny_bind (PySem.wpAny_collect_seq a (.inr rfl) ho hc hd (fun h' hk => ?_) (by simpa using hz2))
  have I1 : Inv X pins σ H { s with heap := h' } := I.kept (t' := s.toks) hk
  refine wpAny_bind (wpAny_newList ?_ (by simpa using hz2))
  have hoL : (h'.push (seqObj "list" its.toArray 0)).get? h'.objs.size = some (seqObj "list" its.toArray 0) := Heap.get?_push_size _ rfl
  show wpAny _ _ _ _ _ { s with heap := h'.push (seqObj "list" its.toArray 0) }
  refine wpAny_bind (wpAny_holding (wpAny_call_entry PyProof.Rows.slot_list_sort ⟨_, hoL, rfl⟩ PyProof.Rows.entry_list_sort
    (PyProof.Rows.list_sort_treeK PyProof.Rows.strKind_oneLt hoL hS.keysOf (fun v₁ v₂ rest e => PyProof.Rows.keyKind_strs (by rw [← e]; exact hS)) hz fun st' a1 a2 => ⟨_, rfl, ?_⟩) (PyProof.Rows.args_list_sort _)))
  obtain ⟨ys, h1, h2, h3⟩ := PyProof.Rows.sorted_out_str hS a1 a2
  obtain ⟨e', he'⟩ := PyProof.Rows.sortedHeap_at (vs := its) (out := (PyProof.Rows.arrOf st').map (·.2)) hoL
  have hlen : (ys.map V.str).length ≤ sizeLine := by rw [List.length_map, h2.length_eq, sizeLine_eq]; omega
  refine wpAny_pure ⟨_, rfl, .ref h'.objs.size, upd H h'.objs.size (.lst (ys.map V.str)), I1.laid (t' := s.toks) (fun b u e => ?_) (Nat.le_refl _)
    (show ObjOk X.prog X.w _ _ _ (.lst (ys.map V.str)) from ⟨hlen, _, e', vals_of_strs h1, he'⟩), rfl, q ys _ h2 h3 (I1.hok.fresh (Nat.le_refl _))⟩
  have hb : b < h'.objs.size := Heap.lt_size e
  rw [PyProof.Rows.sortedHeap_old (Nat.ne_of_lt hb) (by rw [size_push']; exact Nat.lt_succ_of_lt hb)]
  exact Heap.get?_push_of_some _ e
end DL

/-! DL29: words of dicts with tuple keys; get, len, sorted, extend, sum, min. -/
namespace DL
open PySem PySem.Spec PyProof.Rows L2
open Evl (Ex)
def putT (kvs : List (List Key × D)) (k : List Key) (v : D) : List (List Key × D) :=
  if (kvs.any fun kv => decide (kv.1 = k)) = true then kvs.map (fun kv => if kv.1 = k then (kv.1, v) else kv) else kvs ++ [(k, v)]
def getT (kvs : List (List Key × D)) (k : List Key) : Option D := (kvs.find? fun kv => decide (kv.1 = k)).map (·.2)
theorem repT_any {K : PySem.W.Frag} {G : Hp} (k : List Key) : ∀ {ds : List (List Key × D)} {vs : List (List Key × V)}, RepT K G ds vs → (ds.any fun kv => decide (kv.1 = k)) = (vs.any fun kv => decide (kv.1 = k))
  | [], vs, h => by unfold RepT at h; subst h; rfl
  | (k', d) :: ds, vs, h => by
    unfold RepT at h
    obtain ⟨v, vr, e, h1, h2⟩ := h
    subst e
    rw [List.any_cons, List.any_cons, repT_any k h2]
theorem repT_map {K : PySem.W.Frag} {G : Hp} {k : List Key} {x : D} {w : V} (hx : Rep K G x w) : ∀ {ds : List (List Key × D)} {vs : List (List Key × V)}, RepT K G ds vs →
    RepT K G (ds.map (fun kv => if kv.1 = k then (kv.1, x) else kv)) (vs.map (fun kv => if kv.1 = k then (kv.1, w) else kv))
  | [], vs, h => by unfold RepT at h; subst h; unfold RepT; rfl
  | (k', d) :: ds, vs, h => by
    unfold RepT at h
    obtain ⟨v, vr, e, h1, h2⟩ := h
    subst e
    have ih := repT_map (k := k) hx h2
    rw [List.map_cons, List.map_cons]
    by_cases q : k' = k
    · simp only [if_pos q]
      unfold RepT
      exact ⟨w, _, rfl, hx, ih⟩
    · simp only [if_neg q]
      unfold RepT
      exact ⟨v, _, rfl, h1, ih⟩
theorem repT_app {K : PySem.W.Frag} {G : Hp} {k : List Key} {x : D} {w : V} (hx : Rep K G x w) : ∀ {ds : List (List Key × D)} {vs : List (List Key × V)}, RepT K G ds vs → RepT K G (ds ++ [(k, x)]) (vs ++ [(k, w)])
  | [], vs, h => by
    unfold RepT at h
    subst h
    show RepT K G [(k, x)] [(k, w)]
    unfold RepT
    exact ⟨w, [], rfl, hx, by unfold RepT; rfl⟩
  | (k', d) :: ds, vs, h => by
    unfold RepT at h
    obtain ⟨v, vr, e, h1, h2⟩ := h
    subst e
    show RepT K G ((k', d) :: (ds ++ [(k, x)])) ((k', v) :: (vr ++ [(k, w)]))
    unfold RepT
    exact ⟨v, _, rfl, h1, repT_app hx h2⟩
theorem repT_put {K : PySem.W.Frag} {G : Hp} {k : List Key} {x : D} {w : V} {ds : List (List Key × D)} {vs : List (List Key × V)} (h : RepT K G ds vs) (hx : Rep K G x w) : RepT K G (putT ds k x) (putK vs k w) := by
  unfold putT putK
  rw [repT_any k h]
  split
  · exact repT_map hx h
  · exact repT_app hx h
theorem repT_val {K : PySem.W.Frag} {G : Hp} {k : List Key} : ∀ {ds : List (List Key × D)} {vs : List (List Key × V)}, RepT K G ds vs → (getT ds k = none ∧ valV vs k = none) ∨ ∃ x v, getT ds k = some x ∧ valV vs k = some v ∧ Rep K G x v
  | [], vs, h => by unfold RepT at h; subst h; exact .inl ⟨rfl, rfl⟩
  | (k', d) :: ds, vs, h => by
    unfold RepT at h
    obtain ⟨v, vr, e, h1, h2⟩ := h
    subst e
    by_cases q : k' = k
    · refine .inr ⟨d, v, by simp [getT, q], by simp [valV, q], h1⟩
    · have ih := repT_val (k := k) h2
      have e1 : getT ((k', d) :: ds) k = getT ds k := by simp [getT, q]
      have e2 : valV ((k', v) :: vr) k = valV vr k := by simp [valV, q]
      rw [e1, e2]
      exact ih
theorem repT_len {K : PySem.W.Frag} {G : Hp} : ∀ {ds : List (List Key × D)} {vs : List (List Key × V)}, RepT K G ds vs → vs.length = ds.length
  | [], vs, h => by unfold RepT at h; subst h; rfl
  | (k', d) :: ds, vs, h => by
    unfold RepT at h
    obtain ⟨v, vr, e, h1, h2⟩ := h
    subst e
    simp [repT_len h2]

theorem putT_len (kvs : List (List Key × D)) (k : List Key) (v : D) : (putT kvs k v).length ≤ kvs.length + 1 := by
  unfold putT
  split
  · rw [List.length_map]; omega
  · simp
def keysL : List D → Option (List Key)
  | [] => some []
  | x :: xs => match dKey x with
    | some k => (keysL xs).map (k :: ·)
    | none => none
/-- a tuple as a key -/
def dKeyT : D → Option (List Key)
  | .tup xs => keysL xs
  | _ => none
theorem keysL_rep {K : PySem.W.Frag} {G : Hp} : ∀ {xs : List D} {ks : List Key} {vs : List V}, keysL xs = some ks → Reps K G xs vs → vs = ks.map kV
  | [], ks, vs, e, h => by cases e; unfold Reps at h; subst h; rfl
  | x :: xs, ks, vs, e, h => by
    unfold Reps at h
    obtain ⟨v, vr, e1, h1, h2⟩ := h
    subst e1
    unfold keysL at e
    cases q : dKey x with
    | none => rw [q] at e; cases e
    | some k =>
      rw [q] at e
      cases q2 : keysL xs with
      | none => rw [q2] at e; cases e
      | some kr =>
        rw [q2] at e
        cases e
        rw [List.map_cons, ← keysL_rep q2 h2, dKey_rep q h1]
theorem dKeyT_view {K : PySem.W.Frag} {B G H : Hp} {σ : St} {δ : List Sl} {r : R} {v : V} {x : D} {k : List Key} (F : Frame K B G H σ δ) (h : RW K G r v) (e : view δ r = some x) (hk : dKeyT x = some k) : ∃ b, v = .ref b ∧ H b = some (.tup (k.map kV)) := by
  cases x with
  | tup xs =>
    obtain ⟨a, vs, e1, h1, h2⟩ := view_tupH F h e
    have e2 := keysL_rep (show keysL xs = some k from hk) h2
    subst e2
    exact ⟨a, e1, h1⟩
  | _ => cases hk
section
variable {c : Cd}
theorem view_getT {B G H : Hp} {σ : St} {δ : List Sl} {r1 r2 : R} {v1 v2 : V} {x : D} {kds : List (List Key × D)} {key : List Key} (F : Frame c.K B G H σ δ) (h1 : RW c.K G r1 v1) (h2 : RW c.K G r2 v2) (e1 : view δ r1 = some x) (e2 : view δ r2 = some (.dcT kds)) (hk : dKeyT x = some key) :
    ∃ a, v2 = .ref a ∧ ((getT kds key = none ∧ DGet H a v1 none) ∨ ∃ y v, getT kds key = some y ∧ DGet H a v1 (some v) ∧ Rep c.K G y v) := by
  obtain ⟨a, vs, e, ha, hr⟩ := view_dcT F h2 e2
  obtain ⟨b, ek, hb⟩ := dKeyT_view F h1 e1 hk
  refine ⟨a, e, ?_⟩
  rcases repT_val (k := key) hr with ⟨q1, q2⟩ | ⟨y, v, q1, q2, q3⟩
  · exact .inl ⟨q1, .inr ⟨vs, key, b, ha, ek, hb, q2.symm⟩⟩
  · exact .inr ⟨y, v, q1, .inr ⟨vs, key, b, ha, ek, hb, q2.symm⟩, q3⟩
/-! ### in -/
def dInT (f : Bool → Bool) : Dop := fun x y k => ∃ key kds, dKeyT x = some key ∧ y = .dcT kds ∧ k (.d (.bl (f (getT kds key).isSome)))
def dInC (f : Bool → Bool) : Dop := fun x y k => dInB f x y k ∨ dInT f x y k
theorem opd_inT : OpD c rInK (dInT id) := by
  intro B G H σ δ r1 r2 v1 v2 x y Ψ Q F h1 h2 e1 e2 hf k
  obtain ⟨key, kds, hk, ey, q⟩ := hf
  subst ey
  obtain ⟨a, e, g⟩ := view_getT F h1 h2 e1 e2 hk
  rcases g with ⟨g1, g2⟩ | ⟨z, v, g1, g2, _⟩
  · rw [g1] at q
    exact ⟨a, none, e, g2, k _ _ G H q (Ex.refl G) (Ex.refl H) F (rep_bl (K := c.K) (G := G))⟩
  · rw [g1] at q
    exact ⟨a, some v, e, g2, k _ _ G H q (Ex.refl G) (Ex.refl H) F (rep_bl (K := c.K) (G := G))⟩
theorem opd_notInT : OpD c rNotInK (dInT not) := by
  intro B G H σ δ r1 r2 v1 v2 x y Ψ Q F h1 h2 e1 e2 hf k
  obtain ⟨key, kds, hk, ey, q⟩ := hf
  subst ey
  obtain ⟨a, e, g⟩ := view_getT F h1 h2 e1 e2 hk
  rcases g with ⟨g1, g2⟩ | ⟨z, v, g1, g2, _⟩
  · rw [g1] at q
    exact ⟨a, none, e, g2, k _ _ G H q (Ex.refl G) (Ex.refl H) F (rep_bl (K := c.K) (G := G))⟩
  · rw [g1] at q
    exact ⟨a, some v, e, g2, k _ _ G H q (Ex.refl G) (Ex.refl H) F (rep_bl (K := c.K) (G := G))⟩
theorem opd_inCI : OpD c (rInB c.K) (dInC id) := fun B G H σ δ r1 r2 v1 v2 x y Ψ Q F h1 h2 e1 e2 hf k => hf.elim
  (fun hf => opd_inBI B G H σ δ r1 r2 v1 v2 x y Ψ Q F h1 h2 e1 e2 hf k) (fun hf => .inr (opd_inT B G H σ δ r1 r2 v1 v2 x y Ψ Q F h1 h2 e1 e2 hf k))
theorem opd_inCN : OpD c (rNotInB c.K) (dInC not) := fun B G H σ δ r1 r2 v1 v2 x y Ψ Q F h1 h2 e1 e2 hf k => hf.elim
  (fun hf => opd_inBN B G H σ δ r1 r2 v1 v2 x y Ψ Q F h1 h2 e1 e2 hf k) (fun hf => .inr (opd_notInT B G H σ δ r1 r2 v1 v2 x y Ψ Q F h1 h2 e1 e2 hf k))
/-! ### d[k] -/
def dIxC : Dop := fun x y k => dIxB x y k ∨ ∃ key kds z, dKeyT y = some key ∧ x = .dcT kds ∧ getT kds key = some z ∧ k (.d z)
theorem opd_ixC : OpD c (rIxB c.K) dIxC := by
  intro B G H σ δ r1 r2 v1 v2 x y Ψ Q F h1 h2 e1 e2 hf k
  rcases hf with hf | ⟨key, kds, z, hk, ex, hz, q⟩
  · exact opd_ixB B G H σ δ r1 r2 v1 v2 x y Ψ Q F h1 h2 e1 e2 hf k
  · subst ex
    obtain ⟨a, e, g⟩ := view_getT F h2 h1 e2 e1 hk
    rcases g with ⟨g1, _⟩ | ⟨w, v, g1, g2, g3⟩
    · rw [g1] at hz; cases hz
    · rw [g1] at hz
      cases hz
      exact .inr ⟨a, v, e, g2, k _ _ G H q (Ex.refl G) (Ex.refl H) F g3⟩
end
section
variable {x y z : D} {k : R → Prop} {kds : List (Key × D)} {key : Key} {tds : List (List Key × D)} {tk : List Key} {xs : List D} {i : Int} {t : Str} {ch : Nat}
theorem dInC_tI (hk : dKeyT x = some tk) (h : k (.d (.bl (getT tds tk).isSome))) : dInC id x (.dcT tds) k := .inr ⟨tk, tds, hk, rfl, h⟩
theorem dInC_tN (hk : dKeyT x = some tk) (h : k (.d (.bl (!(getT tds tk).isSome)))) : dInC not x (.dcT tds) k := .inr ⟨tk, tds, hk, rfl, h⟩
theorem dInC_kI (hk : dKey x = some key) (h : k (.d (.bl (DL.getD kds key).isSome))) : dInC id x (.dct kds) k := .inl (dInB_kI hk h)
theorem dInC_kN (hk : dKey x = some key) (h : k (.d (.bl (!(DL.getD kds key).isSome)))) : dInC not x (.dct kds) k := .inl (dInB_kN hk h)
theorem dInC_sI {z : Str} (h : k (.d (.bl (decide (ch ∈ z.cps.toList))))) : dInC id (.str ⟨#[ch]⟩) (.str z) k := .inl (dInB_sI h)
theorem dInC_lI (h1 : flatD x = true) (h2 : xs.all flatD = true) (h : k (.d (.bl (inD x xs)))) : dInC id x (.lst xs) k := .inl (dInB_lI h1 h2 h)
theorem dInC_lN (h1 : flatD x = true) (h2 : xs.all flatD = true) (h : k (.d (.bl (!inD x xs)))) : dInC not x (.lst xs) k := .inl (dInB_lN h1 h2 h)
theorem dInC_uI (h1 : flatD x = true) (h2 : xs.all flatD = true) (h : k (.d (.bl (inD x xs)))) : dInC id x (.tup xs) k := .inl (dInB_tI h1 h2 h)
theorem dInC_uN (h1 : flatD x = true) (h2 : xs.all flatD = true) (h : k (.d (.bl (!inD x xs)))) : dInC not x (.tup xs) k := .inl (dInB_tN h1 h2 h)
theorem dIxC_l (h1 : atI xs i = some x) (h : k (.d x)) : dIxC (.lst xs) (.int i) k := .inl (dIxB_l h1 h)
theorem dIxC_r (h1 : atI xs i = some x) (h : k (.d x)) : dIxC (.ro xs) (.int i) k := .inl (dIxB_r h1 h)
theorem dIxC_u (h1 : atI xs i = some x) (h : k (.d x)) : dIxC (.tup xs) (.int i) k := .inl (dIxB_t h1 h)
theorem dIxC_s (h0 : t.length ≤ 16000000) (h1 : atI t.cps.toList i = some ch) (h : k (.d (.str ⟨#[ch]⟩))) : dIxC (.str t) (.int i) k := .inl (dIxB_s h0 h1 h)
theorem dIxC_k (hk : dKey y = some key) (h1 : DL.getD kds key = some z) (h : k (.d z)) : dIxC (.dct kds) y k := .inl (dIxB_k hk h1 h)
theorem dIxC_t (hk : dKeyT y = some tk) (h1 : getT tds tk = some z) (h : k (.d z)) : dIxC (.dcT tds) y k := .inr ⟨tk, tds, z, hk, rfl, h1, h⟩
end
/-! ### d[k] = v -/
theorem own_dcT {K : PySem.W.Frag} {B G H : Hp} {σ : St} {δ : List Sl} {i : Nat} {a : Addr} {ds : List (List Key × D)} (F : Frame K B G H σ δ) (e : δ[i]? = some (.own a (.dcT ds))) : ∃ xs, H a = some (.dT xs) ∧ RepT K G ds xs := by
  obtain ⟨ov, _, _, h⟩ := F.get e
  exact h
section
variable {c : Cd} {p : Bool} {δ : List Sl} {ta tb te ty : TE} {Φ : R → List Sl → Prop}
theorem wg_setT {r : R} {Φ : List Sl → Prop} (h : ∃ x, frz r = .d x ∧ WE c false ta δ fun r1 δ1 => ∃ i a, r1 = .bor i a ∧ WE c false tb δ1 fun r2 δ2 =>
    ∃ y key kds, view δ2 (frz r2) = some y ∧ dKeyT y = some key ∧ δ2[i]? = some (.own a (.dcT kds)) ∧ kds.length < 100000 ∧ ∀ δ3, δ3 = δ2.set i (.own a (.dcT (putT kds key x))) → Φ δ3) :
    WG c (gSub ta tb rSetB) r δ Φ := by
  intro B G H σ v Q F x k rv
  obtain ⟨y, hy, h⟩ := h
  obtain ⟨G0, e0, F0, rw0⟩ := k.weak F
  rw [hy] at rw0
  refine h B G0 H σ _ F0 (c.mono _ _ _ e0 x) fun r1 δ1 v1 G1 H1 w1 e1 F1 rv1 p1 => ?_
  obtain ⟨i, a, er, w1⟩ := w1
  subst er
  obtain ⟨ev, _⟩ := rv1
  subst ev
  refine w1 B G1 H1 σ _ F1 (c.mono _ _ _ (e0.trans e1) x) fun r2 δ2 v2 G2 H2 w2 e2 F2 rv2 p2 => ?_
  obtain ⟨w, key, kds, hw, hk, hd, hl, w2⟩ := w2
  obtain ⟨G2', e2', F2', rw2⟩ := rv2.weak F2
  obtain ⟨b, ev2, hb⟩ := dKeyT_view F2' rw2 hw hk
  subst ev2
  have hv : Rep c.K G2' y v := Rep.mono (e1.trans (e2.trans e2')) (show Rep c.K G0 y v from rw0)
  obtain ⟨xs, hx, hr⟩ := own_dcT F2' hd
  have hl2 : xs.length < sizeLine := by rw [repT_len hr, sizeLine_eq]; omega
  refine .inr ⟨a, _, rfl, .inr ⟨xs, key, b, hx, rfl, hb, hl2, rfl⟩, ?_⟩
  exact rv _ _ G2' _ (w2 _ rfl) (e0.trans (e1.trans (e2.trans e2'))) (frame_mut F2' hd ⟨_, upd_same, repT_put hr hv⟩)
theorem we_dnewT (h : ∀ a, Φ (.own a (.dcT [])) δ) : WE c p tDNewT δ Φ := by
  intro B G H σ Q F _ k a ha
  obtain ⟨h1, h2, h3⟩ := F.fresh ha
  exact k _ δ _ G _ (h a) (Ex.refl G) (F.ex (Ex.new ha)) ⟨rfl, ⟨[], upd_same, by unfold RepT; rfl⟩, h1, h2, h3⟩ fun _ => ⟨rfl, Ex.new ha⟩
/-! ### d.get(k) -/
theorem isD_view {B G H : Hp} {σ : St} {r : R} {v : V} {x : D} (F : Frame c.K B G H σ δ) (h : RW c.K G r v) (e : view δ r = some x) (hx : (∃ kds, x = .dct kds) ∨ ∃ kds, x = .dcT kds) : ∃ a, v = .ref a ∧ IsD H a := by
  rcases hx with ⟨kds, rfl⟩ | ⟨kds, rfl⟩
  · obtain ⟨a, xs, e1, h1, _⟩ := view_dct F h e; exact ⟨a, e1, .inl ⟨xs, h1⟩⟩
  · obtain ⟨a, xs, e1, h1, _⟩ := view_dcT F h e; exact ⟨a, e1, .inr ⟨xs, h1⟩⟩
/-- what d.get(k) tells -/
def getV (x y : D) (o : Option D) : Prop := (∃ key kds, dKey y = some key ∧ x = .dct kds ∧ o = DL.getD kds key) ∨ ∃ key kds, dKeyT y = some key ∧ x = .dcT kds ∧ o = getT kds key
end
theorem getV_k {kds : List (Key × D)} {y : D} {key : Key} (hk : dKey y = some key) : getV (.dct kds) y (DL.getD kds key) := .inl ⟨key, kds, hk, rfl, rfl⟩
theorem getV_t {kds : List (List Key × D)} {y : D} {key : List Key} (hk : dKeyT y = some key) : getV (.dcT kds) y (getT kds key) := .inr ⟨key, kds, hk, rfl, rfl⟩
/-! ### len -/
def rLenK : List V → Hp → VK → Prop := fun xs H Q => ∃ a kvs, xs = [.ref a] ∧ Rd H a (.dK kvs) ∧ Q (.int kvs.length) H
def rLenT : List V → Hp → VK → Prop := fun xs H Q => ∃ a kvs, xs = [.ref a] ∧ Rd H a (.dT kvs) ∧ Q (.int kvs.length) H
theorem call_lenK {X : Cx} : CallR X (.builtin "len") rLenK := by
  intro pins s σ H xs us Q I r h
  obtain ⟨a, kvs, rfl, hd, q⟩ := h
  obtain ⟨u, rfl, rx⟩ := vals1 r
  cases rx
  exact d_len I hd fun t s' I' => ⟨.int kvs.length, H, I', ⟨t, rfl⟩, q⟩
theorem call_lenT {X : Cx} : CallR X (.builtin "len") rLenT := by
  intro pins s σ H xs us Q I r h
  obtain ⟨a, kvs, rfl, hd, q⟩ := h
  obtain ⟨u, rfl, rx⟩ := vals1 r
  cases rx
  obtain ⟨z, hs, ks, pr, o, es, ep, ho, hx, hdt, he, hn⟩ := (show ObjOk X.prog X.w H s.heap a (.dT kvs) from hd.ok I.hok)
  have l1 : es.size = ks.length := size_of_entries he
  have l2 : kvs.length = ks.length := Paired.length pr
  have l3 : (es.size : Int) = (kvs.length : Int) := by omega
  refine PyProof.Rows.call_len_slot (n := (kvs.length : Int)) (T := "dict") ⟨o, ho, hx.1⟩ PySem.F.slot_dict_len (fun Q' hq => ?_) (by omega) (by rw [sizeLine_eq] at z; omega) ⟨.int kvs.length, H, I.tok _, ⟨_, rfl⟩, q⟩
  have hraw : s.heap.DictRaw a es ep := ⟨o, ho, hx, hdt⟩
  exact call_len_raw hs hraw (by rw [l3]; exact hq)
def rLenB (K : PySem.W.Frag) : List V → Hp → VK → Prop := fun xs H Q => rLenA K xs H Q ∨ rLenK xs H Q ∨ rLenT xs H Q
theorem call_lenB {X : Cx} : CallR X (.builtin "len") (rLenB X.K) := fun pins s σ H xs us Q I r h => h.elim (call_lenA pins s σ H xs us Q I r) fun h => h.elim (call_lenK pins s σ H xs us Q I r) (call_lenT pins s σ H xs us Q I r)
def lenB : D → Option Nat
  | .dct kds => some kds.length
  | .dcT kds => some kds.length
  | x => lenD x
theorem cad_lenB {c : Cd} : CaD c (rLenB c.K) fun ds k => ∃ x, ds = [x] ∧ strOk x ∧ ∃ n, lenB x = some n ∧ k (.d (.int (n : Int))) := by
  intro B G H σ δ rs vs ds Ψ Q F hr hv hd k
  have hd' := hd
  obtain ⟨x, e, hs, n, hn, q⟩ := hd
  subst e
  obtain ⟨r1, w, e1, e2, h1, h2⟩ := view_one hv hr
  have done : lenD x = some n → rLenB c.K vs H Q := fun hn' => .inl (cad_len B G H σ δ rs vs [x] Ψ Q F hr hv ⟨x, rfl, hs, n, hn', q⟩ k)
  have fin := fun v (hv : v = V.int n) => k _ v G H q (Ex.refl G) (Ex.refl H) F (by rw [hv]; exact rep_int (K := c.K) (G := G))
  cases x with
  | dct kds =>
    cases hn
    subst e2
    obtain ⟨a, xs, e3, g1, g2⟩ := view_dct F h2 h1
    subst e3
    exact .inr (.inl ⟨a, xs, rfl, g1, fin _ (by rw [repK_len g2])⟩)
  | dcT kds =>
    cases hn
    subst e2
    obtain ⟨a, xs, e3, g1, g2⟩ := view_dcT F h2 h1
    subst e3
    exact .inr (.inr ⟨a, xs, rfl, g1, fin _ (by rw [repT_len g2])⟩)
  | _ => exact done hn
theorem ex_lenB {x : D} {n : Nat} {P : Nat → Prop} (h1 : strOk x) (h2 : lenB x = some n) (q : P n) : ∃ x', [x] = [x'] ∧ strOk x' ∧ ∃ n, lenB x' = some n ∧ P n := ⟨x, rfl, h1, n, h2, q⟩
/-! ### sorted -/
def pd (p : Int × Int) : D := .tup [.int p.1, .int p.2]
def rSortB (K : PySem.W.Frag) : List V → Hp → VK → Prop := fun vs H Q => rSortedDT vs H Q ∨ L2.rSortedPO K vs H Q ∨ L2.rSortedS K vs H Q ∨ rSortedSU K vs H Q
theorem call_sortB {X : Cx} (hc : X.calm = true) : CallR X (.builtin "sorted") (rSortB X.K) := fun pins s σ H xs us Q I r h =>
  h.elim (cr_sortedDT hc pins s σ H xs us Q I r) fun h => h.elim (cr_sortedPO pins s σ H xs us Q I r) fun h => h.elim (cr_sortedS pins s σ H xs us Q I r) (cr_sortedSU pins s σ H xs us Q I r)
theorem reps_pd {K : PySem.W.Frag} {G : Hp} : ∀ (zs : List (Addr × Int × Int)), (∀ z ∈ zs, G z.1 = some (.tup [.int z.2.1, .int z.2.2])) → Reps K G ((zs.map (·.2)).map pd) (zs.map fun z => V.ref z.1)
  | [], _ => reps_nil
  | z :: zs, h => by
    refine reps_cons ?_ (reps_pd zs fun w hw => h w (List.mem_cons_of_mem _ hw))
    show Rep K G (.tup [.int z.2.1, .int z.2.2]) (.ref z.1)
    unfold Rep
    exact ⟨z.1, _, rfl, h z List.mem_cons_self, reps_cons rep_int (reps_cons rep_int reps_nil)⟩
theorem repT_keys {K : PySem.W.Frag} {G : Hp} : ∀ {ds : List (List Key × D)} {vs : List (List Key × V)}, RepT K G ds vs → vs.map (·.1) = ds.map (·.1)
  | [], vs, h => by unfold RepT at h; subst h; rfl
  | (k, d) :: ds, vs, h => by
    unfold RepT at h
    obtain ⟨v, vr, e, _, h2⟩ := h
    subst e
    rw [List.map_cons, List.map_cons, repT_keys h2]
theorem pd_rep {K : PySem.W.Frag} {G : Hp} {p : Int × Int} {w : V} (h : Rep K G (pd p) w) : ∃ t : Addr, w = .ref t ∧ G t = some (.tup [.int p.1, .int p.2]) := by
  have h1 : Rep K G (.tup [.int p.1, .int p.2]) w := h
  unfold Rep at h1
  obtain ⟨a, xs, e1, g1, g2⟩ := h1
  have e2 : xs = [V.int p.1, V.int p.2] := by
    unfold Reps at g2
    obtain ⟨u1, r1, q1, q2, q3⟩ := g2
    unfold Reps at q3
    obtain ⟨u2, r2, q4, q5, q6⟩ := q3
    unfold Reps at q6
    unfold Rep at q2 q5
    rw [q1, q4, q6, q2, q5]
  exact ⟨a, e1, by rw [g1, e2]⟩
theorem pds_addr {K : PySem.W.Frag} {G : Hp} : ∀ {ps : List (Int × Int)} {vs : List V}, Reps K G (ps.map pd) vs → ∀ v ∈ vs, ∃ (t : Addr) (p : Int × Int), v = V.ref t ∧ G t = some (.tup [.int p.1, .int p.2])
  | [], vs, h, v, hv => by unfold Reps at h; rw [h] at hv; cases hv
  | p :: ps, vs, h, v, hv => by
    have h' : Reps K G (pd p :: ps.map pd) vs := h
    unfold Reps at h'
    obtain ⟨w, vr, e, h1, h2⟩ := h'
    subst e
    rcases List.mem_cons.mp hv with q | q
    · subst q
      obtain ⟨t, e1, g1⟩ := pd_rep h1
      exact ⟨t, p, e1, g1⟩
    · exact pds_addr h2 v q
theorem pds_map {K : PySem.W.Frag} {G H : Hp} (e : Ex G H) : ∀ {ps : List (Int × Int)} {vs : List V}, Reps K G (ps.map pd) vs → vs.map (pairAt H) = ps
  | [], vs, h => by unfold Reps at h; rw [h]; rfl
  | p :: ps, vs, h => by
    have h' : Reps K G (pd p :: ps.map pd) vs := h
    unfold Reps at h'
    obtain ⟨w, vr, e0, h1, h2⟩ := h'
    subst e0
    obtain ⟨t, e1, g1⟩ := pd_rep h1
    rw [List.map_cons, pds_map e h2, e1, pairAt_of (e _ _ g1)]
theorem cad_sortB {c : Cd} : CaD c (rSortB c.K) fun ds k => ∃ x, ds = [x] ∧ ((∃ (kds : List (List Key × D)) (ps : List (Int × Int)), x = .dcT kds ∧ kds.map (·.1) = ps.map pk ∧ ∀ (a : Addr) (qs : List (Int × Int)), qs.Perm ps → qs.Pairwise lexP → k (.own a (.lst (qs.map pd)))) ∨
    (∃ ps : List (Int × Int), x = .lst (ps.map pd) ∧ ∀ (a : Addr) (qs : List (Int × Int)), qs.Perm ps → qs.Pairwise lexP → k (.own a (.lst (qs.map pd)))) ∨
    (∃ ss : List Str, x = .lst (ss.map .str) ∧ ss.length < 64 ∧ ∀ (a : Addr) (zs : List Str), zs.Perm ss → sortedS zs = true → k (.own a (.lst (zs.map .str)))) ∨
    ∃ ss : List Str, x = .tup (ss.map .str) ∧ ss.length < 64 ∧ ∀ (a : Addr) (zs : List Str), zs.Perm ss → sortedS zs = true → k (.own a (.lst (zs.map .str)))) := by
  intro B G H σ δ rs vs ds Ψ Q F hr hv hd k
  obtain ⟨x, e, hd⟩ := hd
  subst e
  obtain ⟨r1, w, e1, e2, h1, h2⟩ := view_one hv hr
  subst e2
  rcases hd with ⟨kds, ps, ex, hk, q⟩ | ⟨ps, ex, q⟩ | ⟨ss, ex, hl, q⟩ | ⟨ss, ex, hl, q⟩
  · subst ex
    obtain ⟨a, xs, e3, g1, g2⟩ := view_dcT F h2 h1
    subst e3
    refine .inl ⟨a, xs, ps, rfl, g1, (repT_keys g2).trans hk, fun zs l z1 z2 z3 hl => ?_⟩
    obtain ⟨G1, eG, gL, F1⟩ := F.tups (zs.map (·.1)) fun b hb => by
      obtain ⟨z, hz, e⟩ := List.mem_map.mp hb
      subst e
      exact ⟨_, z3 z hz⟩
    have hrep : Reps c.K G1 ((zs.map (·.2)).map pd) (zs.map fun z => V.ref z.1) := reps_pd zs fun z hz => by
      rw [gL z.1 (List.mem_map_of_mem hz)]; exact z3 z hz
    exact k _ _ G1 _ (q l _ z1 z2) eG (Ex.new hl) (F1.ex (Ex.new hl)) (rv_newL F1 hl hrep)
  · subst ex
    obtain ⟨a, xs, e3, g1, g2⟩ := view_lst F h2 h1
    subst e3
    refine .inr (.inl ⟨a, xs, pairAt H, rfl, .inl g1, fun x hx => ?_, fun ys l z1 z2 hl => ?_⟩)
    · obtain ⟨t, p, e, g⟩ := pds_addr g2 x hx
      have g' := F.exG _ _ g
      exact ⟨t, e, by rw [e, pairAt_of g']; exact g'⟩
    · have hp : ys.Perm xs := z2.perm
      have hm : (ys.map (pairAt H)).Perm ps := by rw [← pds_map F.exG g2]; exact hp.map _
      have hs : (ys.map (pairAt H)).Pairwise lexP := by
        rw [List.pairwise_map]
        refine List.Pairwise.imp (fun {x y} h => ?_) z1
        have h' := SrtO.lexB_no.mp h
        unfold lexP
        omega
      have hrep : Reps c.K G ((ys.map (pairAt H)).map pd) ys := by
        have all : ∀ l : List V, (∀ v ∈ l, v ∈ xs) → Reps c.K G ((l.map (pairAt H)).map pd) l := by
          intro l
          induction l with
          | nil => intro _; exact reps_nil
          | cons v l ih =>
            intro hm
            obtain ⟨t, p, e, g⟩ := pds_addr g2 v (hm v List.mem_cons_self)
            refine reps_cons ?_ (ih fun u hu => hm u (List.mem_cons_of_mem _ hu))
            rw [e, pairAt_of (F.exG _ _ g)]
            show Rep c.K G (.tup [.int p.1, .int p.2]) (.ref t)
            unfold Rep
            exact ⟨t, _, rfl, g, reps_cons rep_int (reps_cons rep_int reps_nil)⟩
        exact all ys fun v hv => hp.mem_iff.mp hv
      exact k _ _ G _ (q l _ hm hs) (Ex.refl G) (Ex.new hl) (F.ex (Ex.new hl)) (rv_newL F hl hrep)
  · subst ex
    obtain ⟨a, xs, e3, g1, g2⟩ := view_lst F h2 h1
    subst e3
    have e4 : xs = ss.map V.str := by
      have := strs_rep (strsD_map ss) g2
      exact this
    subst e4
    refine .inr (.inr (.inl ⟨a, ss, rfl, .inl g1, hl, fun ys l z1 z2 hl2 => ?_⟩))
    exact k _ _ G _ (q l _ z1 z2) (Ex.refl G) (Ex.new hl2) (F.ex (Ex.new hl2)) (rv_newL F hl2 (reps_strs _))
  · subst ex
    obtain ⟨a, xs, e3, g1, g2⟩ := view_tup F h2 h1
    subst e3
    have e4 : xs = ss.map V.str := by
      have := strs_rep (strsD_map ss) g2
      exact this
    subst e4
    refine .inr (.inr (.inr ⟨a, ss, rfl, g1, hl, fun ys l z1 z2 hl2 => ?_⟩))
    exact k _ _ G _ (q l _ z1 z2) (Ex.refl G) (Ex.new hl2) (F.ex (Ex.new hl2)) (rv_newL F hl2 (reps_strs _))
/-! ### extend -/
theorem mt_extendA {X : Cx} : MtR X "list.extend" rExtend := mt_extend
section
variable {c : Cd} {δ : List Sl} {te : TE} {tr : TA} {Φ : R → List Sl → Prop}
theorem we_extend (h : WE c false te δ fun r1 δ1 => ∃ i a, r1 = .bor i a ∧ (∃ ds, δ1[i]? = some (.own a (.lst ds))) ∧ WA c false tr δ1 fun rs δ2 => ∃ (ds es : List D), rs = [.d (.lst es)] ∧ δ2[i]? = some (.own a (.lst ds)) ∧ ds.length + es.length ≤ 100000 ∧
    ∀ δ3, δ3 = δ2.set i (.own a (.lst (ds ++ es))) → Φ (.d .non) δ3) : WE c false (tBM c.K "list" rExtend te tr) δ Φ := by
  intro B G H σ Q F x k
  refine h B G H σ _ F x fun r1 δ1 v1 G1 H1 w1 e1 F1 rv1 p1 => ?_
  obtain ⟨i, a, er, ⟨ds0, hd0⟩, w1⟩ := w1
  subst er
  obtain ⟨ev, _⟩ := rv1
  subst ev
  obtain ⟨xs0, hx0, _⟩ := own_lst F1 hd0
  refine ⟨.inl ⟨rfl, xs0, SqL.of hx0⟩, ?_⟩
  refine w1 B G1 H1 σ _ F1 (c.mono _ _ _ e1 x) fun rs δ2 vs G2 H2 w2 e2 F2 rv2 p2 => ?_
  obtain ⟨ds, es, er2, hd, hl, w2⟩ := w2
  subst er2
  obtain ⟨v2, vr, e3, h1, h2⟩ := rv2
  have e4 : vr = [] := h2
  subst e4
  subst e3
  obtain ⟨xs, hx, hr⟩ := own_lst F2 hd
  have h1' : Rep c.K G2 (.lst es) v2 := h1
  unfold Rep at h1'
  obtain ⟨b, zs, eb, hb, hz⟩ := h1'
  subst eb
  refine ⟨a, b, xs, zs, rfl, rfl, hx, F2.exG _ _ hb, by rw [reps_length hr, reps_length hz, sizeLine_eq]; omega, ?_⟩
  exact k _ _ _ G2 _ (w2 _ rfl) (e1.trans e2) (frame_mut F2 hd ⟨_, upd_same, reps_append hr hz⟩) (rep_non (K := c.K) (G := G2)) fun z => nomatch z
end
/-! ### sum, min of a list -/
end DL

/-! DL30: isinstance of an own class; what stands behind a slot's own is changed, or put there. -/
theorem L2.Room.units1 {k : Nat} {A : PySem.Around} (r : L2.Room k A) : A.units + 1 < PySem.cLine := by have := r.units; omega
namespace DL
open PySem PySem.Spec PyProof.Rows L2
open Evl (Ex)
/-! ### isinstance(x, C), C an own class -/
structure ClsI (K : PySem.W.Frag) (C : Addr) : Prop where
  cl : Cls K C
  ha : PySem.W.findIn K (.ref C) "__class__" = some (some (.builtin "object.__class__"))
  hn : PySem.W.specialIn K (.builtin "object.__class__") "__get__" = some (some (.builtin "getset_descriptor.__get__"))
  htk : PySem.W.takesIn K (.builtin "object.__class__") = some true
  hm : PySem.W.mroIn K C (.type "object") = some true
  self : PySem.W.kitOne K (.ref C) (.ref C) = some true
  non : PySem.W.kitOne K (.type "NoneType") (.ref C) = some false
  bl : PySem.W.kitOne K (.type "bool") (.ref C) = some false
  int : PySem.W.kitOne K (.type "int") (.ref C) = some false
  str : PySem.W.kitOne K (.type "str") (.ref C) = some false
  lst : PySem.W.kitOne K (.type "list") (.ref C) = some false
  tup : PySem.W.kitOne K (.type "tuple") (.ref C) = some false
  dct : PySem.W.kitOne K (.type "dict") (.ref C) = some false
def rIsiC (K : PySem.W.Frag) : List V → Hp → VK → Prop := rIsi K
def plainTy : D → Bool
  | .non => true | .bl _ => true | .int _ => true | .str _ => true | .lst _ => true | .tup _ => true | .dct _ => true | _ => false
/-! ### what is reached through a slot's own is changed -/
section
variable {c : Cd} {p : Bool} {δ : List Sl} {te ta tb : TE} {tr : TA} {Φ : R → List Sl → Prop}
/-! ### own objects put into a slot's own -/
/-- new objects of one's own: the root, and what stands behind it -/
inductive NewO : R → Addr → List (Addr × D) → Prop
  | own (b : Addr) (y : D) : NewO (.own b y) b [(b, y)]
  | deep (b : Addr) (y : D) (hs : List (Addr × D)) : NewO (.deep b y hs) b ((b, y) :: hs)
/-- things, some of them new objects of one's own -/
def WAg (c : Cd) (p : Bool) (tr : TA) (δ : List Sl) (Φ : List D → List (Addr × D) → List Sl → Prop) : Prop :=
  ∀ (B G H : Hp) (σ : L2.St) (Q : List V → Hp → Prop), Frame c.K B G H σ δ → c.xr B G →
    (∀ ds gs δ' vs G' H', Φ ds gs δ' → Ex G G' → Frame c.K B G' H' σ δ' → Reps c.K G' ds vs → OwnG c.K G' H' gs → (∀ b ∈ gs.map Prod.fst, B b = none ∧ G' b = none ∧ b ∉ owned δ') → (gs.map Prod.fst).Nodup → (p = true → δ' = δ ∧ Ex H H') → Q vs H') → tr σ H Q
end
end DL

/-! DL31: d.update(d2), xs.reverse(). -/
namespace DL
open PySem PySem.Spec PyProof.Rows L2
open Evl (Ex)
def rUpdA : V → List V → Hp → VK → Prop := fun x xs H Q => ∃ (a b : Addr) (kvs more : List (Key × V)), x = .ref a ∧ xs = [.ref b] ∧ a ≠ b ∧ H a = some (.dK kvs) ∧ Rd H b (.dK more) ∧ kvs.length + more.length ≤ sizeLine ∧ (mergeK kvs more).length ≤ sizeLine ∧
  Q .non (upd H a (.dK (mergeK kvs more)))
theorem putD_len (kvs : List (Key × D)) (k : Key) (v : D) : (putD kvs k v).length ≤ kvs.length + 1 := by
  unfold putD
  split
  · rw [List.length_map]; omega
  · simp
section
variable {c : Cd} {δ : List Sl} {te : TE} {tr : TA} {Φ : R → List Sl → Prop}
theorem mt_reverseA {X : Cx} : MtR X "list.reverse" rReverse := mt_reverse
theorem we_reverse0 (h : WE c false te δ fun r1 δ1 => ∃ i a ds, r1 = .bor i a ∧ δ1[i]? = some (.own a (.lst ds)) ∧ ∀ δ3, δ3 = δ1.set i (.own a (.lst ds.reverse)) → Φ (.d .non) δ3) : WE c false (tBM0 c.K "list" rReverse te) δ Φ :=
  we_mu0 mu_reverse (we_mono h fun r1 δ1 ⟨i, a, ds, e1, e2, q⟩ => ⟨i, a, ds, e1, e2, rfl, q _ rfl⟩)
end
end DL

/-! DL32: == of data without truths and dicts: they are one, or not. -/
namespace DL
open PySem PySem.Spec PyProof.Rows L2
open Evl (Ex)
mutual
def pure0 : D → Bool
  | .non => true
  | .int _ => true
  | .str s => PyData.strOk s
  | .lst xs => pure0s xs
  | .tup xs => pure0s xs
  | _ => false
def pure0s : List D → Bool
  | [] => true
  | x :: xs => pure0 x && pure0s xs
end
mutual
theorem pure_py : ∀ x : D, pure0 x = true → ∃ d, py x = some d ∧ d.canLay0 = true ∧ d.depth = dpt x
  | .non, _ => ⟨_, rfl, rfl, rfl⟩
  | .int _, _ => ⟨_, rfl, rfl, rfl⟩
  | .str s, h => ⟨.str s, rfl, by unfold pure0 at h; unfold PyData.canLay0; exact h, rfl⟩
  | .lst xs, h => by
    obtain ⟨ds, h1, h2, h3⟩ := pures_py xs (by unfold pure0 at h; exact h)
    exact ⟨.list ds, by unfold py; rw [h1]; rfl, by unfold PyData.canLay0; exact h2, by unfold PyData.depth dpt; rw [h3]⟩
  | .tup xs, h => by
    obtain ⟨ds, h1, h2, h3⟩ := pures_py xs (by unfold pure0 at h; exact h)
    exact ⟨.tuple ds, by unfold py; rw [h1]; rfl, by unfold PyData.canLay0; exact h2, by unfold PyData.depth dpt; rw [h3]⟩
  | .bl _, h => by unfold pure0 at h; cases h
  | .ty _, h => by unfold pure0 at h; cases h
  | .ptr _, h => by unfold pure0 at h; cases h
  | .ro _, h => by unfold pure0 at h; cases h
  | .dct _, h => by unfold pure0 at h; cases h
  | .dcT _, h => by unfold pure0 at h; cases h
  | .obj _ _, h => by unfold pure0 at h; cases h
theorem pures_py : ∀ xs : List D, pure0s xs = true → ∃ ds, pys xs = some ds ∧ PyData.canLayAll0 ds = true ∧ PyData.depthAll ds = dpts xs
  | [], _ => ⟨[], rfl, rfl, rfl⟩
  | x :: xs, h => by
    unfold pure0s at h
    obtain ⟨h0, h1⟩ := Bool.and_eq_true_iff.mp h
    obtain ⟨d, a1, a2, a3⟩ := pure_py x h0
    obtain ⟨ds, b1, b2, b3⟩ := pures_py xs h1
    exact ⟨d :: ds, by unfold pys; rw [a1, b1]; rfl, by unfold PyData.canLayAll0; rw [a2, b2]; rfl, by unfold PyData.depthAll dpts; rw [a3, b3]⟩
end
mutual
theorem eqv_pure : ∀ (x y : D) (d e : PyData), pure0 x = true → pure0 y = true → py x = some d → py y = some e → (PyData.eqv d e = true ↔ x = y)
  | .non, y, d, e, hx, hy, h1, h2 => by
    unfold py at h1; cases h1
    cases y with
    | non => unfold py at h2; cases h2; simp [PyData.eqv]
    | int i => unfold py at h2; cases h2; simp [PyData.eqv]
    | str s => unfold py at h2; cases h2; simp [PyData.eqv]
    | lst ys => unfold py at h2; cases q : pys ys with
      | none => rw [q] at h2; cases h2
      | some es => rw [q] at h2; cases h2; simp [PyData.eqv]
    | tup ys => unfold py at h2; cases q : pys ys with
      | none => rw [q] at h2; cases h2
      | some es => rw [q] at h2; cases h2; simp [PyData.eqv]
    | _ => unfold pure0 at hy; cases hy
  | .int i, y, d, e, hx, hy, h1, h2 => by
    unfold py at h1; cases h1
    cases y with
    | non => unfold py at h2; cases h2; simp [PyData.eqv]
    | int j => unfold py at h2; cases h2; simp [PyData.eqv]
    | str s => unfold py at h2; cases h2; simp [PyData.eqv]
    | lst ys => unfold py at h2; cases q : pys ys with
      | none => rw [q] at h2; cases h2
      | some es => rw [q] at h2; cases h2; simp [PyData.eqv]
    | tup ys => unfold py at h2; cases q : pys ys with
      | none => rw [q] at h2; cases h2
      | some es => rw [q] at h2; cases h2; simp [PyData.eqv]
    | _ => unfold pure0 at hy; cases hy
  | .str s, y, d, e, hx, hy, h1, h2 => by
    unfold py at h1; cases h1
    cases y with
    | non => unfold py at h2; cases h2; simp [PyData.eqv]
    | int j => unfold py at h2; cases h2; simp [PyData.eqv]
    | str t => unfold py at h2; cases h2; simp [PyData.eqv]
    | lst ys => unfold py at h2; cases q : pys ys with
      | none => rw [q] at h2; cases h2
      | some es => rw [q] at h2; cases h2; simp [PyData.eqv]
    | tup ys => unfold py at h2; cases q : pys ys with
      | none => rw [q] at h2; cases h2
      | some es => rw [q] at h2; cases h2; simp [PyData.eqv]
    | _ => unfold pure0 at hy; cases hy
  | .lst xs, y, d, e, hx, hy, h1, h2 => by
    unfold py at h1
    cases q0 : pys xs with
    | none => rw [q0] at h1; cases h1
    | some ds =>
    rw [q0] at h1; cases h1
    cases y with
    | non => unfold py at h2; cases h2; simp [PyData.eqv]
    | int j => unfold py at h2; cases h2; simp [PyData.eqv]
    | str t => unfold py at h2; cases h2; simp [PyData.eqv]
    | lst ys => unfold py at h2; cases q : pys ys with
      | none => rw [q] at h2; cases h2
      | some es =>
        rw [q] at h2; cases h2
        have ih := eqvs_pure xs ys ds es (by unfold pure0 at hx; exact hx) (by unfold pure0 at hy; exact hy) q0 q
        show PyData.eqv (.list ds) (.list es) = true ↔ _
        unfold PyData.eqv
        rw [ih]
        exact ⟨fun h => by rw [h], fun h => by cases h; rfl⟩
    | tup ys => unfold py at h2; cases q : pys ys with
      | none => rw [q] at h2; cases h2
      | some es => rw [q] at h2; cases h2; simp [PyData.eqv]
    | _ => unfold pure0 at hy; cases hy
  | .tup xs, y, d, e, hx, hy, h1, h2 => by
    unfold py at h1
    cases q0 : pys xs with
    | none => rw [q0] at h1; cases h1
    | some ds =>
    rw [q0] at h1; cases h1
    cases y with
    | non => unfold py at h2; cases h2; simp [PyData.eqv]
    | int j => unfold py at h2; cases h2; simp [PyData.eqv]
    | str t => unfold py at h2; cases h2; simp [PyData.eqv]
    | tup ys => unfold py at h2; cases q : pys ys with
      | none => rw [q] at h2; cases h2
      | some es =>
        rw [q] at h2; cases h2
        have ih := eqvs_pure xs ys ds es (by unfold pure0 at hx; exact hx) (by unfold pure0 at hy; exact hy) q0 q
        show PyData.eqv (.tuple ds) (.tuple es) = true ↔ _
        unfold PyData.eqv
        rw [ih]
        exact ⟨fun h => by rw [h], fun h => by cases h; rfl⟩
    | lst ys => unfold py at h2; cases q : pys ys with
      | none => rw [q] at h2; cases h2
      | some es => rw [q] at h2; cases h2; simp [PyData.eqv]
    | _ => unfold pure0 at hy; cases hy
  | .bl _, _, _, _, h, _, _, _ => by unfold pure0 at h; cases h
  | .ty _, _, _, _, h, _, _, _ => by unfold pure0 at h; cases h
  | .ptr _, _, _, _, h, _, _, _ => by unfold pure0 at h; cases h
  | .ro _, _, _, _, h, _, _, _ => by unfold pure0 at h; cases h
  | .dct _, _, _, _, h, _, _, _ => by unfold pure0 at h; cases h
  | .dcT _, _, _, _, h, _, _, _ => by unfold pure0 at h; cases h
  | .obj _ _, _, _, _, h, _, _, _ => by unfold pure0 at h; cases h
theorem eqvs_pure : ∀ (xs ys : List D) (ds es : List PyData), pure0s xs = true → pure0s ys = true → pys xs = some ds → pys ys = some es → (PyData.eqvAll ds es = true ↔ xs = ys)
  | [], ys, ds, es, hx, hy, h1, h2 => by
    unfold pys at h1; cases h1
    cases ys with
    | nil => unfold pys at h2; cases h2; simp [PyData.eqvAll]
    | cons y ys =>
      unfold pys at h2
      cases q : py y with
      | none => rw [q] at h2; cases h2
      | some e0 =>
        rw [q] at h2
        cases q2 : pys ys with
        | none => rw [q2] at h2; cases h2
        | some er => rw [q2] at h2; cases h2; simp [PyData.eqvAll]
  | x :: xs, ys, ds, es, hx, hy, h1, h2 => by
    unfold pys at h1
    cases p1 : py x with
    | none => rw [p1] at h1; cases h1
    | some d0 =>
    rw [p1] at h1
    cases p2 : pys xs with
    | none => rw [p2] at h1; cases h1
    | some dr =>
    rw [p2] at h1
    cases h1
    cases ys with
    | nil => unfold pys at h2; cases h2; simp [PyData.eqvAll]
    | cons y ys =>
      unfold pys at h2
      cases q : py y with
      | none => rw [q] at h2; cases h2
      | some e0 =>
        rw [q] at h2
        cases q2 : pys ys with
        | none => rw [q2] at h2; cases h2
        | some er =>
          rw [q2] at h2
          cases h2
          unfold pure0s at hx hy
          obtain ⟨hx0, hx1⟩ := Bool.and_eq_true_iff.mp hx
          obtain ⟨hy0, hy1⟩ := Bool.and_eq_true_iff.mp hy
          have i1 := eqv_pure x y d0 e0 hx0 hy0 p1 q
          have i2 := eqvs_pure xs ys dr er hx1 hy1 p2 q2
          show PyData.eqvAll (d0 :: dr) (e0 :: er) = true ↔ _
          unfold PyData.eqvAll
          rw [Bool.and_eq_true_iff, i1, i2]
          exact ⟨fun h => by rw [h.1, h.2], fun h => by cases h; exact ⟨rfl, rfl⟩⟩
end
theorem dEq_p {f : Bool → Bool} {x y : D} {k : R → Prop} (h1 : pure0 x = true) (h2 : pure0 y = true) (h3 : dpt x ≤ 60) (h4 : dpt y ≤ 60) (t : x = y → k (.d (.bl (f true)))) (n : x ≠ y → k (.d (.bl (f false)))) : dEqF f x y k := by
  obtain ⟨d, a1, a2, a3⟩ := pure_py x h1
  obtain ⟨e, b1, b2, b3⟩ := pure_py y h2
  refine dEq_d a1 b1 (by unfold SeqAt.shaped; rw [a2, a3]; simp; omega) (by unfold SeqAt.shaped; rw [b2, b3]; simp; omega) ?_
  have iff := eqv_pure x y d e h1 h2 a1 b1
  cases q : PyData.eqv d e with
  | true => exact t (iff.mp q)
  | false => exact n fun z => by rw [iff.mpr z] at q; cases q
theorem pure0s_map {α : Type} {f : α → D} : ∀ {l : List α}, (∀ a ∈ l, pure0 (f a) = true) → pure0s (l.map f) = true
  | [], _ => rfl
  | a :: l, h => by
    rw [List.map_cons]
    unfold pure0s
    rw [h a List.mem_cons_self, pure0s_map fun b hb => h b (List.mem_cons_of_mem _ hb)]
    rfl
theorem dpts_map {α : Type} {f : α → D} {n : Nat} : ∀ {l : List α}, (∀ a ∈ l, dpt (f a) ≤ n) → dpts (l.map f) ≤ n
  | [], _ => by rw [List.map_nil]; unfold dpts; omega
  | a :: l, h => by
    rw [List.map_cons]
    unfold dpts
    have h1 := h a List.mem_cons_self
    have h2 := dpts_map (l := l) fun b hb => h b (List.mem_cons_of_mem _ hb)
    omega
end DL

/-! DL33: for over a list of one's own, which stays; what comes back with objects behind it, told as data. -/
namespace DL
open PySem PySem.Spec PyProof.Rows L2
open Evl (Ex)
section
variable {K : PySem.W.Frag} {B G G' H H' : Hp} {σ : St} {δ ε : List Sl}
end
section
variable {c : Cd} {p : Bool} {δ : List Sl} {te : TE} {t : TS} {g : TG} {Φ : R → List Sl → Prop} {N Bk Ct : List Sl → Prop} {Rt : R → List Sl → Prop}
/-- for over a thing that stays as it is, be it one's own -/
theorem w_forA (h : WE c false te δ fun r δ1 => ∃ y ds, view δ1 r = some y ∧ itemsD y = some ds ∧ ∃ I : Nat → List Sl → Prop, I 0 δ1 ∧ (∀ j δ2, j ≤ ds.length → I j δ2 → view δ2 r = some y) ∧
    (∀ j d δ2, ds[j]? = some d → I j δ2 → WG c g (.d d) δ2 fun δ3 => W c t δ3 (I (j + 1)) Rt N (I (j + 1))) ∧ ∀ δ2, I ds.length δ2 → N δ2) : W c (tFor (iAny c.K te) g t) δ N Rt Bk Ct := by
  intro B G H σ Dd F x e
  refine h B G H σ _ F x fun r δ1 v G1 H1 w e1 F1 rv p1 => ?_
  obtain ⟨y, ds, hv, hi, I, i0, iat, it, iend⟩ := w
  have core : ∀ (J : It) (Gd : Hp → Prop) (Y : Nat → Hp → V → Hp → Prop) (G1' : Hp), Walk J ds.length Gd Y → Ex G1 G1' → Frame c.K B G1' H1 σ δ1 → (∀ j δ2 G2 H2 σ2, j ≤ ds.length → I j δ2 → Ex G1' G2 → Frame c.K B G2 H2 σ2 δ2 → Gd H2) →
      (∀ j δ2 G2 H2 σ2 y H3, j < ds.length → I j δ2 → Ex G1' G2 → Frame c.K B G2 H2 σ2 δ2 → Y j H2 y H3 → H3 = H2 ∧ ∃ d, ds[j]? = some d ∧ Rep c.K G2 d y) →
      ∃ Wv : Nat → Nat → St → Hp → Prop, (∃ m, Wv 0 m σ H1) ∧ ∀ i m σ H, Wv i m σ H → (J.stop i H ∧ Dd.nx σ H) ∨ (J.go i H ∧ ∃ N : St → Hp → Prop, (∀ σ' H', N σ' H' → ∃ m', m' < m ∧ Wv (i + 1) m' σ' H') ∧ ∀ x H', J.yld i H x H' → g x σ H' fun σ2 H2 => t { Dd with nx := N, ct := N, bk := Dd.nx } σ2 H2) := by
    intro J Gd Y G1' Wk e0 F0 hG hY
    refine for_it Wk (fun i σ' H' => ∃ δ' G', I i δ' ∧ Ex G1' G' ∧ Frame c.K B G' H' σ' δ') ⟨δ1, G1', i0, Ex.refl G1', F0⟩ (fun j σ' H' hj ⟨δ', G', hI, e2, F2⟩ => hG j δ' G' H' σ' hj hI e2 F2) (fun j y σ' H2 H3 hj pv yy => ?_) fun σ' H' ⟨δ', G', hI, e2, F2⟩ => e.nx δ' σ' G' H' (iend δ' hI) (e1.trans (e0.trans e2)) F2
    obtain ⟨δ', G', hI, e2, F2⟩ := pv
    obtain ⟨eH, d, hd, hrd⟩ := hY j δ' G' H2 σ' y H3 hj hI e2 F2 yy
    subst eH
    have e02 := e1.trans (e0.trans e2)
    refine it j d δ' hd hI B G' H3 σ' y _ F2 (c.mono _ _ _ e02 x) hrd fun δ3 σ3 G3 H3 hws e4 F4 => ?_
    have e5 := e2.trans e4
    have e6 := e1.trans (e0.trans e5)
    exact hws B G3 H3 σ3 _ F4 (c.mono _ _ _ e6 x) ⟨fun δ4 σ4 G4 H4 w e7 F5 => ⟨δ4, G4, w, e5.trans e7, F5⟩, fun r δ4 v σ4 G4 H4 w e7 F5 => e.rt r δ4 v σ4 G4 H4 w (e6.trans e7) F5, fun δ4 σ4 G4 H4 w e7 F5 => e.nx δ4 σ4 G4 H4 w (e6.trans e7) F5, fun δ4 σ4 G4 H4 w e7 F5 => ⟨δ4, G4, w, e5.trans e7, F5⟩⟩
  have dat : ∀ G1', Ex G1 G1' → Frame c.K B G1' H1 σ δ1 → Rep c.K G1' y v → iAny c.K (fun σ H Q => Q v H) σ H1 fun J H' => ∃ Wv : Nat → Nat → St → Hp → Prop, (∃ m, Wv 0 m σ H') ∧ ∀ i m σ H, Wv i m σ H → (J.stop i H ∧ Dd.nx σ H) ∨ (J.go i H ∧ ∃ N : St → Hp → Prop, (∀ σ' H', N σ' H' → ∃ m', m' < m ∧ Wv (i + 1) m' σ' H') ∧ ∀ x H', J.yld i H x H' → g x σ H' fun σ2 H2 => t { Dd with nx := N, ct := N, bk := Dd.nx } σ2 H2) := by
    intro G1' e0 F0 hr
    cases y with
    | lst ys =>
      cases hi
      unfold Rep at hr
      obtain ⟨a, xs, e2, h1, h2⟩ := hr
      refine .inl ⟨a, e2, ⟨xs, .inl (Rd.of (F0.exG _ _ h1))⟩, core _ _ _ G1' (by rw [← reps_length h2]; exact walk_list (K := c.K) (a := a) (xs := xs)) e0 F0 (fun j δ2 G2 H2 σ2 _ _ e3 F2 => sql (Rd.of (F2.exG _ _ (e3 _ _ h1)))) fun j δ2 G2 H2 σ2 z H3 _ _ e3 F2 (yy : YAt xs j H2 z H3) => ⟨yy.1, ?_⟩⟩
      obtain ⟨d, hd, hrd⟩ := reps_getV h2 yy.2
      exact ⟨d, hd, hrd.mono e3⟩
    | tup ys =>
      cases hi
      unfold Rep at hr
      obtain ⟨a, xs, e2, h1, h2⟩ := hr
      refine .inr (.inl ⟨a, e2, ⟨xs, SqT.of (F0.exG _ _ h1)⟩, core _ _ _ G1' (by rw [← reps_length h2]; exact walk_tup (K := c.K) (a := a) (xs := xs)) e0 F0 (fun j δ2 G2 H2 σ2 _ _ e3 F2 => SqT.of (F2.exG _ _ (e3 _ _ h1))) fun j δ2 G2 H2 σ2 z H3 _ _ e3 F2 (yy : YAt xs j H2 z H3) => ⟨yy.1, ?_⟩⟩)
      obtain ⟨d, hd, hrd⟩ := reps_getV h2 yy.2
      exact ⟨d, hd, hrd.mono e3⟩
    | str z =>
      cases hi
      have e2 : v = .str z := by unfold Rep at hr; exact hr
      have el : (signsD z).length = z.cps.size := by unfold signsD; simp
      refine .inr (.inr ⟨z, e2, core _ _ _ G1' (by rw [el]; exact walk_str) e0 F0 (fun _ _ _ _ _ _ _ _ _ => trivial) fun j δ2 G2 H2 σ2 u H3 _ _ e3 F2 (yy : H3 = H2 ∧ ∃ c, z.cps[j]? = some c ∧ u = .str ⟨#[c]⟩) => ⟨yy.1, ?_⟩⟩)
      obtain ⟨_, ch, hc, ey⟩ := yy
      refine ⟨.str ⟨#[ch]⟩, ?_, ?_⟩
      · unfold signsD
        rw [List.getElem?_map, Array.getElem?_toList, hc]
        rfl
      · rw [ey]; exact rep_str
    | _ => cases hi
  cases r with
  | d z =>
    cases hv
    exact dat G1 (Ex.refl G1) F1 rv
  | own a z =>
    cases hv
    obtain ⟨G1', e1', F1', rw1⟩ := rv.weak F1
    exact dat G1' e1' F1' rw1
  | deep a z gs => cases hv
  | bor i a =>
    obtain ⟨ev, _⟩ := rv
    subst ev
    have ow : ∀ j δ2 G2 H2 σ2, j ≤ ds.length → I j δ2 → Frame c.K B G2 H2 σ2 δ2 → OwnR c.K G2 H2 a y := fun j δ2 G2 H2 σ2 hj hI F2 => (view_own F2 (iat j δ2 hj hI)).1
    cases y with
    | lst ys =>
      cases hi
      have own : ∀ j δ2 G2 H2 σ2, j ≤ ds.length → I j δ2 → Frame c.K B G2 H2 σ2 δ2 → ∃ xs, H2 a = some (.lst xs) ∧ Reps c.K G2 ds xs := ow
      refine .inl ⟨a, rfl, ?_, ?_⟩
      · obtain ⟨xs, hx, _⟩ := own 0 δ1 G1 H1 σ (Nat.zero_le _) i0 F1
        exact ⟨xs, SqL.of hx⟩
      have Wk : Walk (Itl c.K a) ds.length (fun H => ∃ xs, SqL c.K H a xs ∧ xs.length = ds.length) (fun i H x H' => H' = H ∧ ∀ xs, SqL c.K H a xs → xs[i]? = some x) :=
        ⟨fun i _ hi ⟨xs, q, l⟩ => ⟨xs, xs[i]'(by omega), q, by simp [show i < xs.length by omega]⟩, fun _ ⟨xs, q, l⟩ => ⟨xs, q, by omega⟩, fun _ _ _ _ _ _ y => y⟩
      refine core _ _ _ G1 Wk (Ex.refl G1) F1 (fun j δ2 G2 H2 σ2 hj hI _ F2 => ?_) fun j δ2 G2 H2 σ2 z H3 hj hI _ F2 yy => ⟨yy.1, ?_⟩
      · obtain ⟨xs, hx, hr⟩ := own j δ2 G2 H2 σ2 hj hI F2
        exact ⟨xs, SqL.of hx, reps_length hr⟩
      · obtain ⟨xs, hx, hr⟩ := own j δ2 G2 H2 σ2 (Nat.le_of_lt hj) hI F2
        exact reps_getV hr (yy.2 xs (SqL.of hx))
    | dct kds => cases hi
    | dcT kds => cases hi
    | obj C fs => cases hi
    | _ => exact (ow 0 δ1 G1 H1 σ (Nat.zero_le _) i0 F1).elim
end
/-- a thing, as data or as one's own -/
inductive Arg (x : D) : Sl → Prop
  | d : Arg x (.d x)
  | o (b : Addr) : Arg x (.own b x)
end DL

/-! DL34: list(range(..)); a walk over a dict with tuple keys that a path tells. -/
namespace DL
open PySem PySem.Spec PyProof.Rows L2
open Evl (Ex)
section
variable {c : Cd} {p : Bool} {δ : List Sl} {ta : TE} {Φ : R → List Sl → Prop}
theorem reps_rg {K : PySem.W.Frag} {G : Hp} (lo : Int) : ∀ l : List Nat, Reps K G (l.map fun (i : Nat) => D.int (lo + (i : Int))) (l.map fun (i : Nat) => V.int (lo + (i : Nat)))
  | [] => reps_nil
  | i :: l => reps_cons rep_int (reps_rg lo l)
theorem we_listRg (h : WE c p ta δ fun r δ1 => ∃ j : Int, r = .d (.int j) ∧ 0 ≤ j ∧ j ≤ 100000 ∧ ∀ a, Φ (.own a (.lst (rangeD 0 j.toNat))) δ1) : WE c p (tLstRg (tRg1 ta)) δ Φ := by
  intro B G H σ Q F x k
  refine h B G H σ _ F x fun r δ1 v G1 H1 w e1 F1 rv p1 => ?_
  obtain ⟨j, er, h0, h1, w⟩ := w
  subst er
  have ev : v = .int j := by have z : Rep c.K G1 (.int j) v := rv; unfold Rep at z; exact z
  refine ⟨j, ev, RgOk.of_le (Int.le_refl 0) (by omega) (by omega) h0, fun q hq => ?_⟩
  have hrep : Reps c.K G1 (rangeD 0 j.toNat) (rgV 0 j) := by
    unfold rangeD rgV
    rw [Int.sub_zero]
    exact reps_rg 0 _
  exact k _ δ1 _ G1 _ (w q) e1 (F1.ex (Ex.new hq)) (rv_newL F1 hq hrep) fun hp => ⟨(p1 hp).1, (p1 hp).2.trans (Ex.new hq)⟩
end
/-! ### for k in e: e a dict with tuple keys -/
def keyTD (k : List Key) : D := .tup (k.map keyD)
/-- a path that tells a dict with tuple keys, locked or not -/
def PthT (K : PySem.W.Frag) (te : TE) (δ : List Sl) (tds : List (List Key × D)) : Prop := ∀ (B G H : Hp) (σ : L2.St), Frame K B G H σ δ → ∃ (a : Addr) (kvs : List (List Key × V)), Rd G a (.dT kvs) ∧ RepT K G tds kvs ∧
  ∀ (G1 H1 : Hp), LE G G1 → Frame K B G1 H1 σ δ → ∀ Q : VK, Q (.ref a) H1 → te σ H1 Q
section
variable {te : TE} {δ : List Sl} {tds : List (List Key × D)} {g : TG} {t : TS} {E : En}
end
section
variable {c : Cd} {te : TE} {δ : List Sl} {tds : List (List Key × D)} {g : TG} {t : TS} {N Bk Ct : List Sl → Prop} {Rt : R → List Sl → Prop}
end
end DL

/-! DL35: d.pop(k), dict(d), d with tuple keys. -/
namespace DL
open PySem PySem.Spec PyProof.Rows L2
open Evl (Ex)
section
variable {K : Type} [DecidableEq K] {prog : Program} {w : World} {knd : HeapKind prog w K} {A : Around} {E : Value → Shared → Prop} {s : Shared}
end
def rPopT1 : V → List V → Hp → VK → Prop := fun x xs H Q => ∃ (a : Addr) (kvs : List (List L2.Key × V)) (k : List L2.Key) (b : Addr) (v : V), x = .ref a ∧ xs = [.ref b] ∧ H a = some (.dT kvs) ∧ H b = some (.tup (k.map kV)) ∧
  valV kvs k = some v ∧ Q v (upd H a (.dT (dropK kvs k)))
def dropT (kds : List (List Key × D)) (k : List Key) : List (List Key × D) := kds.filter fun kv => decide (kv.1 ≠ k)
section
variable {c : Cd} {δ : List Sl} {te ta : TE} {Φ : R → List Sl → Prop}
end
end DL

/-! DL36: a comprehension that makes own objects; rows of rows. -/
namespace DL
open PySem PySem.Spec PyProof.Rows L2
open Evl (Ex)
section
variable {c : Cd} {p : Bool} {δ : List Sl} {te ta tb tx ty : TE} {tt : TT} {g : TG}
/-! rows of rows, a slot's own -/
end
end DL

/-! DL37: s.upper(); any thing among texts. -/
namespace PySem.SeqAt
open Builtin
section
variable {A : Around} {s : Shared}
end
end PySem.SeqAt
namespace DL
open PySem PySem.Spec PyProof.Rows L2
open Evl (Ex)
section
variable {X : Cx} {pins : List (Addr × Obj)} {σ : L2.St} {H : Hp} {s : Shared}
/-- a thing that is none among texts, but a text -/
def strIn (x : D) (ss : List Str) : Bool := match x with
  | .str z => decide (z ∈ ss)
  | _ => false
def strEq (x : D) (b : Str) : Bool := match x with
  | .str z => decide (b = z)
  | _ => false
end
def rInX (K : PySem.W.Frag) : R2 := fun x y H Q => ∃ d ss a, (tyD d).isSome = true ∧ Rep K H d x ∧ y = .ref a ∧ SqL K H a (ss.map V.str) ∧ Q (.bl (strIn d ss)) H
def rNotInX (K : PySem.W.Frag) : R2 := fun x y H Q => ∃ d ss a, (tyD d).isSome = true ∧ Rep K H d x ∧ y = .ref a ∧ SqL K H a (ss.map V.str) ∧ Q (.bl (!strIn d ss)) H
section
variable {X : Cx}
end
section
variable {c : Cd}
def dInX (f : Bool → Bool) : Dop := fun x y k => ∃ ss : List Str, (tyD x).isSome = true ∧ y = .lst (ss.map .str) ∧ k (.d (.bl (f (strIn x ss))))
/-! s.upper() -/
def rUpperA : V → List V → Hp → VK → Prop := fun x xs H Q => ∃ a, x = .str a ∧ xs = [] ∧ a.length ≤ 5592405 ∧ Q (.str (Txt.upper a)) H
/-- a call's arguments -/
theorem ex_callM {δ : List Sl} {as : List Sl} {rs : List R} {P : List Sl → Prop} (h1 : toAs δ rs = some as) (h2 : (owned as).Nodup) (q : P as) : ∃ as, toAs δ rs = some as ∧ (owned as).Nodup ∧ P as := ⟨as, h1, h2, q⟩
end
end DL

/-! DL38: for over a slot's dict. -/
namespace DL
open PySem PySem.Spec PyProof.Rows L2
open Evl (Ex)
section
variable {K : PySem.W.Frag} {cn : Cn} {Wx : WX} {Ψ : Nat → D → List Sl → Prop} {δ : List Sl} {kds : List (Key × D)} {i : Nat} {g : TG} {t : TS} {N Bk Ct : List Sl → Prop} {Rt : R → List Sl → Prop}
end
section
variable {x y z w : D} {P : List D → Prop}
theorem ex_cx2 (q : P [x, y]) : ∃ ds : List D, [frz (R.d x), frz (R.d y)] = ds.map R.d ∧ P ds := ⟨_, rfl, q⟩
end
section
variable {K : PySem.W.Frag} {B G H : Hp} {σ : L2.St} {δ : List Sl}
end
section
variable {c : Cd} {δ : List Sl} {te : TE} {Φ : R → List Sl → Prop}
end
end DL

/-! DL39: min, max of a list of ints with a default. -/
namespace PySem
open Builtin

section
variable {prog : Program} {w : World} {A : Around} {R : Result → Shared → Prop} {it : Addr} {fp wr : List Addr} {n : Nat} {P : Nat → Value → Prop} {St : Nat → Heap → Prop}
end
section
variable {prog : Program} {w : World} {A : Around} {E : Value → Shared → Prop} {s : Shared}
end

section
variable {prog : Program} {w : World} {A : Around} {R : Result → Shared → Prop} {it : Addr} {fp wr : List Addr} {n : Nat} {P : Nat → Value → Prop} {St : Nat → Heap → Prop}
end
section
variable {prog : Program} {w : World} {A : Around} {E : Value → Shared → Prop} {s : Shared}
end
end PySem

namespace L2
open PySem PySem.Spec PyProof.Rows
section
variable {X : Cx}
def rminD (K : PySem.W.Frag) : List V → List V → Hp → VK → Prop := fun xs zs H Q => ∃ (a : Addr) (ns : List Int) (d : V), xs = [.ref a] ∧ zs = [d] ∧ SqL K H a (ns.map V.int) ∧ (ns = [] → Q d H) ∧ ∀ m, m ∈ ns → (∀ y, y ∈ ns → m ≤ y) → Q (.int m) H
end
end L2
namespace DL
open PySem PySem.Spec PyProof.Rows L2
open Evl (Ex)
section
variable {c : Cd} {p : Bool} {δ : List Sl} {tr tk : TA} {Φ : R → List Sl → Prop}
end
end DL

namespace L2
open PySem PySem.Spec PyProof.Rows
section
variable {X : Cx}
def rmaxD (K : PySem.W.Frag) : List V → List V → Hp → VK → Prop := fun xs zs H Q => ∃ (a : Addr) (ns : List Int) (d : V), xs = [.ref a] ∧ zs = [d] ∧ SqL K H a (ns.map V.int) ∧ (ns = [] → Q d H) ∧ ∀ m, m ∈ ns → (∀ y, y ∈ ns → y ≤ m) → Q (.int m) H
end
end L2
namespace DL
open PySem PySem.Spec PyProof.Rows L2
open Evl (Ex)
section
variable {c : Cd} {p : Bool} {δ : List Sl} {tr tk : TA} {Φ : R → List Sl → Prop}
end
end DL

/-! DL40: for over the items of a dict that a call hands on; sorted of a list of numbers. -/
namespace L2
open PySem PySem.Spec PyProof.Rows
/-- a dict that is handed on is locked from here on -/
def tLkR (t : TE) : TE := fun σ H Q => t σ H fun x H1 => ∃ d u, x = .ref d ∧ H1 d = some u ∧ Mut (some u) ∧ ∀ od, Q x (upd H1 d (.frz od u))
end L2
namespace DL
open PySem PySem.Spec PyProof.Rows L2
open Evl (Ex)
section
variable {c : Cd} {δ : List Sl} {te : TE}
end
end DL

/-! DL41: any thing in a tuple of texts. -/
namespace DL
open PySem PySem.Spec PyProof.Rows L2
open Evl (Ex)
def rInXT (K : PySem.W.Frag) : R2 := fun x y H Q => ∃ d ss a, (tyD d).isSome = true ∧ Rep K H d x ∧ y = .ref a ∧ SqT K H a (ss.map V.str) ∧ Q (.bl (strIn d ss)) H
def rNotInXT (K : PySem.W.Frag) : R2 := fun x y H Q => ∃ d ss a, (tyD d).isSome = true ∧ Rep K H d x ∧ y = .ref a ∧ SqT K H a (ss.map V.str) ∧ Q (.bl (!strIn d ss)) H
section
variable {X : Cx}
end
section
variable {c : Cd}
def dInXT (f : Bool → Bool) : Dop := fun x y k => ∃ ss : List Str, (tyD x).isSome = true ∧ y = .tup (ss.map .str) ∧ k (.d (.bl (f (strIn x ss))))
end
end DL

/-! DL42: any thing in a tuple of texts that the module keeps. -/
namespace DL
open PySem PySem.Spec PyProof.Rows L2
open Evl (Ex)
def KTup (K : PySem.W.Frag) (a : Addr) (ss : List Str) : Prop := ∃ (o : Obj) (its : Array Value) (n : Nat), K.lookup a = some o ∧ o.cls = .type "tuple" ∧ o.data = .seq its n ∧ its.size ≤ sizeLine ∧ Vals (ss.map V.str) its.toList
section
variable {c : Cd} {p : Bool} {δ : List Sl} {te : TE} {Φ : R → List Sl → Prop}
end
end DL

/-! DL43: abs; d.get(k, z). -/
namespace DL
open PySem PySem.Spec PyProof.Rows L2
open Evl (Ex)
def rAbsA : List V → Hp → VK → Prop := fun xs H Q => ∃ i, xs = [V.int i] ∧ Q (.int (if i < 0 then -i else i)) H
section
variable {c : Cd} {p : Bool} {δ : List Sl} {ta tb tz : TE} {Φ : R → List Sl → Prop}
theorem we_get2 (h : WE c p ta δ fun r1 δ1 => (∃ x, view δ1 (frz r1) = some x ∧ ((∃ kds, x = .dct kds) ∨ ∃ kds, x = .dcT kds)) ∧ WE c p tb δ1 fun r2 δ2 => WE c p tz δ2 fun r3 δ3 => ∃ x y z o, view δ3 (frz r1) = some x ∧ view δ3 (frz r2) = some y ∧ frz r3 = .d z ∧ getV x y o ∧ Φ (.d (o.getD z)) δ3) : WE c p (tDGet2 ta tb tz) δ Φ := by
  intro B G H σ Q F x k
  refine h B G H σ _ F x fun r1 δ1 v1 G1 H1 w1 e1 F1 rv1 p1 => ?_
  obtain ⟨⟨z, hz, hd⟩, w1⟩ := w1
  obtain ⟨G1', e1', F1', rw1⟩ := rv1.weak F1
  obtain ⟨a, ea, hD⟩ := isD_view F1' rw1 hz hd
  refine ⟨a, ea, hD, ?_⟩
  have x1 := c.mono _ _ _ (e1.trans e1') x
  refine w1 B G1' H1 σ _ F1' x1 fun r2 δ2 v2 G2 H2 w2 e2 F2 rv2 p2 => ?_
  obtain ⟨G2', e2', F2', rw2⟩ := rv2.weak F2
  refine w2 B G2' H2 σ _ F2' (c.mono _ _ _ (e2.trans e2') x1) fun r3 δ3 v3 G3 H3 w3 e3 F3 rv3 p3 => ?_
  obtain ⟨G3', e3', F3', rw3⟩ := rv3.weak F3
  obtain ⟨z1, z2, z3, o, hz1, hz2, hz3, hg, q⟩ := w3
  rw [hz3] at rw3
  have eo : Ex G G3' := (e1.trans e1').trans ((e2.trans e2').trans (e3.trans e3'))
  have fin : ∀ ov : Option V, DGet H3 a v2 ov → Rep c.K G3' (o.getD z3) (ov.getD v3) → ∃ o, DGet H3 a v2 o ∧ Q (o.getD v3) H3 := fun ov g r =>
    ⟨ov, g, k _ δ3 _ G3' H3 q eo F3' r fun hp => ⟨(p3 hp).1.trans ((p2 hp).1.trans (p1 hp).1), (p1 hp).2.trans ((p2 hp).2.trans (p3 hp).2)⟩⟩
  have rw1' := rw1.mono ((e2.trans e2').trans (e3.trans e3'))
  have rw2' := rw2.mono (e3.trans e3')
  rcases hg with ⟨key, kds, hk, ex, eo2⟩ | ⟨key, kds, hk, ex, eo2⟩
  · subst ex
    obtain ⟨a2, ea2, g⟩ := view_get F3' rw2' rw1' hz2 hz1 hk
    rw [ea] at ea2
    cases ea2
    rcases g with ⟨g1, g2⟩ | ⟨y, v, g1, g2, g3⟩
    · subst eo2; exact fin none g2 (by rw [g1]; exact rw3)
    · subst eo2; exact fin (some v) g2 (by rw [g1]; exact g3)
  · subst ex
    obtain ⟨a2, ea2, g⟩ := view_getT F3' rw2' rw1' hz2 hz1 hk
    rw [ea] at ea2
    cases ea2
    rcases g with ⟨g1, g2⟩ | ⟨y, v, g1, g2, g3⟩
    · subst eo2; exact fin none g2 (by rw [g1]; exact rw3)
    · subst eo2; exact fin (some v) g2 (by rw [g1]; exact g3)
end
end DL

/-! DL44: a pair of numbers in a list of pairs, and its place. -/
namespace DL
open PySem PySem.Spec PyProof.Rows L2
open Evl (Ex)
def prI (q : Int × Int) : D := .tup [.int q.1, .int q.2]
def prP (q : Int × Int) : PyData := .tuple [.int q.1, .int q.2]
section
variable {X : Cx}
def rInP (K : PySem.W.Frag) : R2 := fun x y H Q => ∃ (p : Int × Int) (ps : List (Int × Int)) (vs : List V) (a : Addr), Rep K H (prI p) x ∧ y = .ref a ∧ SqL K H a vs ∧ Reps K H (ps.map prI) vs ∧ Q (.bl (decide (p ∈ ps))) H
def rIndexP (K : PySem.W.Frag) : V → List V → Hp → VK → Prop := fun x xs H Q => ∃ (p : Int × Int) (ps : List (Int × Int)) (vs : List V) (a : Addr) (y : V) (j : Nat), x = V.ref a ∧ xs = [y] ∧ Rep K H (prI p) y ∧ SqL K H a vs ∧ Reps K H (ps.map prI) vs ∧ ps[j]? = some p ∧ (∀ m : Nat, m < j → ps[m]? ≠ some p) ∧ Q (.int (j : Nat)) H
end
section
variable {c : Cd}
/-- a pair in a list of pairs -/
def dInP : Dop := fun x y k => ∃ (p : Int × Int) (ps : List (Int × Int)), x = prI p ∧ y = .lst (ps.map prI) ∧ k (.d (.bl (decide (p ∈ ps))))
end
end DL

/-! DL45: list(text). -/
namespace DL
open PySem PySem.Spec PyProof.Rows L2
open Evl (Ex)
def rListS : List V → Hp → VK → Prop := fun xs H Q => ∃ z : Str, xs = [.str z] ∧ z.cps.size ≤ 100000 ∧ ∀ p, H p = none → Q (.ref p) (upd H p (.lst (z.cps.toList.map fun ch => V.str ⟨#[ch]⟩)))
section
variable {c : Cd}
end
end DL

/-! DL46: dict(list of pairs), the keys being tuples; dict(d), its keys tuples of unlike hashes. -/
namespace DL
open PySem PySem.Spec PyProof.Rows L2
open Evl (Ex)
def rDictPT (K : PySem.W.Frag) : List V → Hp → VK → Prop := fun xs H Q => ∃ (a : Addr) (ps : List Addr) (kvs : List (List Key × V)), xs = [.ref a] ∧ SqL K H a (ps.map V.ref) ∧
  Paired (fun p kv => ∃ b, SqT K H p [V.ref b, kv.2] ∧ H b = some (.tup (kv.1.map kV))) ps kvs ∧ (kvs.map Prod.fst).Nodup ∧ ∀ p, H p = none → Q (.ref p) (upd H p (.dT kvs))
/-- the hash of a pair of small numbers -/
def hash2 (p : Nat × Nat) : Int := reduceHash (Builtin.Tuple.tupleHashOf [hashInt (p.1 : Nat), hashInt (p.2 : Nat)])
def smallPs : List (Nat × Nat) := (List.range 13).flatMap fun i => (List.range 13).map fun j => (i, j)
def kP (p : Nat × Nat) : List Key := [.inl (p.1 : Int), .inl (p.2 : Int)]
def rDictDT : List V → Hp → VK → Prop := fun xs H Q => ∃ (a : Addr) (kvs : List (List Key × V)) (ps : List (Nat × Nat)), xs = [.ref a] ∧ Rd H a (.dT kvs) ∧ kvs.map Prod.fst = ps.map kP ∧ (∀ q ∈ ps, q.1 < 13 ∧ q.2 < 13) ∧ ∀ p, H p = none → Q (.ref p) (upd H p (.dT kvs))
def rDictTT (K : PySem.W.Frag) : List V → Hp → VK → Prop := fun xs H Q => rDictPT K xs H Q ∨ rDictDT xs H Q
/-- pairs of a tuple key and data -/
def pairsT : List D → Option (List (List Key × D))
  | [] => some []
  | .tup [k, x] :: r => match dKeyT k with
    | some key => (pairsT r).map ((key, x) :: ·)
    | none => none
  | _ :: _ => none
section
variable {c : Cd}
end
end DL

/-! DL47: f-strings of texts and numbers. -/
namespace DL
open PySem PySem.Spec PyProof.Rows L2
open Evl (Ex)
def tFS (ts : List TE) : TE := fun σ H Q => tJs ts Str.empty σ H fun out H1 => Q (.str out) H1
section
variable {c : Cd} {p : Bool} {δ : List Sl} {te : TE} {Φ : R → List Sl → Prop}
def WJs (c : Cd) (p : Bool) : List TE → Str → List Sl → (Str → List Sl → Prop) → Prop
  | [], acc, δ, Ψ => Ψ acc δ
  | t :: ts, acc, δ, Ψ => WE c p t δ fun r δ1 => ∃ y : Str, r = .d (.str y) ∧ (acc ++ y).length ≤ 16000000 ∧ WJs c p ts (acc ++ y) δ1 Ψ
end
end DL

/-! DL48: sorted of a list of alike data (numbers, texts, tuples of these), any length. -/
namespace DL
open PySem PySem.Spec PyProof.Rows L2
open Evl (Ex)
abbrev SIt := V × D × PyData
def encS (b : SIt) : PyData := b.2.2
def leD (x y : D) : Bool := PySem.W.dataLe false (fun d => (pyA d).getD .none) x y
def rSortG (K : PySem.W.Frag) : List V → Hp → VK → Prop := fun vs H Q => ∃ (a : Addr) (bs : List SIt), vs = [V.ref a] ∧ SqL K H a (bs.map (·.1)) ∧ (∀ b ∈ bs, Rep K H b.2.1 b.1 ∧ pyA b.2.1 = some b.2.2 ∧ b.2.2.depth ≤ 50) ∧
  PySem.W.AllAlike (bs.map encS) ∧ PySem.W.Sortable (bs.map encS) ∧ bs.length ≤ sizeLine ∧ ∀ p, H p = none → Q (.ref p) (upd H p (.lst ((bs.mergeSort (PySem.W.dataLe false encS)).map (·.1))))
end DL

/-! DL49: any pure thing in a list or tuple of pure things, and its place. -/
namespace DL
open PySem PySem.Spec PyProof.Rows L2
open Evl (Ex)
def seqP (t : Bool) (ds : List PyData) : PyData := if t = true then .tuple ds else .list ds
def rInG (K : PySem.W.Frag) (neg : Bool) : R2 := fun x y H Q => ∃ d ds t, Dp K H x d ∧ Dp K H y (seqP t ds) ∧ d.canLay0 = true ∧ PyData.canLayAll0 ds = true ∧ d.depth ≤ 60 ∧ Q (.bl (if neg = true then !(ds.any fun e => PyData.eqv e d) else ds.any fun e => PyData.eqv e d)) H
section
variable {X : Cx}
theorem op_inG (hu : X.A.units + 64 < cLine) : OpR X (compareOp .In) (rInG X.K false) := by
  intro pins s σ H x y v u Q I rx ry h
  obtain ⟨d, ds, t, h1, h2, h3, h4, h5, q⟩ := h
  obtain ⟨as, r1⟩ := Dp.reads I _ _ _ h1 rx
  obtain ⟨bs, r2⟩ := Dp.reads I _ _ _ h2 ry
  have hm : min (PyData.depthAll ds) d.depth ≤ 60 := Nat.le_trans (Nat.min_le_right _ _) h5
  cases t
  · exact SeqAt.in_list_reads r2 r1 h4 h3 (by omega) ⟨.bl _, H, I, rfl, q⟩
  · exact SeqAt.in_tuple_reads r2 r1 h4 h3 (by omega) ⟨.bl _, H, I, rfl, q⟩
def rIndexG (K : PySem.W.Frag) : V → List V → Hp → VK → Prop := fun x xs H Q => ∃ (d : PyData) (ds : List PyData) (vs : List V) (a : Addr) (y : V) (j : Nat), x = V.ref a ∧ xs = [y] ∧ Dp K H y d ∧ SqL K H a vs ∧ DpAll K H vs ds ∧ d.canLay0 = true ∧ PyData.canLayAll0 ds = true ∧ d.depth ≤ 60 ∧
  (∃ e, ds[j]? = some e ∧ PyData.eqv e d = true) ∧ (∀ (m : Nat) e, m < j → ds[m]? = some e → PyData.eqv e d = false) ∧ Q (.int (j : Nat)) H
end
section
variable {c : Cd}
/-- a pure thing in a list or tuple of pure things -/
def dInG (f : Bool → Bool) : Dop := fun x y k => ∃ ys, (y = .lst ys ∨ y = .tup ys) ∧ pure0 x = true ∧ pure0s ys = true ∧ dpt x ≤ 60 ∧ (x ∈ ys → k (.d (.bl (f true)))) ∧ (x ∉ ys → k (.d (.bl (f false))))
theorem any_pure {x : D} {d : PyData} (hx : pure0 x = true) (h1 : py x = some d) : ∀ {ys : List D} {ds : List PyData}, pure0s ys = true → pys ys = some ds → ((ds.any fun e => PyData.eqv e d) = true ↔ x ∈ ys)
  | [], ds, _, h => by unfold pys at h; cases h; simp
  | y :: ys, ds, hp, h => by
    unfold pys at h
    cases q : py y with
    | none => rw [q] at h; cases h
    | some e0 =>
      rw [q] at h
      cases q2 : pys ys with
      | none => rw [q2] at h; cases h
      | some er =>
        rw [q2] at h
        cases h
        unfold pure0s at hp
        obtain ⟨hp0, hp1⟩ := Bool.and_eq_true_iff.mp hp
        rw [List.any_cons, Bool.or_eq_true_iff, eqv_pure y x e0 d hp0 hx q h1, any_pure hx h1 hp1 q2, List.mem_cons]
        exact or_congr_left ⟨Eq.symm, Eq.symm⟩
theorem opd_inGc (neg : Bool) {r : R2} (hr : r = rInG c.K neg) : OpD c r (dInG (neg ^^ ·)) := by
  intro B G H σ δ r1 r2 v1 v2 x y Ψ Q F h1 h2 e1 e2 hf k
  subst hr
  obtain ⟨ys, hy, hx, hys, hd, k1, k2⟩ := hf
  have q1 := view_repH F h1 e1
  have q2 := view_repH F h2 e2
  obtain ⟨d, a1, a2, a3⟩ := pure_py x hx
  obtain ⟨ds, b1, b2, b3⟩ := pures_py ys hys
  have iff := any_pure hx a1 hys b1
  have core : ∀ t : Bool, y = (if t = true then .tup ys else .lst ys) → rInG c.K neg v1 v2 H Q := fun t ht => by
    have hy2 : py y = some (seqP t ds) := by
      rw [ht]
      cases t
      · show py (.lst ys) = some (.list ds)
        unfold py; rw [b1]; rfl
      · show py (.tup ys) = some (.tuple ds)
        unfold py; rw [b1]; rfl
    refine ⟨d, ds, t, py_dp a1 q1, py_dp hy2 q2, a2, b2, by rw [a3]; exact hd, ?_⟩
    by_cases m : x ∈ ys
    · have e := iff.mpr m
      rw [e]
      have kb := k1 m
      cases neg
      · exact k _ _ G H kb (Ex.refl G) (Ex.refl H) F (rv_bl (K := c.K))
      · exact k _ _ G H kb (Ex.refl G) (Ex.refl H) F (rv_bl (K := c.K))
    · have e : (ds.any fun e => PyData.eqv e d) = false := Bool.eq_false_iff.mpr fun z => m (iff.mp z)
      rw [e]
      have kb := k2 m
      cases neg
      · exact k _ _ G H kb (Ex.refl G) (Ex.refl H) F (rv_bl (K := c.K))
      · exact k _ _ G H kb (Ex.refl G) (Ex.refl H) F (rv_bl (K := c.K))
  rcases hy with hy | hy
  · exact core false hy
  · exact core true hy
theorem opd_inG : OpD c (rInG c.K false) (dInG id) := by
  have e : dInG (false ^^ ·) = dInG id := by
    congr 1
    funext b
    exact Bool.false_xor b
  rw [← e]
  exact opd_inGc false rfl
/-- the place of a text in a text, where it stands there -/
def rSIndex : V → List V → Hp → VK → Prop := fun x xs H Q => ∃ a b i rest, x = .str a ∧ xs = [.str b] ∧ Builtin.Str.occurrences a b 0 a.length 1 = i :: rest ∧ Q (.int (i : Nat)) H
end
end DL

/-! DL50: a slice of a tuple, not the whole of it. -/
namespace DL
open PySem PySem.Spec PyProof.Rows L2
open Evl (Ex)
section
variable {c : Cd} {p : Bool} {δ : List Sl} {te : TE} {Φ : R → List Sl → Prop}
theorem we_slT {to th : TO} (h : WE c p te δ fun r1 δ1 => WO c p to δ1 fun lo δ2 => WO c p th δ2 fun hi δ3 => ∃ xs, view δ3 (frz r1) = some (.tup xs) ∧ ¬ (HT.sIx xs.length 0 lo = 0 ∧ HT.sIx xs.length xs.length hi = xs.length) ∧ Φ (.d (.tup (cutD xs lo hi))) δ3) : WE c p (tSl (L2.rSlT c.K) te to th) δ Φ := by
  intro B G H σ Q F x k
  refine h B G H σ _ F x fun r1 δ1 v1 G1 H1 w1 e1 F1 rv1 p1 => ?_
  obtain ⟨G1', e1', F1', rw1⟩ := rv1.weak F1
  refine w1 B G1' H1 σ _ F1' (c.mono _ _ _ (e1.trans e1') x) fun lo δ2 G2 H2 w2 e2 F2 p2 => ?_
  refine w2 B G2 H2 σ _ F2 (c.mono _ _ _ ((e1.trans e1').trans e2) x) fun hi δ3 G3 H3 w3 e3 F3 p3 => ?_
  obtain ⟨xs, hy, hn, hd⟩ := w3
  have eG := (e1.trans e1').trans (e2.trans e3)
  have rw3 := rw1.mono (e2.trans e3)
  have pp : p = true → δ3 = δ ∧ Ex H H3 := fun hp => ⟨((p3 hp).1.trans (p2 hp).1).trans (p1 hp).1, ((p1 hp).2.trans (p2 hp).2).trans (p3 hp).2⟩
  obtain ⟨a, vs, q1, q2, q3⟩ := view_tup F3 rw3 hy
  have hln := reps_length q3
  refine ⟨a, vs, q1, q2, by rw [hln]; exact hn, fun b hb => ?_⟩
  have hG := (F3.fresh hb).2.1
  exact k _ δ3 _ (upd G3 b (.tup (cutV vs lo hi))) _ hd (eG.trans (Ex.new hG)) (F3.laid hb) (rep_newT hG (reps_cut q3)) fun hp => ⟨(pp hp).1, (pp hp).2.trans (Ex.new hb)⟩
end
end DL

/-! DL51: a list of one's own times a number. -/
namespace DL
open PySem PySem.Spec PyProof.Rows L2
open Evl (Ex)
section
variable {c : Cd} {δ : List Sl} {te th : TE} {Φ : R → List Sl → Prop}
end
end DL

/-! DL52: a goal's kind, told ahead of the step (fewer steps are tried). -/
namespace DL
open PySem PySem.Spec PyProof.Rows L2
section
variable {c : Cd} {p : Bool} {δ : List Sl}
theorem gW {t : TS} {N Bk Ct : List Sl → Prop} {Rt : R → List Sl → Prop} (h : W c t δ N Rt Bk Ct) : W c t δ N Rt Bk Ct := h
theorem gWE {te : TE} {Φ : R → List Sl → Prop} (h : WE c p te δ Φ) : WE c p te δ Φ := h
theorem gOp {f : V → V → Hp → VK → Prop} {te th : TE} {Φ : R → List Sl → Prop} (h : WE c p (tOp f te th) δ Φ) : WE c p (tOp f te th) δ Φ := h
theorem gCB {f : List V → Hp → VK → Prop} {ta : TA} {Φ : R → List Sl → Prop} (h : WE c p (tCB f ta) δ Φ) : WE c p (tCB f ta) δ Φ := h
theorem gWA {ta : TA} {Φ : List R → List Sl → Prop} (h : WA c p ta δ Φ) : WA c p ta δ Φ := h
theorem gWG {g : TG} {r : R} {Φ : List Sl → Prop} (h : WG c g r δ Φ) : WG c g r δ Φ := h
theorem gWT {tt : TT} {Φ : Bool → List Sl → Prop} (h : WT c p tt δ Φ) : WT c p tt δ Φ := h
end
end DL

/-! DL53: tuple(reversed(list)). -/
namespace DL
open PySem PySem.Spec PyProof.Rows L2
open Evl (Ex)
section
variable {c : Cd} {p : Bool} {δ : List Sl} {te : TE} {Φ : R → List Sl → Prop}
end
end DL

/-! zip, its pairs under ONE name: the iterator remembers the pair it handed out -/
namespace L2
open PySem PySem.Spec PyProof.Rows
section
variable {prog : Program} {w : World} {A : Around} {E : Value → Shared → Prop} {s : Shared}
abbrev IsZipAt (h : Heap) (z TI TO : Addr) (v : Value) (f : Bool) : Prop :=
  h.get? z = some { cls := .type "zip", dict := none, data := .fields #[v, .bool f, .bool false, .ref TI, .ref TO], slots := #[] }
/-- what the iterator remembers: nothing, or a pair that it handed out -/
def ZipSt (h : Heap) (z TI TO : Addr) : Prop := IsZip h z TI TO .none ∨ ∃ T f, IsZipHeld h z TI TO T f
end
end L2

/-! DL55: d.setdefault(k, z); contracts that nothing fulfils (the ground of a def that calls itself). -/
namespace DL
open PySem PySem.Spec PyProof.Rows L2
open Evl (Ex)
section
variable {c : Cd} {δ : List Sl} {te ta tb : TE} {Φ : R → List Sl → Prop}
theorem we_setd (h : WE c false te δ fun r1 δ1 => ∃ i a, r1 = .bor i a ∧ (∃ ds, δ1[i]? = some (.own a (.dct ds))) ∧ WE c false ta δ1 fun r2 δ2 => ∃ w key, r2 = .d w ∧ dKey w = some key ∧ WE c false tb δ2 fun r3 δ3 =>
    ∃ z kds, r3 = .d z ∧ δ3[i]? = some (.own a (.dct kds)) ∧ kds.length < 100000 ∧ (∀ y, getD kds key = some y → Φ (.d y) δ3) ∧ (getD kds key = none → ∀ δ4, δ4 = δ3.set i (.own a (.dct (putD kds key z))) → Φ (.d z) δ4)) :
    WE c false (tDSetd te ta tb) δ Φ := by
  intro B G H σ Q F x k
  refine h B G H σ _ F x fun r1 δ1 v1 G1 H1 w1 e1 F1 rv1 p1 => ?_
  obtain ⟨i, a, er, ⟨ds0, hd0⟩, w1⟩ := w1
  subst er
  obtain ⟨ev, _⟩ := rv1
  subst ev
  obtain ⟨xs0, hx0, _⟩ := own_dct F1 hd0
  refine ⟨a, rfl, .inl ⟨xs0, .inl hx0⟩, ?_⟩
  refine w1 B G1 H1 σ _ F1 (c.mono _ _ _ e1 x) fun r2 δ2 v2 G2 H2 w2 e2 F2 rv2 p2 => ?_
  obtain ⟨w, key, er2, hk, w2⟩ := w2
  subst er2
  have q2 : v2 = kV key := dKey_rep hk (show Rep c.K G2 w v2 from rv2)
  subst q2
  refine w2 B G2 H2 σ _ F2 (c.mono _ _ _ (e1.trans e2) x) fun r3 δ3 v3 G3 H3 w3 e3 F3 rv3 p3 => ?_
  obtain ⟨z, kds, er3, hd, hl, y1, y2⟩ := w3
  subst er3
  obtain ⟨xs, hx, hr⟩ := own_dct F3 hd
  have hl2 : xs.length < sizeLine := by rw [repK_len' hr, sizeLine_eq]; omega
  have eG := e1.trans (e2.trans e3)
  rcases repK_val (k := key) hr with ⟨q1, q2⟩ | ⟨y, v, q1, q2, q3⟩
  · refine ⟨xs, key, hx, rfl, hl2, fun v hv => (by rw [q2] at hv; cases hv), fun _ => ?_⟩
    exact k _ _ v3 G3 _ (y2 q1 _ rfl) eG (frame_mut F3 hd ⟨_, upd_same, repK_put hr rv3⟩) rv3 fun hp => nomatch hp
  · refine ⟨xs, key, hx, rfl, hl2, fun v' hv => ?_, fun hn => (by rw [q2] at hn; cases hn)⟩
    rw [q2] at hv
    cases hv
    exact k _ _ v G3 H3 (y1 _ q1) eG F3 q3 fun hp => nomatch hp
end
end DL

/-! DL56: enumerate over a tuple; two readings of one expression; tuple + tuple. -/
namespace L2
open PySem PySem.Spec PyProof.Rows
open Sem (wp)
section
variable {prog : Program} {w : World} {A : Around} {E : Value → Shared → Prop} {s : Shared}
theorem meets_enumT (t : Addr) (items : Array Value) :
    Meets (Builtin.«enumerate.__new__» ⟨[.type "enumerate", .ref t], []⟩) (fun _ R s => s.heap.IsTuple t items ∧
      R (.ok (.ret (.ref (s.heap.push { cls := .type "tuple_iterator", data := .fields #[.ref t, .int 0 0] }).objs.size)))
        { s with heap := (s.heap.push { cls := .type "tuple_iterator", data := .fields #[.ref t, .int 0 0] }).push { cls := .type "enumerate", data := .fields #[.none, .bool false, .ref s.heap.objs.size, rawInt 0, .none, .none] } }) :=
  .of_wp fun prog w A R s h => by
    obtain ⟨hp, g, d, tk, os⟩ := s
    obtain ⟨h1, h⟩ := h
    have hsub := sub_enumerate
    have q1 : ∀ {A' : Around} {E : Value → Shared → Prop} {Q : Value → Shared → Prop}, Q (.ref hp.objs.size) ⟨hp.push { cls := .type "tuple_iterator", data := .fields #[.ref t, .int 0 0] }, g, d, tk, os⟩ → wpAny (model prog w) A' (pyIter (.ref t)) Q E ⟨hp, g, d, tk, os⟩ :=
      fun q => (begins_tuple t items).iter prog w _ _ ⟨hp, g, d, tk, os⟩ _ h1 q
    wp_walk using q1
    refine wpAny_stack_any fun st => wpAny_pure ?_
    split
    · rename_i c _ _ _ _ _
      cases (c == Value.type "enumerate")
      · wp_walk using q1
        exact ⟨_, rfl, h⟩
      · wp_walk using q1
        exact ⟨_, rfl, h⟩
    · wp_walk using q1
      exact ⟨_, rfl, h⟩
theorem call_enumT {l : Addr} {items : Array Value} {Q : Value → Shared → Prop} (hL : s.heap.IsTuple l items)
    (h : ∀ h', IsEnum h' (s.heap.objs.size + 1) s.heap.objs.size 0 .none → h'.IsTupleIter s.heap.objs.size l 0 → h'.objs.size = s.heap.objs.size + 2 →
      (∀ b o, s.heap.get? b = some o → h'.get? b = some o) → Q (.ref (s.heap.objs.size + 1)) { s with heap := h' }) :
    wpAny (model prog w) A (call (.type "enumerate") [.ref l]) Q E s := by
  refine callType_new F.called_enumerate (by decide) (F.typeCall_enumerate_1 _) (F.newCall_enumerate_1 _) (fun obj => F.args_object_init_2 obj _) F.entry_enumerate_new
    (meets_enumT l items) ⟨hL, ?_⟩
  have hz : (s.heap.push { cls := .type "tuple_iterator", data := .fields #[.ref l, .int 0 0] }).objs.size = s.heap.objs.size + 1 := Heap.size_push ..
  show _ ∧ _
  rw [hz]
  have he : IsEnum ((s.heap.push { cls := .type "tuple_iterator", data := .fields #[.ref l, .int 0 0] }).push
      { cls := .type "enumerate", data := .fields #[.none, .bool false, .ref s.heap.objs.size, rawInt 0, .none, .none] }) (s.heap.objs.size + 1) s.heap.objs.size 0 .none := by
    have := Heap.get?_push_size (s.heap.push { cls := .type "tuple_iterator", data := .fields #[.ref l, .int 0 0] })
      (o := { cls := .type "enumerate", data := .fields #[.none, .bool false, .ref s.heap.objs.size, rawInt 0, .none, .none] }) rfl
    rw [hz] at this; exact this
  refine ⟨⟨_, he, rfl⟩, h _ he ⟨_, Heap.get?_push_of_some _ (Heap.get?_push_size _ rfl), rfl, rfl⟩ (by rw [Heap.size_push, hz]) fun b o x => Heap.get?_push_of_some _ (Heap.get?_push_of_some _ x)⟩
theorem enumT_end {e it l : Addr} {i : Nat} {c : Int} {items : Array Value} {old : Value} {Q : Option Value → Shared → Prop} (hh : A.handled = none)
    (he : IsEnum s.heap e it c old) (hit : s.heap.IsTupleIter it l i) (hl : s.heap.IsTuple l items) (hx : items[i]? = none)
    (hQ : ∀ h', Heap.ExtBut it s.heap h' → Q none { s with heap := h' }) : wpAny (model prog w) A (pyNext (.ref e)) Q E s := by
  have hT : s.TypeIs (.ref e) "enumerate" := ⟨_, he, rfl⟩
  unfold pyNext
  refine wpAny_bind (wpAny_attempt (wpAny_callSpecial?_slot (name := Str.ofString "__next__") hT F.slot_enumerate_next
    (wpAny_call_entry F.slot_enumerate_next hT F.entry_enumerate_next ?_ (F.args_enumerate_next_1 _))))
  show wpAny _ _ (field (.ref e) 2 >>= _) _ _ _
  refine wpAny_bind (wpAny_field he rfl (x := .ref it) rfl ?_)
  refine wpAny_bind (wpAny_nextOf_tuple_end hh hit hl hx fun h' x he' hx' => ?_)
  obtain ⟨o, ho, hc⟩ := hx'
  refine wpAny_bind (wpAny_isInstance (T := "StopIteration") (b := true) ⟨o, ho, hc⟩ isSubtype_stop ?_)
  exact wpAny_pure (hQ _ he')
end
def Itu (K : PySem.W.Frag) (a : Addr) : It :=
  ⟨fun i H => ∃ (xs : List V) (x : V), SqT K H a xs ∧ xs[i]? = some x, fun i H v H' => ∃ T x, v = .ref T ∧ H T = none ∧ H' = upd H T (.tup [.int (i : Nat), x]) ∧ ∀ xs, SqT K H a xs → xs[i]? = some x, fun i H => ∃ xs : List V, SqT K H a xs ∧ xs.length ≤ i⟩
theorem walk_enumT {K : PySem.W.Frag} {a : Addr} {xs : List V} : Walk (Itu K a) xs.length (fun H => SqT K H a xs) (YPair (fun i => some (.int (i : Nat))) (fun i => xs[i]?)) := by
  refine ⟨fun i _ hi q => ⟨xs, xs[i], q, by simp [hi]⟩, fun _ q => ⟨xs, q, Nat.le_refl _⟩, fun i H v H' _ q y => ?_⟩
  obtain ⟨T, x, h1, h2, h3, h4⟩ := y
  exact ⟨T, .int (i : Nat), x, h1, h2, h3, rfl, h4 xs q⟩
theorem turn_enumT {P : Program} {w : World} {K : PySem.W.Frag} {elts : List Expr} {kk : Nat} {tpos : Pos} (a e it : Addr) (hai : a ≠ it) (hae : a ≠ e) :
    Turn P w K (.Tuple elts kk tpos) (Itu K a) [e, it] e (fun i h => (∃ old, IsEnum h e it ((i : Nat) : Int) old) ∧ h.IsTupleIter it a i ∧ e ≠ it) where
  mem := by simp
  obj := fun i h st b hb => by
    obtain ⟨⟨old, he⟩, ⟨o, ho, hc, hd⟩, _⟩ := st
    have e' : b = e ∨ b = it := by simpa using hb
    rcases e' with z | z
    · rw [z]; exact ⟨_, he, fun v q => nomatch q⟩
    · rw [z]; exact ⟨o, ho, fun v q => by rw [hd] at q; cases q⟩
  keep := fun i h h' st k => let ⟨⟨old, he⟩, hi, hne⟩ := st; ⟨⟨old, k e (by simp) _ he⟩, hi.at fun o q => k it (by simp) o q, hne⟩
  item := by
    intro X hP hw hK hc i pins s σ H E I hf st hg
    subst hP hw hK
    obtain ⟨⟨old, he⟩, hit, hne⟩ := st
    obtain ⟨xs, x, hq, hx⟩ := hg
    obtain ⟨its, rv, p, hz⟩ := I.tuple hq
    obtain ⟨u, hu, ru⟩ := rv.get hx
    have hel : e < s.heap.objs.size := Heap.lt_size he
    have hil : it < s.heap.objs.size := by obtain ⟨_, q, _⟩ := hit; exact Heap.lt_size q
    have hlt : i < its.toArray.size := by
      have h1 := (List.getElem?_eq_some_iff.mp hu).1
      simpa using h1
    refine wpAny_pyNext_enum_itemD (Draws.tuple (A := X.A.in1) (I.ok.hd hc) it a hai its.toArray) he ⟨hit, (show s.heap.IsTuple a its.toArray from p)⟩ hlt hne (fun z => by
      rcases List.mem_cons.mp z with z | z
      · exact hne z
      · exact hae (List.mem_singleton.mp z).symm) fun x2 h' tk hx2 ho hst hT hsz hk => ?_
    obtain ⟨hit', _⟩ := hst
    have ex2 : x2 = u := by
      have h1 : its.toArray[i]? = some x2 := hx2
      rw [List.getElem?_toArray, hu] at h1
      cases h1
      rfl
    subst ex2
    refine ⟨_, rfl, wpAny_letOwnedTupleGo_enum (s := { s with heap := h', toks := tk + 1 }) ho fun h'' he' sb => ?_⟩
    have hT2 : h''.get? s.heap.objs.size = some { cls := .type "tuple", data := .seq #[.int i tk, x2] } := (sb.2 _ (Nat.ne_of_gt hel)).trans hT
    have new : ObjOk X.prog X.w (upd H s.heap.objs.size (.tup [.int (i : Nat), x])) h'' s.heap.objs.size (.tup [.int (i : Nat), x]) :=
      ⟨by show 2 ≤ sizeLine; decide, [.int i tk, x2], .cons ⟨_, rfl⟩ (.cons ru .nil), ⟨_, hT2, rfl, _, rfl⟩⟩
    have I1 : Inv X pins σ (upd H s.heap.objs.size (.tup [.int (i : Nat), x])) { s with heap := h'', toks := tk + 1 } :=
      I.turnedNew (ch := [e, it]) (fun b ob hb q => (sb.2 b (fun z => hb (by simp [z]))).trans (hk b ob (fun z => hb (by simp [z])) (fun z => hb (by simp [z])) q)) hf (Nat.le_refl _) new
    refine ⟨.ref s.heap.objs.size, _, I1, rfl, ⟨_, x, rfl, I.hok.fresh (Nat.le_refl _), rfl, fun ys hy => by rw [I.tuple_inj hy hq]; exact hx⟩, ⟨⟨x2, ?_⟩, hit'.at fun o q => (sb.2 it (Ne.symm hne)).trans q, hne⟩, fun b hb => ?_⟩
    · have e1 : ((i + 1 : Nat) : Int) = (i : Int) + 1 := by omega
      rw [e1]; exact he'
    · have hb' : b < s.heap.objs.size := by
        have e' : b = e ∨ b = it := by simpa using hb
        rcases e' with z | z
        · rw [z]; exact hel
        · rw [z]; exact hil
      rw [upd_ne (Nat.ne_of_lt hb')]
      exact (hf b hb).1
  done := by
    intro X hP hw hK hc i pins s σ H E I hf st hg
    subst hP hw hK
    obtain ⟨⟨old, he⟩, hit, hne⟩ := st
    obtain ⟨xs, hq, hx⟩ := hg
    obtain ⟨its, rv, p, hz⟩ := I.tuple hq
    obtain ⟨f0, f1, f2, f3, f4, f5⟩ := hf it (by simp)
    have hl := rv.length
    exact enumT_end (I.ok.hd hc) he hit (show s.heap.IsTuple a its.toArray from p) (by simp; omega) fun h' eb => ⟨rfl, I.turned (t' := s.toks) (fun b o hb q => eb b o hb q) f0 f1 f3 f4 f5⟩
  self := fun A i s Q E st h => let ⟨⟨_, he⟩, _⟩ := st; wpAny_pyIter_enum he h
def iEnumT (K : PySem.W.Frag) (ta : TA) : TI := fun σ H R => ta σ H fun vs H1 => ∃ a xs, vs = [.ref a] ∧ SqT K H1 a xs ∧ R (Itu K a) H1
theorem pi_enumT {X : Cx} {e : Expr} {ta : TA} {p pos tpos : Pos} {elts : List Expr} {kk : Nat} (hg : Gl X "enumerate") (hm : X.mg "enumerate" = none) (ha : PA X [e] ta) (hs : starEach [e] X.env = [(false, eval e X.env)] := by rfl) :
    PI X (.Tuple elts kk tpos) (.Call (.Name "enumerate" p) [e] [] pos) (iEnumT X.K ta) := by
  refine ⟨fun pins s σ H R I h => ?_⟩
  refine Call_ (ld_blt I hg hm boot_enumerate (PyProof.Rows.callWith_type1 (thn (ha.run pos pins s σ H _ I h) fun us s1 ⟨vs, H1, I1, r1, q1⟩ => ?_) hs rfl))
  obtain ⟨a, xs, ex, hq, q⟩ := q1
  subst ex
  cases r1 with
  | cons r rr =>
    cases rr
    cases r
    obtain ⟨its, rv, p', hz⟩ := I1.tuple hq
    have hal : a < s1.heap.objs.size := by obtain ⟨_, q, _⟩ := p'; exact Heap.lt_size q
    refine call_enumT (show s1.heap.IsTuple a its.toArray from p') fun h' he hit hsz hk => wpAny_pyIter_enum he ?_
    have I2 : Inv X pins σ H1 { s1 with heap := h' } := I1.kept (t' := s1.toks) hk
    refine ⟨s1.heap.objs.size + 1, [s1.heap.objs.size + 1, s1.heap.objs.size], _, _, H1, rfl, I2, turn_enumT a (s1.heap.objs.size + 1) s1.heap.objs.size (Nat.ne_of_lt hal) (Nat.ne_of_lt (Nat.lt_succ_of_lt hal)), ⟨⟨.none, he⟩, hit, Nat.succ_ne_self _⟩, fun b hb => ?_, q⟩
    have e' : b = s1.heap.objs.size + 1 ∨ b = s1.heap.objs.size := by simpa using hb
    have hle : s1.heap.objs.size ≤ b := by
      rcases e' with z | z
      · rw [z]; exact Nat.le_add_right _ _
      · rw [z]; exact Nat.le_refl _
    exact I1.fpOk hle (I1.hok.fresh hle)
/-- either reading -/
def tEit (t1 t2 : TE) : TE := fun σ H Q => t1 σ H Q ∨ t2 σ H Q
def iEit (t1 t2 : TI) : TI := fun σ H Q => t1 σ H Q ∨ t2 σ H Q
theorem pe_eit {X : Cx} {e : Expr} {t1 t2 : TE} (h1 : PE X e t1) (h2 : PE X e t2) : PE X e (tEit t1 t2) :=
  ⟨fun pins s σ H Q I h => h.elim (h1.run pins s σ H Q I) (h2.run pins s σ H Q I)⟩
theorem pi_eit {X : Cx} {tg e : Expr} {t1 t2 : TI} (h1 : PI X tg e t1) (h2 : PI X tg e t2) : PI X tg e (iEit t1 t2) :=
  ⟨fun pins s σ H Q I h => h.elim (h1.run pins s σ H Q I) (h2.run pins s σ H Q I)⟩
end L2
namespace DL
open PySem PySem.Spec PyProof.Rows L2
open Evl (Ex)
section
variable {c : Cd} {p : Bool} {δ : List Sl} {t1 t2 : TE} {i1 i2 : TI}
theorem we_eitL {Φ : R → List Sl → Prop} (h : WE c p t1 δ Φ) : WE c p (tEit t1 t2) δ Φ := fun B G H σ Q F x k => .inl (h B G H σ Q F x k)
theorem we_eitR {Φ : R → List Sl → Prop} (h : WE c p t2 δ Φ) : WE c p (tEit t1 t2) δ Φ := fun B G H σ Q F x k => .inr (h B G H σ Q F x k)
theorem wi_eitL {Φ : List D → List Sl → Prop} (h : WI c p i1 δ Φ) : WI c p (iEit i1 i2) δ Φ := fun B G H σ Q F x k => .inl (h B G H σ Q F x k)
theorem wi_eitR {Φ : List D → List Sl → Prop} (h : WI c p i2 δ Φ) : WI c p (iEit i1 i2) δ Φ := fun B G H σ Q F x k => .inr (h B G H σ Q F x k)
theorem wi_enumT {tr : TA} {Φ : List D → List Sl → Prop} (h : WA c p tr δ fun rs δ1 => ∃ ds, rs = [.d (.tup ds)] ∧ Φ (enumD ds) δ1) : WI c p (iEnumT c.K tr) δ Φ := by
  intro B G H σ R F x k
  refine h B G H σ _ F x fun rs δ1 vs G1 H1 w e1 F1 rv p1 => ?_
  obtain ⟨ds, e, w⟩ := w
  subst e
  obtain ⟨v, vr, e2, h3, h4⟩ := rv
  have e3 : vr = [] := h4
  have h3' : Rep c.K G1 (.tup ds) v := h3
  unfold Rep at h3'
  obtain ⟨a, xs, e4, h5, h6⟩ := h3'
  subst e4 e3 e2
  have el : (enumD ds).length = xs.length := by unfold enumD; simp [reps_length h6]
  refine ⟨a, xs, rfl, SqT.of (F1.exG _ _ h5), k _ δ1 _ G1 H1 w e1 F1 p1 ⟨_, _, by rw [el]; exact walk_enumT, fun H2 e => SqT.of (e _ _ h5), yl_pair fun i x y hi hx hy => ?_⟩⟩
  cases hx
  obtain ⟨d, hd, hr⟩ := reps_getV h6 hy
  have hi2 : i < ds.length := (List.getElem?_eq_some_iff.mp hd).1
  refine ⟨.int i, d, ?_, rep_int, hr⟩
  unfold enumD
  rw [List.getElem?_map, List.getElem?_range hi2]
  show some (D.tup [.int (i : Int), ds.getD i .non]) = _
  rw [List.getD_eq_getElem?_getD, hd]
  rfl
/-- tuple + tuple, none empty -/
def dCatT : Dop
  | .tup xs, .tup ys, k => xs ≠ [] ∧ ys ≠ [] ∧ xs.length + ys.length ≤ 100000 ∧ k (.d (.tup (xs ++ ys)))
  | _, _, _ => False
theorem opd_catT : OpD c (rCatA c.K) dCatT := by
  intro B G H σ δ r1 r2 v1 v2 x y Ψ Q F h1 h2 e1 e2 hf k
  cases x with
  | tup xs =>
    cases y with
    | tup ys =>
      obtain ⟨a, vs, q1, q2, q3⟩ := view_tup F h1 e1
      obtain ⟨b, ws, q4, q5, q6⟩ := view_tup F h2 e2
      obtain ⟨n1, n2, hl, kk⟩ := hf
      have l1 := reps_length q3
      have l2 := reps_length q6
      refine ⟨a, b, vs, ws, q1, q4, q2, q5, by rw [l1, l2]; exact Evl.sz_of hl, fun z => ?_, fun _ z => ?_, fun _ _ q hq => ?_⟩
      · subst z
        exact (n1 (List.length_eq_zero_iff.mp (by rw [← l1]; rfl))).elim
      · subst z
        exact (n2 (List.length_eq_zero_iff.mp (by rw [← l2]; rfl))).elim
      · have hG := (F.fresh hq).2.1
        exact k _ _ (upd G q (.tup (vs ++ ws))) _ kk (Ex.new hG) (Ex.new hq) (F.laid hq) (rep_newT hG (reps_append q3 q6))
    | _ => exact hf.elim
  | _ => exact hf.elim
/-- a list or a tuple -/
def seqX : Bool → List D → D
  | true, xs => .tup xs
  | false, xs => .lst xs
theorem wo_mono {to : TO} {Ψ Ψ' : Option Int → List Sl → Prop} (h : WO c p to δ Ψ) (m : ∀ o δ', Ψ o δ' → Ψ' o δ') : WO c p to δ Ψ' := fun B G H σ Q F x k =>
  h B G H σ Q F x fun o δ' G' H' w => k o δ' G' H' (m o δ' w)
theorem we_slX {t : Bool} {te : TE} {to th : TO} {Φ : R → List Sl → Prop} (h : WE c p te δ fun r1 δ1 => WO c p to δ1 fun lo δ2 => WO c p th δ2 fun hi δ3 => ∃ xs, view δ3 (frz r1) = some (seqX t xs) ∧
    ¬ (HT.sIx xs.length 0 lo = 0 ∧ HT.sIx xs.length xs.length hi = xs.length) ∧ (∀ b, t = false → Φ (.own b (.lst (cutD xs lo hi))) δ3) ∧ (t = true → Φ (.d (.tup (cutD xs lo hi))) δ3)) :
    WE c p (tEit (tSl (rSlA c.K) te to th) (tSl (L2.rSlT c.K) te to th)) δ Φ := by
  cases t
  · refine we_eitL (we_sl (we_mono h fun r1 δ1 w1 => wo_mono w1 fun lo δ2 w2 => wo_mono w2 fun hi δ3 ⟨xs, e1, _, e3, _⟩ => ⟨_, e1, ?_⟩))
    exact fun a => e3 a rfl
  · exact we_eitR (we_slT (we_mono h fun r1 δ1 w1 => wo_mono w1 fun lo δ2 w2 => wo_mono w2 fun hi δ3 ⟨xs, e1, e2, _, e4⟩ => ⟨xs, e1, e2, e4 rfl⟩))
theorem wi_slX {t : Bool} {te : TE} {to th : TO} {Φ : List D → List Sl → Prop} (h : WE c p te δ fun r1 δ1 => WO c p to δ1 fun lo δ2 => WO c p th δ2 fun hi δ3 => ∃ xs, view δ3 (frz r1) = some (seqX t xs) ∧
    ¬ (HT.sIx xs.length 0 lo = 0 ∧ HT.sIx xs.length xs.length hi = xs.length) ∧ Φ (cutD xs lo hi) δ3) :
    WI c p (iAny c.K (tEit (tSl (rSlA c.K) te to th) (tSl (L2.rSlT c.K) te to th))) δ Φ :=
  wi_any (we_slX (t := t) (we_mono h fun r1 δ1 w1 => wo_mono w1 fun lo δ2 w2 => wo_mono w2 fun hi δ3 ⟨xs, e1, e2, e3⟩ => ⟨xs, e1, e2, fun b _ => ⟨_, _, rfl, rfl, e3⟩, fun _ => ⟨_, _, rfl, rfl, e3⟩⟩))
theorem wi_enX {t : Bool} {tr : TA} {Φ : List D → List Sl → Prop} (h : WA c p tr δ fun rs δ1 => ∃ ds, rs = [.d (seqX t ds)] ∧ Φ (enumD ds) δ1) : WI c p (iEit (iEnum c.K tr) (iEnumT c.K tr)) δ Φ := by
  cases t
  · exact wi_eitL (wi_enum h)
  · exact wi_eitR (wi_enumT h)
end
end DL

/-! DL57: a new own list, named nowhere, is changed (f().clear()). -/
namespace DL
open PySem PySem.Spec PyProof.Rows L2
open Evl (Ex)
theorem frame_tmp {K : PySem.W.Frag} {B G H : Hp} {σ : St} {δ : List Sl} {a : Addr} {o : HO} (F : Frame K B G H σ δ) (hB : B a = none) (hG : G a = none) (hn : a ∉ owned δ) : Frame K B G (upd H a o) σ δ := by
  refine ⟨fun b u q => ?_, fun b u q => ?_, F.dis, F.sl.ex (Ex.refl G) (fun b hb => upd_ne fun z => hn (by rw [← z]; exact hb)), F.own, F.nd⟩
  · by_cases z : b = a
    · subst z; rw [hB] at q; cases q
    · rw [upd_ne z]; exact F.exB b u q
  · by_cases z : b = a
    · subst z; rw [hG] at q; cases q
    · rw [upd_ne z]; exact F.exG b u q
section
variable {c : Cd} {δ : List Sl} {te : TE}
theorem we_muT0 {r : V → List V → Hp → VK → Prop} {f : Dmu} {Φ : R → List Sl → Prop} (hm : MuL r f) (h : WE c false te δ fun r1 δ1 => ∃ a ds, r1 = .own a (.lst ds) ∧ f ds [] fun _ z => Φ (.d z) δ1) : WE c false (tBM0 c.K "list" r te) δ Φ := by
  intro B G H σ Q F x k
  refine h B G H σ _ F x fun r1 δ1 v1 G1 H1 w1 e1 F1 rv1 p1 => ?_
  obtain ⟨a, ds, er, hf⟩ := w1
  subst er
  obtain ⟨ev, ho, hB, hG, hn⟩ := rv1
  subst ev
  obtain ⟨xs, hx, hr⟩ := ho
  refine ⟨.inl ⟨rfl, xs, SqL.of hx⟩, ?_⟩
  refine hm c.K G1 H1 a xs ds [] [] _ Q hx F1.exG hr reps_nil hf fun ds' xs' z v q hr' hz => ?_
  exact k _ _ v G1 _ q e1 (frame_tmp F1 hB hG hn) hz fun hp => by cases hp
theorem we_clearT {Φ : R → List Sl → Prop} (h : WE c false te δ fun r1 δ1 => ∃ a ds, r1 = .own a (.lst ds) ∧ Φ (.d .non) δ1) : WE c false (tBM0 c.K "list" rClear te) δ Φ :=
  we_muT0 mu_clear (we_mono h fun r1 δ1 ⟨a, ds, e1, q⟩ => ⟨a, ds, e1, rfl, q⟩)
end
end DL

namespace Lw
open PySem PySem.Spec PyProof.Rows L2 DL TL
open Evl (Ex)
abbrev St := L2.St
abbrev R := DL.R
abbrev XNoPlaces : Nat := 0
abbrev XNoName : Nat := 1
abbrev XTwice : Nat := 2
abbrev XNoTies : Nat := 3
abbrev XNoTie : Nat := 4
abbrev XNoPlace : Nat := 5
abbrev XLoop : Nat := 6
abbrev XNoLength : Nat := 7
abbrev XNoOrder : Nat := 8
abbrev XTied : Nat := 9
abbrev CHeights : Nat := 10
abbrev CWeb : Nat := 11

def wholeB : D → Int → Int → Bool
  | .int i, lo, hi => decide (lo ≤ i) && decide (i ≤ hi)
  | _, _, _ => false
/-- the letters -/
def lettersL : List Nat := [97, 98, 99, 100, 101, 102, 103, 104, 105, 106, 107, 108, 109, 110, 111, 112, 113, 114, 115, 116, 117, 118, 119, 120, 121, 122]
def nmOk (x : Str) : Bool := decide (1 ≤ x.length) && decide (x.length ≤ 6) && (tl x).all fun ch => decide (ch ∈ lettersL)
structure NmOk (ns : List Str) : Prop where
  l1 : 1 ≤ ns.length
  l2 : ns.length ≤ 12
  nd : ns.Nodup
  ok : ∀ x ∈ ns, nmOk x = true
/-- names, as a list or a tuple -/
def nsD (t : Bool) (ns : List Str) : D := if t = true then .tup (ns.map .str) else .lst (ns.map .str)
/-- any thing -/
def anyD (x : D) : Prop := (tyD x).isSome = true ∧ strOk x
def nameB : D → Bool
  | .str s => nmOk s
  | _ => false
def S_is_whole : SpD := fun as Φ => ∃ x lo hi, as = [.d x, .d (.int lo), .d (.int hi)] ∧ (tyD x).isSome = true ∧ Φ (.d (.bl (wholeB x lo hi))) as
def S_is_name : SpD := fun as Φ => ∃ x, as = [.d x] ∧ anyD x ∧ Φ (.d (.bl (nameB x))) as
/-! webs -/
abbrev Tie := (Nat × Nat) × Nat
def kN (p : Nat × Nat) : List Key := [.inl (p.1 : Int), .inl (p.2 : Int)]
def pN (p : Nat × Nat) : D := .tup [.int p.1, .int p.2]
def lnK (L : List Tie) : List (List Key × D) := L.map fun t => (kN t.1, .int (t.2 : Nat))
def spK (ns : List Str) : List (Key × D) := ns.zipIdx.map fun q => (.inr q.1, .int (q.2 : Nat))
def webD (C : Addr) (ns : List Str) (L : List Tie) : D := .obj C [("spots", .dct (spK ns)), ("names", .lst (ns.map .str)), ("lengths", .dcT (lnK L))]
structure WbOk (ns : List Str) (L : List Tie) : Prop where
  nm : NmOk ns
  ok : ∀ t ∈ L, t.1.1 < t.1.2 ∧ t.1.2 < ns.length ∧ 1 ≤ t.2 ∧ t.2 ≤ 1000000
  nd : (L.map Prod.fst).Nodup
  le : L.length ≤ 40
def mm (i j : Nat) : Nat × Nat := (min i j, max i j)
def posN (s : Str) : List Str → Option Nat
  | [] => none
  | x :: xs => if x = s then some 0 else (posN s xs).map (· + 1)
def spotN (ns : List Str) : D → Option Nat
  | .str s => posN s ns
  | _ => none
/-- what is handed in as places: the names, or the refusal that is due -/
def scanN : List Str → List D → (Nat × D) ⊕ List Str
  | acc, [] => .inr acc
  | acc, .str s :: ds => if nmOk s = true then (if s ∈ acc then .inl (XTwice, .str s) else scanN (acc ++ [s]) ds) else .inl (XNoName, .str s)
  | _, d :: _ => .inl (XNoName, d)
def placesR (x : D) : (Nat × D) ⊕ List Str := match seqD x with
  | some ds => if 1 ≤ ds.length ∧ ds.length ≤ 12 then scanN [] ds else .inl (XNoPlaces, x)
  | none => .inl (XNoPlaces, x)
/-- one tie, behind others -/
def tieR (ns : List Str) (L : List Tie) (d : D) : (Nat × D) ⊕ List Tie := match d with
  | .tup [a, b, l] => match spotN ns a with
    | none => .inl (XNoPlace, a)
    | some i => match spotN ns b with
      | none => .inl (XNoPlace, b)
      | some j => if i = j then .inl (XLoop, d) else match l with
        | .int n => if 1 ≤ n ∧ n ≤ 1000000 then (if mm i j ∈ L.map Prod.fst then .inl (XTied, .tup [a, b]) else .inr (L ++ [(mm i j, n.toNat)])) else .inl (XNoLength, l)
        | _ => .inl (XNoLength, l)
  | _ => .inl (XNoTie, d)
def scanT (ns : List Str) : List Tie → List D → (Nat × D) ⊕ List Tie
  | L, [] => .inr L
  | L, d :: ds => match tieR ns L d with
    | .inl e => .inl e
    | .inr L' => scanT ns L' ds
def tiesR (ns : List Str) (x : D) : (Nat × D) ⊕ List Tie := match seqD x with
  | some ds => if ds.length ≤ 40 then scanT ns [] ds else .inl (XNoTies, x)
  | none => .inl (XNoTies, x)
/-- things in them are any -/
def anyS (x : D) : Prop := anyD x ∧ ∀ ds, seqD x = some ds → ∀ d ∈ ds, anyD d
def anyT (x : D) : Prop := anyS x ∧ ∀ ds, seqD x = some ds → ∀ es, .tup es ∈ ds → ∀ d ∈ es, anyD d
def S_spots_of : SpX := fun as Φ Y => ∃ s x, as = [s] ∧ Arg x s ∧ anyS x ∧ match placesR x with
  | .inl (n, y) => s = .d x ∧ Y n y
  | .inr ns => ∀ a, Φ (.own a (.dct (spK ns))) as
def S_spot_of : SpX := fun as Φ Y => ∃ ns x, as = [.d (.dct (spK ns)), .d x] ∧ NmOk ns ∧ anyD x ∧ match spotN ns x with
  | none => Y XNoPlace x
  | some i => Φ (.d (.int (i : Nat))) as
def S_pair_of : SpD := fun as Φ => ∃ i j : Nat, as = [.d (.int i), .d (.int j)] ∧ Φ (.d (pN (mm i j))) as
def S_lengths_of : SpX := fun as Φ Y => ∃ ns s x, as = [.d (.dct (spK ns)), s] ∧ Arg x s ∧ NmOk ns ∧ anyT x ∧ match tiesR ns x with
  | .inl (n, y) => s = .d x ∧ Y n y
  | .inr L => ∀ a, Φ (.own a (.dcT (lnK L))) as
def S_Web___init__ (cn : Cn) : SpX := fun as Φ Y => ∃ a s t x y, as = [.own a (.obj (cn.ad CWeb) []), s, t] ∧ Arg x s ∧ Arg y t ∧ anyS x ∧ anyT y ∧ match placesR x with
  | .inl (n, z) => s = .d x ∧ t = .d y ∧ Y n z
  | .inr ns => match tiesR ns y with
    | .inl (n, z) => s = .d x ∧ t = .d y ∧ Y n z
    | .inr L => Φ (.d .non) [.own a (webD (cn.ad CWeb) ns L), s, t]
/-- in their order -/
def lexN (p q : Nat × Nat) : Bool := decide (p.1 < q.1 ∨ (p.1 = q.1 ∧ p.2 ≤ q.2))
def sortT (L : List Tie) : List Tie := L.mergeSort fun s t => lexN s.1 t.1
def nmAt (ns : List Str) (i : Nat) : Str := ns.getD i ""
def tieD (ns : List Str) (t : Tie) : D := .tup [.str (nmAt ns t.1.1), .str (nmAt ns t.1.2), .int (t.2 : Nat)]
def tiesD (ns : List Str) (L : List Tie) : List D := (sortT L).map (tieD ns)
def besD (ns : List Str) (L : List Tie) (i : Nat) : List D := ns.zipIdx.filterMap fun q => (L.lookup (mm i q.2)).map fun l => .tup [.str q.1, .int (l : Nat)]
def lenO (L : List Tie) (i j : Nat) : D := ((L.lookup (mm i j)).map fun (l : Nat) => D.int l).getD .non
def toldD (ns : List Str) (L : List Tie) : D := .tup [.tup (ns.map .str), .tup (tiesD ns L)]
def S_Web_places (cn : Cn) : SpD := fun as Φ => ∃ ns L, as = [.d (webD (cn.ad CWeb) ns L)] ∧ ∀ b, Φ (.own b (.lst (ns.map .str))) as
def S_Web_many (cn : Cn) : SpD := fun as Φ => ∃ ns L, as = [.d (webD (cn.ad CWeb) ns L)] ∧ Φ (.d (.int (ns.length : Nat))) as
def S_Web_ties (cn : Cn) : SpD := fun as Φ => ∃ ns L, as = [.d (webD (cn.ad CWeb) ns L)] ∧ WbOk ns L ∧ ∀ b, Φ (.own b (.lst (tiesD ns L))) as
def S_Web_number (cn : Cn) : SpX := fun as Φ Y => ∃ ns L x, as = [.d (webD (cn.ad CWeb) ns L), .d x] ∧ NmOk ns ∧ anyD x ∧ match spotN ns x with
  | none => Y XNoPlace x
  | some i => Φ (.d (.int (i : Nat))) as
def S_Web_length (cn : Cn) : SpX := fun as Φ Y => ∃ ns L x y, as = [.d (webD (cn.ad CWeb) ns L), .d x, .d y] ∧ WbOk ns L ∧ anyD x ∧ anyD y ∧ match spotN ns x with
  | none => Y XNoPlace x
  | some i => match spotN ns y with
    | none => Y XNoPlace y
    | some j => Φ (.d (lenO L i j)) as
def S_Web_beside (cn : Cn) : SpX := fun as Φ Y => ∃ ns L x, as = [.d (webD (cn.ad CWeb) ns L), .d x] ∧ WbOk ns L ∧ anyD x ∧ match spotN ns x with
  | none => Y XNoPlace x
  | some i => ∀ b, Φ (.own b (.lst (besD ns L i))) as
def S_Web_told (cn : Cn) : SpD := fun as Φ => ∃ ns L, as = [.d (webD (cn.ad CWeb) ns L)] ∧ WbOk ns L ∧ Φ (.d (toldD ns L)) as
/-! ties handed in, by numbers -/
abbrev Tri := Nat × Nat × Nat
def triD (ns : List Str) (q : Tri) : D := .tup [.str (nmAt ns q.1), .str (nmAt ns q.2.1), .int (q.2.2 : Nat)]
def triT (q : Tri) : Tie := (mm q.1 q.2.1, q.2.2)
structure TriOk (n : Nat) (T : List Tri) : Prop where
  ok : ∀ q ∈ T, q.1 < n ∧ q.2.1 < n ∧ q.1 ≠ q.2.1 ∧ 1 ≤ q.2.2 ∧ q.2.2 ≤ 1000000
  nd : (T.map fun q => (triT q).1).Nodup
/-- a box: four numbers, at most n draws behind -/
def BoxD (n : Nat) (x : D) : Prop := ∃ x0 x1 x2 x3 : Int, x = .lst [.int x0, .int x1, .int x2, .int x3] ∧ 0 ≤ x1 ∧ x1 < 2147483648 ∧ 0 ≤ x2 ∧ x2 < 2147483648 ∧ 0 ≤ x3 ∧ x3 ≤ n
/-- so many names -/
structure Nms (m : Nat) (ns : List Str) : Prop where
  len : ns.length = m
  nd : ns.Nodup
  ok : ∀ x ∈ ns, nmOk x = true
def S_l_cell : SpD := fun as Φ => ∃ (ns : List Int) (k : Nat), as = [.d (.ro (ns.map .int)), .d (.int k)] ∧ ns.length ≤ 63 ∧ ∀ v : Int, Φ (.d (.int v)) as
def S_l_box : SpD := fun as Φ => ∃ v : Int, as = [.d (.int v)] ∧ ∀ b x, BoxD 0 x → Φ (.own b x) as
def S_l_take : SpD := fun as Φ => ∃ b x n m, as = [.own b x, .d (.int m)] ∧ BoxD n x ∧ n < 1000000 ∧ 0 < m ∧ m < 2 ^ 200 ∧ ∀ r x', 0 ≤ r → r < m → BoxD (n + 1) x' → Φ (.d (.int r)) [.own b x', .d (.int m)]
/-! worlds of any ties -/
def S_l_names : SpD := fun as Φ => ∃ b x n, ∃ m : Nat, as = [.own b x, .d (.int (m : Nat))] ∧ BoxD n x ∧ n + 100 < 1000000 ∧ 1 ≤ m ∧ m ≤ 12 ∧ ∀ b2 ns x', Nms m ns → BoxD (n + 100) x' → Φ (.own b2 (.lst (ns.map .str))) [.own b x', .d (.int (m : Nat))]
def S_l_turned : SpD := fun as Φ => ∃ b x n, ∃ m : Nat, as = [.own b x, .d (.int (m : Nat))] ∧ BoxD n x ∧ n + 20 < 1000000 ∧ m ≤ 13 ∧ ∀ b2 (π : List Nat) x', π.Perm (List.range m) → BoxD (n + 20) x' → Φ (.own b2 (.lst (π.map fun i => .int (i : Nat)))) [.own b x', .d (.int (m : Nat))]
def S_l_is_tied : SpD := fun as Φ => ∃ b x n, ∃ w k j r : Int, as = [.own b x, .d (.int w), .d (.int k), .d (.int j), .d (.int r)] ∧ BoxD n x ∧ n + 1 < 1000000 ∧ ∀ (v : Bool) x', BoxD (n + 1) x' → Φ (.d (.bl v)) [.own b x', .d (.int w), .d (.int k), .d (.int j), .d (.int r)]
def S_l_length : SpD := fun as Φ => ∃ b x n, ∃ w : Int, as = [.own b x, .d (.int w)] ∧ BoxD n x ∧ n + 1 < 1000000 ∧ 0 ≤ w ∧ w < 4 ∧ ∀ (l : Nat) x', 1 ≤ l → l ≤ 1000000 → BoxD (n + 1) x' → Φ (.d (.int (l : Nat))) [.own b x', .d (.int w)]
def numD (q : Tri) : D := .tup [.int (q.1 : Nat), .int (q.2.1 : Nat), .int (q.2.2 : Nat)]
/-- the same ties, of places by other numbers -/
structure TurnT (π : List Nat) (T U : List Tri) : Prop where
  len : U.length = T.length
  at_ : ∀ (k : Nat) (q : Tri), T[k]? = some q → ∃ r, U[k]? = some r ∧ r.2.2 = q.2.2 ∧ ((r.1 = π.getD q.1 0 ∧ r.2.1 = π.getD q.2.1 0) ∨ (r.1 = π.getD q.2.1 0 ∧ r.2.1 = π.getD q.1 0))
def S_l_named : SpD := fun as Φ => ∃ b x n, ∃ m : Nat, ∃ T : List Tri, as = [.own b x, .d (.lst (T.map numD)), .d (.int (m : Nat))] ∧ BoxD n x ∧ n + 200 < 1000000 ∧ 1 ≤ m ∧ m ≤ 12 ∧ T.length ≤ 40 ∧ (∀ q ∈ T, q.1 < m ∧ q.2.1 < m) ∧ ∀ (ns : List Str) (π : List Nat) (U : List Tri) x', Nms m ns → π.Perm (List.range m) → TurnT π T U → BoxD (n + 200) x' → Φ (.d (.tup [.lst (ns.map .str), .lst (U.map (triD ns))])) [.own b x', .d (.lst (T.map numD)), .d (.int (m : Nat))]
def S_l_drawn : SpD := fun as Φ => ∃ b x n, ∃ m : Nat, as = [.own b x, .d (.int (m : Nat))] ∧ BoxD n x ∧ n + 1000 < 1000000 ∧ 1 ≤ m ∧ m ≤ 12 ∧ ∀ (ns : List Str) (U : List Tri) x', NmOk ns → ns.length ≤ m → TriOk ns.length U → U.length ≤ 40 → BoxD (n + 1000) x' → Φ (.d (.tup [.lst (ns.map .str), .lst (U.map (triD ns))])) [.own b x', .d (.int (m : Nat))]
/-! heights and bridges -/
/-- ways over places of S, the last one too -/
inductive WkS (L : List Tie) (S : List Nat) (i : Nat) : Nat → Nat → Prop
  | refl : WkS L S i i 0
  | step {j k d l : Nat} : WkS L S i j d → k ∈ S → L.lookup (mm j k) = some l → WkS L S i k (d + l)
/-- ways over places of S -/
def Lw (L : List Tie) (S : List Nat) (i j d : Nat) : Prop := ∃ k e l, WkS L S i k e ∧ L.lookup (mm k j) = some l ∧ d = e + l
/-- the least one -/
def Least (P : Nat → Prop) : Option Nat → Prop
  | none => ∀ d, ¬ P d
  | some d => P d ∧ ∀ e, P e → d ≤ e
theorem least_ex (P : Nat → Prop) : ∃ o, Least P o := by
  by_cases h : ∃ d, P d
  · obtain ⟨d, hd⟩ := h
    induction d using Nat.strongRecOn with
    | _ d ih =>
      by_cases h : ∃ e, e < d ∧ P e
      · obtain ⟨e, he, w⟩ := h
        exact ih e he w
      · exact ⟨some d, hd, fun e he => Nat.le_of_not_lt fun z => h ⟨e, z, he⟩⟩
  · exact ⟨none, fun d hd => h ⟨d, hd⟩⟩
noncomputable def leastN (P : Nat → Prop) : Option Nat := Classical.choose (least_ex P)
def lowN (ord : List Nat) (i j : Nat) : List Nat := ord.take (min (ord.idxOf i) (ord.idxOf j))
open Classical in
noncomputable def bgN (L : List Tie) (ord : List Nat) (i j : Nat) : Option Nat := if i = j then none else leastN (Lw L (lowN ord i j) i j)
def kT2 (ns : List Str) (i j : Nat) : List Key := [.inr (nmAt ns i), .inr (nmAt ns j)]
def inD' (ns : List Str) : Option Nat → D
  | none => .non
  | some p => .str (nmAt ns p)
def lkD (ns : List Str) (q : Nat × Option Nat) : D := .tup [.int (q.1 : Nat), inD' ns q.2]
/-- all bridges -/
structure LkOk (ns : List Str) (L : List Tie) (ord : List Nat) (kvs : List (List Key × D)) : Prop where
  at_ : ∀ i j, i < ns.length → j < ns.length → ∃ o : Option (Nat × Option Nat), getT kvs (kT2 ns i j) = o.map (lkD ns) ∧ o.map Prod.fst = bgN L ord i j ∧
    ∀ d v, o = some (d, v) → d ≤ 13000000 ∧ (v = none ↔ L.lookup (mm i j) = some d) ∧ ∀ p, v = some p → p < ns.length ∧ p ∈ lowN ord i j ∧ ∃ d1 d2, bgN L ord p i = some d1 ∧ bgN L ord p j = some d2 ∧ d1 + d2 = d
structure HgOk (ns : List Str) (L : List Tie) (ord : List Nat) (kvs : List (List Key × D)) : Prop where
  w : WbOk ns L
  p : ord.Perm (List.range ns.length)
  k : LkOk ns L ord kvs
def highD (C C' : Addr) (ns : List Str) (L : List Tie) (ord : List Nat) (kvs : List (List Key × D)) : D := .obj C [("high_web", webD C' ns L), ("climbed", .lst ((ord.map (nmAt ns)).map .str)), ("links", .dcT kvs)]
noncomputable def upN (L : List Tie) (ord : List Nat) (i : Nat) : List Nat := (ord.drop (ord.idxOf i + 1)).filter fun j => (bgN L ord i j).isSome
def ordD (ns : List Str) (ord : List Nat) : D := .lst ((ord.map (nmAt ns)).map .str)
def S_need_place (cn : Cn) : SpX := fun as Φ Y => ∃ ns L x, as = [.d (webD (cn.ad CWeb) ns L), .d x] ∧ NmOk ns ∧ anyD x ∧ match spotN ns x with
  | none => Y XNoPlace x
  | some _ => Φ (.d .non) as
def S_need_order (cn : Cn) : SpX := fun as Φ _ => ∃ (ns : List Str) (L : List Tie) (t : Bool) (ord : List Nat) (s : Sl), as = [.d (webD (cn.ad CWeb) ns L), s] ∧ NmOk ns ∧ ord.Perm (List.range ns.length) ∧ Arg (nsD t (ord.map (nmAt ns))) s ∧ Φ (.d .non) as
def S_linked (cn : Cn) : SpD := fun as Φ => ∃ ns L, as = [.d (webD (cn.ad CWeb) ns L)] ∧ WbOk ns L ∧ ∀ b kvs, kvs.length ≤ 100 → tscK kvs → (∀ i j, i < ns.length → j < ns.length → getT kvs (kT2 ns i j) = (L.lookup (mm i j)).map fun l => lkD ns (l, none)) → Φ (.own b (.dcT kvs)) as
def S_bridged (cn : Cn) : SpD := fun as Φ => ∃ (ns : List Str) (L : List Tie) (t : Bool) (ord : List Nat), as = [.d (webD (cn.ad CWeb) ns L), .d (seqX t ((ord.map (nmAt ns)).map .str))] ∧ WbOk ns L ∧ ord.Perm (List.range ns.length) ∧ ∀ b kvs, LkOk ns L ord kvs → tscK kvs → Φ (.own b (.dcT kvs)) as
def S_Heights___init__ (cn : Cn) : SpX := fun as Φ _ => ∃ (a : Addr) (ns : List Str) (L : List Tie) (t : Bool) (ord : List Nat) (s : Sl), as = [.own a (.obj (cn.ad CHeights) []), .d (webD (cn.ad CWeb) ns L), s] ∧ WbOk ns L ∧ ord.Perm (List.range ns.length) ∧ Arg (seqX t ((ord.map (nmAt ns)).map .str)) s ∧ ∀ kvs, HgOk ns L ord kvs → Φ (.d .non) [.own a (highD (cn.ad CHeights) (cn.ad CWeb) ns L ord kvs), .d (webD (cn.ad CWeb) ns L), s]
def S_Heights_order (cn : Cn) : SpD := fun as Φ => ∃ ns L ord kvs, as = [.d (highD (cn.ad CHeights) (cn.ad CWeb) ns L ord kvs)] ∧ ∀ b, Φ (.own b (.lst ((ord.map (nmAt ns)).map .str))) as
def S_Heights_above (cn : Cn) : SpD := fun as Φ => ∃ (ns : List Str) (L : List Tie) (ord : List Nat) (kvs : List (List Key × D)) (i : Nat), as = [.d (highD (cn.ad CHeights) (cn.ad CWeb) ns L ord kvs), .d (.str (nmAt ns i))] ∧ HgOk ns L ord kvs ∧ i < ns.length ∧ ∀ b, Φ (.own b (.lst (((upN L ord i).map (nmAt ns)).map .str))) as
def S_Heights_bridges (cn : Cn) : SpD := fun as Φ => ∃ (ns : List Str) (L : List Tie) (ord : List Nat) (kvs : List (List Key × D)), as = [.d (highD (cn.ad CHeights) (cn.ad CWeb) ns L ord kvs)] ∧ HgOk ns L ord kvs ∧
  ∀ b, Φ (.own b (.lst (ord.flatMap fun i => (upN L ord i).map fun j => .tup [.str (nmAt ns i), .str (nmAt ns j), .int (((bgN L ord i j).getD 0 : Nat) : Int)]))) as
/-- all bridges, as the law finds them -/
def DueOk (ns : List Str) (L : List Tie) (ord : List Nat) (kvs : List (List Key × D)) : Prop := ∀ i j, i < ns.length → j < ns.length → getT kvs (kT2 ns i j) = if ord.idxOf i < ord.idxOf j then (bgN L ord i j).map fun d => .int (d : Nat) else none
def S_l_order : SpD := fun as Φ => ∃ b x n, ∃ ns : List Str, as = [.own b x, .d (.lst (ns.map .str))] ∧ BoxD n x ∧ n + 20 < 1000000 ∧ ns.length ≤ 12 ∧ ∀ b2 (ord : List Nat) x', ord.Perm (List.range ns.length) → BoxD (n + 20) x' → Φ (.own b2 (.lst ((ord.map (nmAt ns)).map .str))) [.own b x', .d (.lst (ns.map .str))]
def S_l_bridges : SpD := fun as Φ => ∃ (ns : List Str) (U : List Tri) (ord : List Nat), as = [.d (.lst (U.map (triD ns))), .d (.lst ((ord.map (nmAt ns)).map .str))] ∧ NmOk ns ∧ TriOk ns.length U ∧ U.length ≤ 40 ∧ ord.Perm (List.range ns.length) ∧ ∀ b kvs, DueOk ns (U.map triT) ord kvs → Φ (.own b (.dcT kvs)) as
/-- a row of up -/
def upR (ns : List Str) (kvs : List (List Key × D)) (i j : Nat) : D := match getT kvs (kT2 ns i j) with
  | some (.tup xs) => .tup (.str (nmAt ns j) :: xs)
  | _ => .non
def S_Heights_up (cn : Cn) : SpX := fun as Φ _ => ∃ (ns : List Str) (L : List Tie) (ord : List Nat) (kvs : List (List Key × D)) (i : Nat), as = [.d (highD (cn.ad CHeights) (cn.ad CWeb) ns L ord kvs), .d (.str (nmAt ns i))] ∧ HgOk ns L ord kvs ∧ i < ns.length ∧ ∀ b, Φ (.own b (.lst ((upN L ord i).map (upR ns kvs i)))) as
def S_l_tied : SpD := fun as Φ => ∃ (ns : List Str) (U : List Tri) (i j d : Nat), as = [.d (.lst (U.map (triD ns))), .d (.str (nmAt ns i)), .d (.str (nmAt ns j)), .d (.int (d : Nat))] ∧ NmOk ns ∧ TriOk ns.length U ∧ U.length ≤ 40 ∧ i < ns.length ∧ j < ns.length ∧ Φ (.d (.bl (decide ((U.map triT).lookup (mm i j) = some d)))) as
def S_l_up_right : SpD := fun as Φ => ∃ (ns : List Str) (U : List Tri) (ord : List Nat) (kvs dvs : List (List Key × D)) (i : Nat), as = [.d (.lst (U.map (triD ns))), .d (.dcT dvs), .d (.lst ((ord.map (nmAt ns)).map .str)), .d (.str (nmAt ns i)), .d (.lst ((upN (U.map triT) ord i).map (upR ns kvs i)))] ∧ TriOk ns.length U ∧ U.length ≤ 40 ∧ HgOk ns (U.map triT) ord kvs ∧ DueOk ns (U.map triT) ord dvs ∧ i < ns.length ∧ Φ (.d (.bl true)) as
def S_l_right (cn : Cn) : SpD := fun as Φ => ∃ (ns : List Str) (U : List Tri) (ord : List Nat) (kvs : List (List Key × D)), as = [.d (highD (cn.ad CHeights) (cn.ad CWeb) ns (U.map triT) ord kvs), .d (.lst (ns.map .str)), .d (.lst (U.map (triD ns))), .d (.lst ((ord.map (nmAt ns)).map .str))] ∧ NmOk ns ∧ TriOk ns.length U ∧ U.length ≤ 40 ∧ HgOk ns (U.map triT) ord kvs ∧ Φ (.d (.bl true)) as
def S_law : SpD := fun as Φ => ∃ ns : List Int, as = [.d (.ro (ns.map .int))] ∧ ns.length ≤ 63 ∧ Φ (.d (.bl true)) as

abbrev N_Web_places : List Str := ["self"]
abbrev N_need_place : List Str := ["web", "thing"]
abbrev N_Web_many : List Str := ["self"]
abbrev N_need_order : List Str := ["web", "thing", "place"]
abbrev N_Web_ties : List Str := ["self", "one", "other"]
abbrev N_linked : List Str := ["web", "links", "one", "other", "length"]
abbrev N_bridged : List Str := ["web", "order", "links", "at", "inner", "above", "place", "one", "other", "length"]
abbrev N_Heights___init__ : List Str := ["self", "web", "order"]
abbrev N_Heights_order : List Str := ["self"]
abbrev N_Heights_above : List Str := ["self", "place", "at", "other"]
abbrev N_Heights_up : List Str := ["self", "place", "other"]
abbrev N_Heights_bridges : List Str := ["self", "found", "low", "high"]
abbrev N_is_whole : List Str := ["thing", "low", "high"]
abbrev N_is_name : List Str := ["thing", "sign"]
abbrev N_spots_of : List Str := ["places", "spots", "place"]
abbrev N_spot_of : List Str := ["spots", "place"]
abbrev N_pair_of : List Str := ["here", "there"]
abbrev N_lengths_of : List Str := ["spots", "ties", "lengths", "tie", "pair"]
abbrev N_Web___init__ : List Str := ["self", "places", "ties"]
abbrev N_l_cell : List Str := ["_law_script", "_law_k"]
abbrev N_l_box : List Str := ["_law_cell_here"]
abbrev N_l_take : List Str := ["_law_box_here", "_law_many", "_law_digit", "_law_turn", "_law_number"]
abbrev N_l_names : List Str := ["_law_box_here", "_law_many", "_law_letters", "_law_longer", "_law_first", "_law_names_here", "_law_k", "_law_tail", "_law_j"]
abbrev N_l_is_tied : List Str := ["_law_box_here", "_law_shape", "_law_k", "_law_j", "_law_near"]
abbrev N_l_length : List Str := ["_law_box_here", "_law_style"]
abbrev N_l_turned : List Str := ["_law_box_here", "_law_many", "_law_left", "_law_found"]
abbrev N_l_named : List Str := ["_law_box_here", "_law_ties", "_law_many", "_law_names_here", "_law_spots", "_law_found", "_law_one", "_law_other", "_law_length_here", "_law_pair"]
abbrev N_l_drawn : List Str := ["_law_box_here", "_law_most", "_law_shape", "_law_style", "_law_less", "_law_many", "_law_ties", "_law_j", "_law_near", "_law_k"]
abbrev N_l_order : List Str := ["_law_box_here", "_law_names_here", "_law_k"]
abbrev N_l_bridges : List Str := ["_law_ties", "_law_order_here", "_law_found", "_law_at", "_law_low", "_law_away", "_law_lap", "_law_tie", "_law_here", "_law_there", "_law_length_here"]
abbrev N_l_tied : List Str := ["_law_ties", "_law_one", "_law_other", "_law_length_here", "_law_tie"]
abbrev N_l_up_right : List Str := ["_law_ties", "_law_due", "_law_order_here", "_law_place", "_law_found", "_law_above", "_law_high", "_law_row", "_law_length_here", "_law_inner"]
abbrev N_l_right : List Str := ["_law_heights", "_law_names_here", "_law_ties", "_law_order_here", "_law_due", "_law_rows", "_law_low", "_law_high", "_law_told", "_law_lap", "_law_place", "_law_found"]
abbrev N_law : List Str := ["_law_script", "_law_k", "_law_box_here", "_law_names_here", "_law_ties", "_law_web", "_law_order_here", "_law_other", "_law_handed", "_law_heights", "_law_beside"]
def t_Web_places (K : PySem.W.Frag) (cn : Cn) : TS :=
  (tRet (tCB (rListB K) (tCons (tFld K (tVar 0) "names") tNil)))
def t_need_place (K : PySem.W.Frag) (cn : Cn) (W : WX) : TS :=
  (tIfS (tOr (tNot (tTruth K (tCB (rIsiB K) (tCons (tVar 1) (tCons (tC (.ty "str")) tNil))))) (tTest (tOp (rNotInB K) (tVar 1) (tMethS "places" (lift K (S_Web_places cn)) (fun _ => E0) (tVar 0) (cn.ad CWeb) tNil)))) (fun _ σ H => tMkO (cn.ad XNoPlace) (spInit K ["found"]) [] (tCons (tVar 1) tNil) σ H fun cls d H' => W cls d σ H') tNext)
def t_Web_many (K : PySem.W.Frag) (cn : Cn) : TS :=
  (tRet (tCB (rLenB K) (tCons (tFld K (tVar 0) "names") tNil)))
def t_need_order (K : PySem.W.Frag) (cn : Cn) (W : WX) : TS :=
  (tSeq (tIfS (tOr (tNot (tTruth K (tCB (rIsiB K) (tCons (tVar 1) (tCons (tTup (tCons (tC (.ty "list")) (tCons (tC (.ty "tuple")) tNil))) tNil))))) (tTest (tOp (rNeA K) (tCB (rLenB K) (tCons (tVar 1) tNil)) (tMethS "many" (lift K (S_Web_many cn)) (fun _ => E0) (tVar 0) (cn.ad CWeb) tNil)))) (fun _ σ H => tMkO (cn.ad XNoOrder) (spInit K ["found"]) [] (tCons (tVar 1) tNil) σ H fun cls d H' => W cls d σ H') tNext)
    (tFor (iAny K (tMethS "places" (lift K (S_Web_places cn)) (fun _ => E0) (tVar 0) (cn.ad CWeb) tNil)) (gName 2) (tIfS (tTest (tOp (rNotInB K) (tVar 2) (tVar 1))) (fun _ σ H => tMkO (cn.ad XNoOrder) (spInit K ["found"]) [] (tCons (tVar 1) tNil) σ H fun cls d H' => W cls d σ H') tNext)))
def t_Web_ties (K : PySem.W.Frag) (cn : Cn) : TS :=
  (tRet (tLc (iAny K (tCB (rSortB K) (tCons (tFld K (tVar 0) "lengths") tNil))) (gSeq K 2 (gCons (gName 1) (gCons (gName 2) gNil))) tYes (tTup (tCons (tOp (rIxB K) (tFld K (tVar 0) "names") (tVar 1)) (tCons (tOp (rIxB K) (tFld K (tVar 0) "names") (tVar 2)) (tCons (tOp (rIxB K) (tFld K (tVar 0) "lengths") (tTup (tCons (tVar 1) (tCons (tVar 2) tNil)))) tNil)))) [1, 2]))
def t_linked (K : PySem.W.Frag) (cn : Cn) : TS :=
  (tSeq (tAsg tDNewT (gName 1))
    (tSeq (tFor (iAny K (tMethS "ties" (lift K (S_Web_ties cn)) (fun _ => E0) (tVar 0) (cn.ad CWeb) tNil)) (gSeq K 3 (gCons (gName 2) (gCons (gName 3) (gCons (gName 4) gNil)))) (tSeq (tAsg (tTup (tCons (tVar 4) (tCons (tC .non) tNil))) (gSub (tVar 1) (tTup (tCons (tVar 2) (tCons (tVar 3) tNil))) rSetB))
    (tAsg (tTup (tCons (tVar 4) (tCons (tC .non) tNil))) (gSub (tVar 1) (tTup (tCons (tVar 3) (tCons (tVar 2) tNil))) rSetB))))
    (tRet (tVar 1))))
def t_bridged (K : PySem.W.Frag) (cn : Cn) : TS :=
  (tSeq (tAsg (tCall (lift K (S_linked cn)) [] E0 (tCons (tVar 0) tNil)) (gName 2))
    (tSeq (tFor (iEit (iEnum K (tCons (tVar 1) tNil)) (iEnumT K (tCons (tVar 1) tNil))) (gSeq K 2 (gCons (gName 3) (gCons (gName 4) gNil))) (tSeq (tAsg (tLc (iAny K (tEit (tSl (DL.rSlA K) (tVar 1) (tPart (tOp rAddA (tVar 3) (tC (.int 1)))) tNoPart) (tSl (L2.rSlT K) (tVar 1) (tPart (tOp rAddA (tVar 3) (tC (.int 1)))) tNoPart))) (gName 6) (tTest (tOp (rInB K) (tTup (tCons (tVar 4) (tCons (tVar 6) tNil))) (tVar 2))) (tVar 6) [6]) (gName 5))
    (tFor (iAny K (tVar 5)) (gName 7) (tFor (iAny K (tVar 5)) (gName 8) (tSeq (tAsg (tOp rAddA (tOp (rIxB K) (tOp (rIxB K) (tVar 2) (tTup (tCons (tVar 4) (tCons (tVar 7) tNil)))) (tC (.int 0))) (tOp (rIxB K) (tOp (rIxB K) (tVar 2) (tTup (tCons (tVar 4) (tCons (tVar 8) tNil)))) (tC (.int 0)))) (gName 9))
    (tIfS (tAnd (tTest (tOp (rNeA K) (tVar 7) (tVar 8))) (tOr (tTest (tOp (rNotInB K) (tTup (tCons (tVar 7) (tCons (tVar 8) tNil))) (tVar 2))) (tTest (tOp rLtA (tVar 9) (tOp (rIxB K) (tOp (rIxB K) (tVar 2) (tTup (tCons (tVar 7) (tCons (tVar 8) tNil)))) (tC (.int 0))))))) (tAsg (tTup (tCons (tVar 9) (tCons (tVar 4) tNil))) (gSub (tVar 2) (tTup (tCons (tVar 7) (tCons (tVar 8) tNil))) rSetB)) tNext))))))
    (tRet (tVar 2))))
def t_Heights___init__ (K : PySem.W.Frag) (cn : Cn) (W : WX) : TS :=
  (tSeq (tDrop (tCallS (liftX K cn (S_need_order cn)) (L2.WE W) (tCons (tVar 1) (tCons (tVar 2) tNil))))
    (tSeq (sFld K (tVar 0) (tVar 1) "high_web")
    (tSeq (sFld K (tVar 0) (tCB (rListB K) (tCons (tVar 2) tNil)) "climbed")
    (sFld K (tVar 0) (tCall (lift K (S_bridged cn)) [] E0 (tCons (tVar 1) (tCons (tVar 2) tNil))) "links"))))
def t_Heights_order (K : PySem.W.Frag) (cn : Cn) : TS :=
  (tRet (tCB (rListB K) (tCons (tFld K (tVar 0) "climbed") tNil)))
def t_Heights_above (K : PySem.W.Frag) (cn : Cn) : TS :=
  (tSeq (tAsg (tBM K "list" (rIndexA K) (tFld K (tVar 0) "climbed") (tCons (tVar 1) tNil)) (gName 2))
    (tRet (tLc (iAny K (tSl (DL.rSlA K) (tFld K (tVar 0) "climbed") (tPart (tOp rAddA (tVar 2) (tC (.int 1)))) tNoPart)) (gName 3) (tTest (tOp (rInB K) (tTup (tCons (tVar 1) (tCons (tVar 3) tNil))) (tFld K (tVar 0) "links"))) (tVar 3) [3])))
def t_Heights_up (K : PySem.W.Frag) (cn : Cn) (W : WX) : TS :=
  (tSeq (tDrop (tCallS (liftX K cn (S_need_place cn)) (L2.WE W) (tCons (tFld K (tVar 0) "high_web") (tCons (tVar 1) tNil))))
    (tRet (tLc (iAny K (tMethS "above" (lift K (S_Heights_above cn)) (fun _ => E0) (tVar 0) (cn.ad CHeights) (tCons (tVar 1) tNil))) (gName 2) tYes (tOp (L2.rCatA K) (tTup (tCons (tVar 2) tNil)) (tOp (rIxB K) (tFld K (tVar 0) "links") (tTup (tCons (tVar 1) (tCons (tVar 2) tNil))))) [2])))
def t_Heights_bridges (K : PySem.W.Frag) (cn : Cn) : TS :=
  (tSeq (tAsg (tLst tNil) (gName 1))
    (tSeq (tFor (iAny K (tFld K (tVar 0) "climbed")) (gName 2) (tDrop (tBM K "list" rExtend (tVar 1) (tCons (tLc (iAny K (tMethS "above" (lift K (S_Heights_above cn)) (fun _ => E0) (tVar 0) (cn.ad CHeights) (tCons (tVar 2) tNil))) (gName 3) tYes (tTup (tCons (tVar 2) (tCons (tVar 3) (tCons (tOp (rIxB K) (tOp (rIxB K) (tFld K (tVar 0) "links") (tTup (tCons (tVar 2) (tCons (tVar 3) tNil)))) (tC (.int 0))) tNil)))) [3]) tNil))))
    (tRet (tVar 1))))
def t_is_whole (K : PySem.W.Frag) (cn : Cn) : TS :=
  (tSeq (tIfS (tOr (tNot (tTruth K (tCB (rIsiB K) (tCons (tVar 0) (tCons (tC (.ty "int")) tNil))))) (tTruth K (tCB (rIsiB K) (tCons (tVar 0) (tCons (tC (.ty "bool")) tNil))))) (tRet (tC (.bl false))) tNext)
    (tRet (tChain rLeA rLeA (tVar 1) (tVar 0) (tVar 2))))
def t_is_name (K : PySem.W.Frag) (cn : Cn) : TS :=
  (tSeq (tIfS (tOr (tNot (tTruth K (tCB (rIsiB K) (tCons (tVar 0) (tCons (tC (.ty "str")) tNil))))) (tNot (tTest (tChain rLeA rLeA (tC (.int 1)) (tCB (rLenB K) (tCons (tVar 0) tNil)) (tC (.int 6)))))) (tRet (tC (.bl false))) tNext)
    (tRet (tCB (rAll K) (tCons (tLc (iAny K (tVar 0)) (gName 1) tYes (tOp (rInB K) (tVar 1) (tC (.str "abcdefghijklmnopqrstuvwxyz"))) [1]) tNil))))
def t_spots_of (K : PySem.W.Frag) (cn : Cn) (W : WX) : TS :=
  (tSeq (tIfS (tOr (tNot (tTruth K (tCB (rIsiB K) (tCons (tVar 0) (tCons (tTup (tCons (tC (.ty "list")) (tCons (tC (.ty "tuple")) tNil))) tNil))))) (tNot (tTest (tChain rLeA rLeA (tC (.int 1)) (tCB (rLenB K) (tCons (tVar 0) tNil)) (tC (.int 12)))))) (fun _ σ H => tMkO (cn.ad XNoPlaces) (spInit K ["found"]) [] (tCons (tVar 0) tNil) σ H fun cls d H' => W cls d σ H') tNext)
    (tSeq (tAsg tDNewK (gName 1))
    (tSeq (tFor (iAny K (tVar 0)) (gName 2) (tSeq (tIfS (tNot (tTruth K (tCall (lift K S_is_name) [] E0 (tCons (tVar 2) tNil)))) (fun _ σ H => tMkO (cn.ad XNoName) (spInit K ["found"]) [] (tCons (tVar 2) tNil) σ H fun cls d H' => W cls d σ H') tNext)
    (tSeq (tIfS (tTest (tOp (rInB K) (tVar 2) (tVar 1))) (fun _ σ H => tMkO (cn.ad XTwice) (spInit K ["found"]) [] (tCons (tVar 2) tNil) σ H fun cls d H' => W cls d σ H') tNext)
    (tAsg (tCB (rLenB K) (tCons (tVar 1) tNil)) (gSub (tVar 1) (tVar 2) rSetB)))))
    (tRet (tVar 1)))))
def t_spot_of (K : PySem.W.Frag) (cn : Cn) (W : WX) : TS :=
  (tSeq (tIfS (tOr (tNot (tTruth K (tCall (lift K S_is_name) [] E0 (tCons (tVar 1) tNil)))) (tTest (tOp (rNotInB K) (tVar 1) (tVar 0)))) (fun _ σ H => tMkO (cn.ad XNoPlace) (spInit K ["found"]) [] (tCons (tVar 1) tNil) σ H fun cls d H' => W cls d σ H') tNext)
    (tRet (tOp (rIxB K) (tVar 0) (tVar 1))))
def t_pair_of (K : PySem.W.Frag) (cn : Cn) : TS :=
  (tRet (tTup (tCons (tCB rMin2 (tCons (tVar 0) (tCons (tVar 1) tNil))) (tCons (tCB rMax2 (tCons (tVar 0) (tCons (tVar 1) tNil))) tNil))))
def t_lengths_of (K : PySem.W.Frag) (cn : Cn) (W : WX) : TS :=
  (tSeq (tIfS (tOr (tNot (tTruth K (tCB (rIsiB K) (tCons (tVar 1) (tCons (tTup (tCons (tC (.ty "list")) (tCons (tC (.ty "tuple")) tNil))) tNil))))) (tTest (tOp rGtA (tCB (rLenB K) (tCons (tVar 1) tNil)) (tC (.int 40))))) (fun _ σ H => tMkO (cn.ad XNoTies) (spInit K ["found"]) [] (tCons (tVar 1) tNil) σ H fun cls d H' => W cls d σ H') tNext)
    (tSeq (tAsg tDNewT (gName 2))
    (tSeq (tFor (iAny K (tVar 1)) (gName 3) (tSeq (tIfS (tOr (tNot (tTruth K (tCB (rIsiB K) (tCons (tVar 3) (tCons (tC (.ty "tuple")) tNil))))) (tTest (tOp (rNeA K) (tCB (rLenB K) (tCons (tVar 3) tNil)) (tC (.int 3))))) (fun _ σ H => tMkO (cn.ad XNoTie) (spInit K ["found"]) [] (tCons (tVar 3) tNil) σ H fun cls d H' => W cls d σ H') tNext)
    (tSeq (tAsg (tCall (lift K S_pair_of) [] E0 (tCons (tCallS (liftX K cn S_spot_of) (L2.WE W) (tCons (tVar 0) (tCons (tOp (rIxB K) (tVar 3) (tC (.int 0))) tNil))) (tCons (tCallS (liftX K cn S_spot_of) (L2.WE W) (tCons (tVar 0) (tCons (tOp (rIxB K) (tVar 3) (tC (.int 1))) tNil))) tNil))) (gName 4))
    (tSeq (tIfS (tTest (tOp (rEqA K) (tOp (rIxB K) (tVar 4) (tC (.int 0))) (tOp (rIxB K) (tVar 4) (tC (.int 1))))) (fun _ σ H => tMkO (cn.ad XLoop) (spInit K ["found"]) [] (tCons (tVar 3) tNil) σ H fun cls d H' => W cls d σ H') tNext)
    (tSeq (tIfS (tNot (tTruth K (tCall (lift K S_is_whole) [] E0 (tCons (tOp (rIxB K) (tVar 3) (tC (.int 2))) (tCons (tC (.int 1)) (tCons (tC (.int 1000000)) tNil)))))) (fun _ σ H => tMkO (cn.ad XNoLength) (spInit K ["found"]) [] (tCons (tOp (rIxB K) (tVar 3) (tC (.int 2))) tNil) σ H fun cls d H' => W cls d σ H') tNext)
    (tSeq (tIfS (tTest (tOp (rInB K) (tVar 4) (tVar 2))) (fun _ σ H => tMkO (cn.ad XTied) (spInit K ["other", "one"]) [] (tCons (tOp (rIxB K) (tVar 3) (tC (.int 0))) (tCons (tOp (rIxB K) (tVar 3) (tC (.int 1))) tNil)) σ H fun cls d H' => W cls d σ H') tNext)
    (tAsg (tOp (rIxB K) (tVar 3) (tC (.int 2))) (gSub (tVar 2) (tVar 4) rSetB))))))))
    (tRet (tVar 2)))))
def t_Web___init__ (K : PySem.W.Frag) (cn : Cn) (W : WX) : TS :=
  (tSeq (sFld K (tVar 0) (tCallS (liftX K cn S_spots_of) (L2.WE W) (tCons (tVar 1) tNil)) "spots")
    (tSeq (sFld K (tVar 0) (tCB (rListB K) (tCons (tVar 1) tNil)) "names")
    (sFld K (tVar 0) (tCallS (liftX K cn S_lengths_of) (L2.WE W) (tCons (tFld K (tVar 0) "spots") (tCons (tVar 2) tNil))) "lengths")))
def t_l_cell (K : PySem.W.Frag) (cn : Cn) : TS :=
  (tSeq (tIfS (tTest (tOp rLtA (tVar 1) (tCB (rLenB K) (tCons (tVar 0) tNil)))) (tRet (tOp (rIxB K) (tVar 0) (tVar 1))) tNext)
    (tRet (tOp rAddA (tOp rMulB (tC (.int 104729)) (tVar 1)) (tC (.int 59)))))
def t_l_box (K : PySem.W.Frag) (cn : Cn) : TS :=
  (tRet (tLst (tCons (tCB rMax2 (tCons (tC (.int 0)) (tCons (tOp rSubA (tVar 0) (tOp rPowA (tC (.int 10)) (tC (.int 18)))) tNil))) (tCons (tOp rModA (tVar 0) (tC (.int 2147483629))) (tCons (tOp rModA (tVar 0) (tC (.int 2147483587))) (tCons (tC (.int 0)) tNil))))))
def t_l_take (K : PySem.W.Frag) (cn : Cn) : TS :=
  (tSeq (tIfS (tTest (tOp rGtA (tOp (rIxB K) (tVar 0) (tC (.int 0))) (tC (.int 0)))) (tSeq (tAsg (tOp rModA (tOp (rIxB K) (tVar 0) (tC (.int 0))) (tVar 1)) (gName 2))
    (tSeq (tAsg (tOp rDivA (tOp (rIxB K) (tVar 0) (tC (.int 0))) (tVar 1)) (gSub (tVar 0) (tC (.int 0)) rSetB))
    (tRet (tVar 2)))) tNext)
    (tSeq (tAsg (tOp rAddA (tOp (rIxB K) (tVar 0) (tC (.int 3))) (tC (.int 1))) (gSub (tVar 0) (tC (.int 3)) rSetB))
    (tSeq (tAsg (tOp (rIxB K) (tVar 0) (tC (.int 3))) (gName 3))
    (tSeq (tAsg (tOp rModA (tOp rPowA (tOp rAddA (tOp rMulB (tOp (rIxB K) (tVar 0) (tC (.int 1))) (tOp rAddA (tOp rMulB (tC (.int 2)) (tVar 3)) (tC (.int 1)))) (tOp rMulB (tOp rMulB (tC (.int 7919)) (tVar 3)) (tVar 3))) (tC (.int 5))) (tC (.int 2147483647))) (gName 4))
    (tRet (tOp rModA (tOp rDivA (tOp rModA (tOp rPowA (tOp rAddA (tOp rAddA (tVar 4) (tOp rMulB (tOp (rIxB K) (tVar 0) (tC (.int 2))) (tVar 3))) (tC (.int 13))) (tC (.int 3))) (tC (.int 2147483579))) (tC (.int 8))) (tVar 1)))))))
def t_l_names (K : PySem.W.Frag) (cn : Cn) : TS :=
  (tSeq (tAsg (tC (.str "abcdefghijklmnopqrstuvwxyz")) (gName 2))
    (tSeq (tAsg (tOp (rEqA K) (tCall (lift K S_l_take) [] E0 (tCons (tVar 0) (tCons (tC (.int 3)) tNil))) (tC (.int 0))) (gName 3))
    (tSeq (tAsg (tCall (lift K S_l_take) [] E0 (tCons (tVar 0) (tCons (tC (.int 26)) tNil))) (gName 4))
    (tSeq (tAsg (tLst tNil) (gName 5))
    (tSeq (tFor (iRng1 (tCons (tVar 1) tNil)) (gName 6) (tSeq (tAsg (tBM K "str" (rJoinA K) (tC (.str "")) (tCons (tLc (iRng1 (tCons (tCall (lift K S_l_take) [] E0 (tCons (tVar 0) (tCons (tC (.int 6)) tNil))) tNil)) (gName 8) tYes (tOp (rIxB K) (tVar 2) (tCall (lift K S_l_take) [] E0 (tCons (tVar 0) (tCons (tC (.int 26)) tNil)))) [8]) tNil)) (gName 7))
    (tSeq (tDrop (tBM K "list" rAppend (tVar 5) (tCons (tOp rAddA (tOp (rIxB K) (tVar 2) (tOp rModA (tOp rAddA (tVar 4) (tOp rMulB (tC (.int 11)) (tVar 6))) (tC (.int 26)))) (tVar 7)) tNil)))
    (tIfS (tAnd (tTruth K (tVar 3)) (tAnd (tTest (tOp (rEqA K) (tOp rModA (tVar 6) (tC (.int 2))) (tC (.int 1)))) (tTest (tOp rLtA (tCB (rLenB K) (tCons (tOp (rIxB K) (tVar 5) (tOp rSubA (tVar 6) (tC (.int 1)))) tNil)) (tC (.int 6)))))) (tAsg (tOp rAddA (tOp (rIxB K) (tVar 5) (tOp rSubA (tVar 6) (tC (.int 1)))) (tOp (rIxB K) (tVar 2) (tCall (lift K S_l_take) [] E0 (tCons (tVar 0) (tCons (tC (.int 26)) tNil))))) (gSub (tVar 5) (tVar 6) rSetB)) tNext))))
    (tRet (tVar 5)))))))
def t_l_is_tied (K : PySem.W.Frag) (cn : Cn) : TS :=
  (tSeq (tIfS (tTest (tOp (rEqA K) (tVar 1) (tC (.int 0)))) (tRet (tOp (rEqA K) (tVar 2) (tVar 4))) tNext)
    (tSeq (tIfS (tTest (tOp (rEqA K) (tVar 1) (tC (.int 1)))) (tRet (tOp (rEqA K) (tVar 2) (tOp rSubA (tVar 3) (tC (.int 1))))) tNext)
    (tSeq (tIfS (tTest (tOp (rEqA K) (tVar 1) (tC (.int 2)))) (tRet (tOrV (tOp (rEqA K) (tVar 2) (tVar 4)) (tOp (rEqA K) (tCall (lift K S_l_take) [] E0 (tCons (tVar 0) (tCons (tC (.int 4)) tNil))) (tC (.int 0))))) tNext)
    (tRet (tOrV (tOp (rEqA K) (tVar 1) (tC (.int 4))) (tOp (rEqA K) (tCall (lift K S_l_take) [] E0 (tCons (tVar 0) (tCons (tC (.int 3)) tNil))) (tC (.int 0))))))))
def t_l_length (K : PySem.W.Frag) (cn : Cn) : TS :=
  (tSeq (tIfS (tTest (tOp (rEqA K) (tVar 1) (tC (.int 3)))) (tRet (tOp rSubA (tOp rPowA (tC (.int 10)) (tC (.int 6))) (tCall (lift K S_l_take) [] E0 (tCons (tVar 0) (tCons (tC (.int 2)) tNil))))) tNext)
    (tRet (tOp rAddA (tC (.int 1)) (tCall (lift K S_l_take) [] E0 (tCons (tVar 0) (tCons (tOp (rIxB K) (tLst (tCons (tC (.int 3)) (tCons (tC (.int 9)) (tCons (tOp rPowA (tC (.int 10)) (tC (.int 6))) tNil)))) (tVar 1)) tNil))))))
def t_l_turned (K : PySem.W.Frag) (cn : Cn) : TS :=
  (tSeq (tAsg (tLstRg (tRg1 (tVar 1))) (gName 2))
    (tSeq (tAsg (tLst tNil) (gName 3))
    (tSeq (tWhile (tTest (tOp (rNeA K) (tVar 2) (tLst tNil))) (tDrop (tBM K "list" rAppend (tVar 3) (tCons (tBM K "list" rPopAt (tVar 2) (tCons (tCall (lift K S_l_take) [] E0 (tCons (tVar 0) (tCons (tCB (rLenB K) (tCons (tVar 2) tNil)) tNil))) tNil)) tNil))))
    (tRet (tVar 3)))))
def t_l_named (K : PySem.W.Frag) (cn : Cn) : TS :=
  (tSeq (tAsg (tCall (lift K S_l_names) [] E0 (tCons (tVar 0) (tCons (tVar 2) tNil))) (gName 3))
    (tSeq (tAsg (tCall (lift K S_l_turned) [] E0 (tCons (tVar 0) (tCons (tVar 2) tNil))) (gName 4))
    (tSeq (tAsg (tLst tNil) (gName 5))
    (tSeq (tFor (iAny K (tVar 1)) (gSeq K 3 (gCons (gName 6) (gCons (gName 7) (gCons (gName 8) gNil)))) (tSeq (tAsg (tLst (tCons (tTup (tCons (tOp (rIxB K) (tVar 3) (tOp (rIxB K) (tVar 4) (tVar 6))) (tCons (tOp (rIxB K) (tVar 3) (tOp (rIxB K) (tVar 4) (tVar 7))) tNil))) (tCons (tTup (tCons (tOp (rIxB K) (tVar 3) (tOp (rIxB K) (tVar 4) (tVar 7))) (tCons (tOp (rIxB K) (tVar 3) (tOp (rIxB K) (tVar 4) (tVar 6))) tNil))) tNil))) (gName 9))
    (tSeq (tAsg (tOp (rIxB K) (tVar 9) (tCall (lift K S_l_take) [] E0 (tCons (tVar 0) (tCons (tC (.int 2)) tNil)))) (gSeq K 2 (gCons (gName 6) (gCons (gName 7) gNil))))
    (tDrop (tBM K "list" rAppend (tVar 5) (tCons (tTup (tCons (tVar 6) (tCons (tVar 7) (tCons (tVar 8) tNil)))) tNil))))))
    (tRet (tTup (tCons (tVar 3) (tCons (tVar 5) tNil))))))))
def t_l_drawn (K : PySem.W.Frag) (cn : Cn) : TS :=
  (tSeq (tAsg (tCall (lift K S_l_take) [] E0 (tCons (tVar 0) (tCons (tC (.int 5)) tNil))) (gName 2))
    (tSeq (tAsg (tCall (lift K S_l_take) [] E0 (tCons (tVar 0) (tCons (tC (.int 4)) tNil))) (gName 3))
    (tSeq (tAsg (tOp rMulB (tOp rDivA (tCall (lift K S_l_take) [] E0 (tCons (tVar 0) (tCons (tC (.int 4)) tNil))) (tC (.int 2))) (tCall (lift K S_l_take) [] E0 (tCons (tVar 0) (tCons (tC (.int 3)) tNil)))) (gName 4))
    (tSeq (tAsg (tOp rAddA (tC (.int 1)) (tCall (lift K S_l_take) [] E0 (tCons (tVar 0) (tCons (tVar 1) tNil)))) (gName 5))
    (tSeq (tAsg (tLst tNil) (gName 6))
    (tSeq (tFor (iRng2 (tCons (tC (.int 1)) (tCons (tVar 5) tNil))) (gName 7) (tSeq (tAsg (tCall (lift K S_l_take) [] E0 (tCons (tVar 0) (tCons (tVar 7) tNil))) (gName 8))
    (tFor (iRng1 (tCons (tVar 7) tNil)) (gName 9) (tIfS (tAnd (tTest (tOp rLtA (tCB (rLenB K) (tCons (tVar 6) tNil)) (tC (.int 40)))) (tTruth K (tCall (lift K S_l_is_tied) [] E0 (tCons (tVar 0) (tCons (tVar 2) (tCons (tVar 9) (tCons (tVar 7) (tCons (tVar 8) tNil)))))))) (tDrop (tBM K "list" rAppend (tVar 6) (tCons (tTup (tCons (tVar 9) (tCons (tVar 7) (tCons (tCall (lift K S_l_length) [] E0 (tCons (tVar 0) (tCons (tVar 3) tNil))) tNil)))) tNil))) tNext))))
    (tSeq (tFor (iRng1 (tCons (tVar 4) tNil)) (gName 9) (tIfS (tTest (tOp (rNeA K) (tVar 6) (tLst tNil))) (tDrop (tBM K "list" rPopAt (tVar 6) (tCons (tCall (lift K S_l_take) [] E0 (tCons (tVar 0) (tCons (tCB (rLenB K) (tCons (tVar 6) tNil)) tNil))) tNil))) tNext))
    (tRet (tCall (lift K S_l_named) [] E0 (tCons (tVar 0) (tCons (tVar 6) (tCons (tVar 5) tNil))))))))))))
def t_l_order (K : PySem.W.Frag) (cn : Cn) : TS :=
  (tRet (tLc (iAny K (tCall (lift K S_l_turned) [] E0 (tCons (tVar 0) (tCons (tCB (rLenB K) (tCons (tVar 1) tNil)) tNil)))) (gName 2) tYes (tOp (rIxB K) (tVar 1) (tVar 2)) [2]))
def t_l_bridges (K : PySem.W.Frag) (cn : Cn) : TS :=
  (tSeq (tAsg tDNewT (gName 2))
    (tSeq (tFor (iEnum K (tCons (tVar 1) tNil)) (gSeq K 2 (gCons (gName 3) (gCons (gName 4) gNil))) (tSeq (tAsg (tDisp [((tVar 4), (tC (.int 0)))]) (gName 5))
    (tSeq (tFor (iRng1 (tCons (tOp rAddA (tVar 3) (tC (.int 1))) tNil)) (gName 6) (tFor (iAny K (tOp rAddA (tVar 0) (tLc (iAny K (tVar 0)) (gName 7) tYes (tTup (tCons (tOp (rIxB K) (tVar 7) (tC (.int 1))) (tCons (tOp (rIxB K) (tVar 7) (tC (.int 0))) (tCons (tOp (rIxB K) (tVar 7) (tC (.int 2))) tNil)))) [7]))) (gName 7) (tSeq (tAsg (tVar 7) (gSeq K 3 (gCons (gName 8) (gCons (gName 9) (gCons (gName 10) gNil)))))
    (tIfS (tAnd (tTest (tOp (rInB K) (tVar 8) (tVar 5))) (tAnd (tTest (tOp (rInB K) (tVar 9) (tSl (DL.rSlA K) (tVar 1) tNoPart (tPart (tVar 3))))) (tTest (tOp rLtA (tOp rAddA (tOp (rIxB K) (tVar 5) (tVar 8)) (tVar 10)) (tDGet2 (tVar 5) (tVar 9) (tOp rPowA (tC (.int 10)) (tC (.int 9)))))))) (tAsg (tOp rAddA (tOp (rIxB K) (tVar 5) (tVar 8)) (tVar 10)) (gSub (tVar 5) (tVar 9) rSetB)) tNext))))
    (tFor (iAny K (tOp rAddA (tVar 0) (tLc (iAny K (tVar 0)) (gName 7) tYes (tTup (tCons (tOp (rIxB K) (tVar 7) (tC (.int 1))) (tCons (tOp (rIxB K) (tVar 7) (tC (.int 0))) (tCons (tOp (rIxB K) (tVar 7) (tC (.int 2))) tNil)))) [7]))) (gName 7) (tSeq (tAsg (tVar 7) (gSeq K 3 (gCons (gName 8) (gCons (gName 9) (gCons (gName 10) gNil)))))
    (tIfS (tAnd (tTest (tOp (rInB K) (tVar 8) (tVar 5))) (tTest (tOp (rInB K) (tVar 9) (tSl (DL.rSlA K) (tVar 1) (tPart (tOp rAddA (tVar 3) (tC (.int 1)))) tNoPart)))) (tAsg (tCB rMin2 (tCons (tDGet2 (tVar 2) (tTup (tCons (tVar 4) (tCons (tVar 9) tNil))) (tOp rPowA (tC (.int 10)) (tC (.int 9)))) (tCons (tOp rAddA (tOp (rIxB K) (tVar 5) (tVar 8)) (tVar 10)) tNil))) (gSub (tVar 2) (tTup (tCons (tVar 4) (tCons (tVar 9) tNil))) rSetB)) tNext))))))
    (tRet (tVar 2))))
def t_l_tied (K : PySem.W.Frag) (cn : Cn) : TS :=
  (tRet (tCB (rAny K) (tCons (tLc (iAny K (tVar 0)) (gName 4) tYes (tOp (rInG K false) (tTup (tCons (tOp (rIxB K) (tVar 4) (tC (.int 0))) (tCons (tOp (rIxB K) (tVar 4) (tC (.int 1))) (tCons (tOp (rIxB K) (tVar 4) (tC (.int 2))) tNil)))) (tTup (tCons (tTup (tCons (tVar 1) (tCons (tVar 2) (tCons (tVar 3) tNil)))) (tCons (tTup (tCons (tVar 2) (tCons (tVar 1) (tCons (tVar 3) tNil)))) tNil)))) [4]) tNil)))
def t_l_up_right (K : PySem.W.Frag) (cn : Cn) : TS :=
  (tSeq (tAsg (tLc (iAny K (tVar 2)) (gName 6) (tTest (tOp (rInB K) (tTup (tCons (tVar 3) (tCons (tVar 6) tNil))) (tVar 1))) (tVar 6) [6]) (gName 5))
    (tSeq (tIfS (tOr (tNot (tTruth K (tCB (rIsiB K) (tCons (tVar 4) (tCons (tC (.ty "list")) tNil))))) (tTest (tOp (rNeA K) (tCB (rLenB K) (tCons (tVar 4) tNil)) (tCB (rLenB K) (tCons (tVar 5) tNil))))) (tRet (tC (.bl false))) tNext)
    (tSeq (tFor (iZip K (tCons (tVar 5) (tCons (tVar 4) tNil))) (gSeq K 2 (gCons (gName 6) (gCons (gName 7) gNil))) (tSeq (tIfS (tOr (tNot (tTruth K (tCB (rIsiB K) (tCons (tVar 7) (tCons (tC (.ty "tuple")) tNil))))) (tOr (tTest (tOp (rNeA K) (tCB (rLenB K) (tCons (tVar 7) tNil)) (tC (.int 3)))) (tTest (tOp (rNeA K) (tOp (rIxB K) (tVar 7) (tC (.int 0))) (tVar 6))))) (tRet (tC (.bl false))) tNext)
    (tSeq (tAsg (tSl (L2.rSlT K) (tVar 7) (tPart (tC (.int 1))) tNoPart) (gSeq K 2 (gCons (gName 8) (gCons (gName 9) gNil))))
    (tSeq (tIfS (tOr (tTest (tOp (rNeA K) (tCB (rReprA K) (tCons (tVar 8) tNil)) (tCB (rReprA K) (tCons (tOp (rIxB K) (tVar 1) (tTup (tCons (tVar 3) (tCons (tVar 6) tNil)))) tNil)))) (tTest (tOp (rNeA K) (tOp rIsNA (tVar 9) (tC .non)) (tCall (lift K S_l_tied) [] E0 (tCons (tVar 0) (tCons (tVar 3) (tCons (tVar 6) (tCons (tVar 8) tNil)))))))) (tRet (tC (.bl false))) tNext)
    (tIfS (tTest (tOp rNotNA (tVar 9) (tC .non))) (tSeq (tIfS (tOr (tTest (tOp (rNotInB K) (tTup (tCons (tVar 9) (tCons (tVar 3) tNil))) (tVar 1))) (tTest (tOp (rNotInB K) (tTup (tCons (tVar 9) (tCons (tVar 6) tNil))) (tVar 1)))) (tRet (tC (.bl false))) tNext)
    (tIfS (tTest (tOp (rNeA K) (tOp rAddA (tOp (rIxB K) (tVar 1) (tTup (tCons (tVar 9) (tCons (tVar 3) tNil)))) (tOp (rIxB K) (tVar 1) (tTup (tCons (tVar 9) (tCons (tVar 6) tNil))))) (tVar 8))) (tRet (tC (.bl false))) tNext)) tNext)))))
    (tRet (tC (.bl true))))))
def t_l_right (K : PySem.W.Frag) (cn : Cn) : TS :=
  (tSeq (tAsg (tCall (lift K S_l_bridges) [] E0 (tCons (tVar 2) (tCons (tVar 3) tNil))) (gName 4))
    (tSeq (tAsg (tLst tNil) (gName 5))
    (tSeq (tFor (iAny K (tVar 3)) (gName 6) (tDrop (tBM K "list" rExtend (tVar 5) (tCons (tLc (iAny K (tVar 3)) (gName 7) (tTest (tOp (rInB K) (tTup (tCons (tVar 6) (tCons (tVar 7) tNil))) (tVar 4))) (tTup (tCons (tVar 6) (tCons (tVar 7) (tCons (tOp (rIxB K) (tVar 4) (tTup (tCons (tVar 6) (tCons (tVar 7) tNil)))) tNil)))) [7]) tNil))))
    (tSeq (tAsg tDNewK (gName 8))
    (tSeq (tFor (iRng1 (tCons (tC (.int 2)) tNil)) (gName 9) (tSeq (tIfS (tTest (tOp (rNeA K) (tCB (rReprA K) (tCons (tMethS "order" (lift K (S_Heights_order cn)) (fun _ => E0) (tVar 0) (cn.ad CHeights) tNil) tNil)) (tCB (rReprA K) (tCons (tVar 3) tNil)))) (tRet (tC (.bl false))) tNext)
    (tSeq (tFor (iAny K (tVar 1)) (gName 10) (tSeq (tAsg (tMethS "up" (liftX K cn (S_Heights_up cn)) (fun _ => E0) (tVar 0) (cn.ad CHeights) (tCons (tVar 10) tNil)) (gName 11))
    (tSeq (tIfS (tNot (tTruth K (tCall (lift K S_l_up_right) [] E0 (tCons (tVar 2) (tCons (tVar 4) (tCons (tVar 3) (tCons (tVar 10) (tCons (tVar 11) tNil)))))))) (tRet (tC (.bl false))) tNext)
    (tSeq (tIfS (tTest (tOp (rNeA K) (tDSetd (tVar 8) (tVar 10) (tCB (rReprA K) (tCons (tVar 11) tNil))) (tCB (rReprA K) (tCons (tVar 11) tNil)))) (tRet (tC (.bl false))) tNext)
    (tDrop (tBM0 K "list" rClear (tVar 11)))))))
    (tSeq (tAsg (tMethS "bridges" (lift K (S_Heights_bridges cn)) (fun _ => E0) (tVar 0) (cn.ad CHeights) tNil) (gName 11))
    (tSeq (tIfS (tTest (tOp (rNeA K) (tCB (rReprA K) (tCons (tVar 11) tNil)) (tCB (rReprA K) (tCons (tVar 5) tNil)))) (tRet (tC (.bl false))) tNext)
    (tSeq (tDrop (tBM K "list" rAppend (tVar 11) (tCons (tC (.int 0)) tNil)))
    (tDrop (tBM0 K "list" rClear (tMethS "order" (lift K (S_Heights_order cn)) (fun _ => E0) (tVar 0) (cn.ad CHeights) tNil)))))))))
    (tRet (tC (.bl true))))))))
def t_law (K : PySem.W.Frag) (cn : Cn) : TS :=
  (tSeq (tFor (iRng1 (tCons (tCB rMax2 (tCons (tC (.int 2)) (tCons (tCB rMin2 (tCons (tCB (rLenB K) (tCons (tVar 0) tNil)) (tCons (tC (.int 8)) tNil))) tNil))) tNil)) (gName 1) (tSeq (tAsg (tCall (lift K S_l_box) [] E0 (tCons (tCall (lift K S_l_cell) [] E0 (tCons (tVar 0) (tCons (tVar 1) tNil))) tNil)) (gName 2))
    (tSeq (tAsg (tCall (lift K S_l_drawn) [] E0 (tCons (tVar 2) (tCons (tC (.int 12)) tNil))) (gSeq K 2 (gCons (gName 3) (gCons (gName 4) gNil))))
    (tSeq (tAsg (tMakeS (cn.ad CWeb) (liftX K cn (S_Web___init__ cn)) (fun _ => E0) (tCons (tVar 3) (tCons (tVar 4) tNil))) (gName 5))
    (tSeq (tPar 6 7 (tCons (tCall (lift K S_l_order) [] E0 (tCons (tVar 2) (tCons (tVar 3) tNil))) (tCons (tCall (lift K S_l_order) [] E0 (tCons (tVar 2) (tCons (tVar 3) tNil))) tNil)))
    (tSeq (tAsg (tCB (rListB K) (tCons (tVar 6) tNil)) (gName 8))
    (tSeq (tAsg (tMakeS (cn.ad CHeights) (liftX K cn (S_Heights___init__ cn)) (fun _ => E0) (tCons (tVar 5) (tCons (tVar 8) tNil))) (gName 9))
    (tSeq (tAsg (tMakeS (cn.ad CHeights) (liftX K cn (S_Heights___init__ cn)) (fun _ => E0) (tCons (tVar 5) (tCons (tCB (rTupA K) (tCons (tVar 7) tNil)) tNil))) (gName 10))
    (tSeq (tDrop (tBM0 K "list" rReverse (tVar 8)))
    (tSeq (tIfS (tOr (tNot (tTruth K (tCall (lift K (S_l_right cn)) [] E0 (tCons (tVar 9) (tCons (tVar 3) (tCons (tVar 4) (tCons (tVar 6) tNil))))))) (tNot (tTruth K (tCall (lift K (S_l_right cn)) [] E0 (tCons (tVar 10) (tCons (tVar 3) (tCons (tVar 4) (tCons (tVar 7) tNil)))))))) (tRet (tC (.bl false))) tNext)
    (tIfS (tNot (tTruth K (tCall (lift K (S_l_right cn)) [] E0 (tCons (tVar 9) (tCons (tVar 3) (tCons (tVar 4) (tCons (tVar 6) tNil))))))) (tRet (tC (.bl false))) tNext)))))))))))
    (tRet (tC (.bl true))))
structure XF (K : PySem.W.Frag) (cn : Cn) : Prop where
  all_NoPlaces : ExcAll K (cn.ad XNoPlaces) (cn.fl XNoPlaces)
  fl_NoPlaces : cn.fl XNoPlaces = (["found"] : List Str)
  ex_NoPlaces : PySem.W.exmOne K (.ref (cn.ad XNoPlaces)) (.ref cn.bs) = some true
  all_NoName : ExcAll K (cn.ad XNoName) (cn.fl XNoName)
  fl_NoName : cn.fl XNoName = (["found"] : List Str)
  ex_NoName : PySem.W.exmOne K (.ref (cn.ad XNoName)) (.ref cn.bs) = some true
  all_Twice : ExcAll K (cn.ad XTwice) (cn.fl XTwice)
  fl_Twice : cn.fl XTwice = (["found"] : List Str)
  ex_Twice : PySem.W.exmOne K (.ref (cn.ad XTwice)) (.ref cn.bs) = some true
  all_NoTies : ExcAll K (cn.ad XNoTies) (cn.fl XNoTies)
  fl_NoTies : cn.fl XNoTies = (["found"] : List Str)
  ex_NoTies : PySem.W.exmOne K (.ref (cn.ad XNoTies)) (.ref cn.bs) = some true
  all_NoTie : ExcAll K (cn.ad XNoTie) (cn.fl XNoTie)
  fl_NoTie : cn.fl XNoTie = (["found"] : List Str)
  ex_NoTie : PySem.W.exmOne K (.ref (cn.ad XNoTie)) (.ref cn.bs) = some true
  all_NoPlace : ExcAll K (cn.ad XNoPlace) (cn.fl XNoPlace)
  fl_NoPlace : cn.fl XNoPlace = (["found"] : List Str)
  ex_NoPlace : PySem.W.exmOne K (.ref (cn.ad XNoPlace)) (.ref cn.bs) = some true
  all_Loop : ExcAll K (cn.ad XLoop) (cn.fl XLoop)
  fl_Loop : cn.fl XLoop = (["found"] : List Str)
  ex_Loop : PySem.W.exmOne K (.ref (cn.ad XLoop)) (.ref cn.bs) = some true
  all_NoLength : ExcAll K (cn.ad XNoLength) (cn.fl XNoLength)
  fl_NoLength : cn.fl XNoLength = (["found"] : List Str)
  ex_NoLength : PySem.W.exmOne K (.ref (cn.ad XNoLength)) (.ref cn.bs) = some true
  all_NoOrder : ExcAll K (cn.ad XNoOrder) (cn.fl XNoOrder)
  fl_NoOrder : cn.fl XNoOrder = (["found"] : List Str)
  ex_NoOrder : PySem.W.exmOne K (.ref (cn.ad XNoOrder)) (.ref cn.bs) = some true
  all_Tied : ExcAll K (cn.ad XTied) (cn.fl XTied)
  fl_Tied : cn.fl XTied = (["other", "one"] : List Str)
  ex_Tied : PySem.W.exmOne K (.ref (cn.ad XTied)) (.ref cn.bs) = some true
  cls_Heights : Cls K (cn.ad CHeights)
  na_Heights_high_web : NoAttr K (cn.ad CHeights) "high_web"
  na_Heights_climbed : NoAttr K (cn.ad CHeights) "climbed"
  na_Heights_links : NoAttr K (cn.ad CHeights) "links"
  cls_Web : Cls K (cn.ad CWeb)
  na_Web_spots : NoAttr K (cn.ad CWeb) "spots"
  na_Web_names : NoAttr K (cn.ad CWeb) "names"
  na_Web_lengths : NoAttr K (cn.ad CWeb) "lengths"

local macro_rules | `(tactic| walk_at "d1") => `(tactic| first
  | ((with_reducible refine' gW ?_); first
    | (with_reducible refine' w_seq ?_)
    | (with_reducible refine' w_asg ?_)
    | (with_reducible refine' w_if ?_)
    | (with_reducible refine' w_ret ?_)
    | (with_reducible refine' w_retN ?_)
    | (with_reducible refine' w_next ?_)
    | (with_reducible refine' w_drop ?_)
    | (with_reducible refine' w_parN ?_)
    | ((with_reducible refine' w_augN opd_addI _ ?h ?q); (case h => rfl)))
  | ((with_reducible refine' gWG ?_); first
    | ((with_reducible refine' wg_nameN ?h ?h2 ?q); (case h => rfl); (case h2 => ((dsimp only [backAs, DL.fill, clr, frz, List.set_cons_zero, List.set_cons_succ, Int.reduceToNat]) <;> rfl)))
    | (with_reducible refine' wg_setLN ?_)
    | (with_reducible refine' wg_s2t ?_)
    | (with_reducible refine' wg_s2l ?_)
    | (with_reducible refine' wg_s2o ?_)
    | (with_reducible refine' wg_s3t ?_)
    | (with_reducible refine' wg_s3l ?_)
    | (with_reducible refine' wg_s3o ?_)
    | ((with_reducible refine' wg_setM ?h1 ?h2 ?q); (case h1 => rfl); (case h2 => rfl))
    | (with_reducible refine' wg_setB ?_))
  | ((with_reducible refine' gOp ?_); first
    | (with_reducible refine' we_op opd_addA' ?_)
    | (with_reducible refine' we_op opd_subA ?_)
    | (with_reducible refine' we_rep ?_)
    | (with_reducible refine' we_op opd_mulB ?_)
    | (with_reducible refine' we_op opd_divA ?_)
    | (with_reducible refine' we_op opd_modA ?_)
    | (with_reducible refine' we_op opd_powA ?_)
    | (with_reducible refine' we_op opd_shlA ?_)
    | (with_reducible refine' we_op opd_shrA ?_)
    | (with_reducible refine' we_op opd_ltA ?_)
    | (with_reducible refine' we_op opd_leA ?_)
    | (with_reducible refine' we_op opd_gtA ?_)
    | (with_reducible refine' we_op opd_geA ?_)
    | (with_reducible refine' we_op opd_eq ?_)
    | (with_reducible refine' we_op opd_eqB ?_)
    | (with_reducible refine' we_op opd_neB ?_)
    | (with_reducible refine' we_op opd_ne ?_)
    | (with_reducible refine' we_op opd_isNA ?_)
    | (with_reducible refine' we_op opd_notNA ?_)
    | (with_reducible refine' we_op opd_isB ?_)
    | (with_reducible refine' we_op opd_notB ?_)
    | (with_reducible refine' we_op opd_ixC ?_)
    | (with_reducible refine' we_op opd_inX ?_)
    | (with_reducible refine' we_op opd_inG ?_)
    | (with_reducible refine' we_op opd_notInG ?_)
    | (with_reducible refine' we_op opd_notInX ?_)
    | (with_reducible refine' we_op opd_inCI ?_)
    | (with_reducible refine' we_op opd_inCN ?_))
  | ((with_reducible refine' gCB ?_); first
    | (with_reducible refine' we_cb cad_reprA ?_)
    | (with_reducible refine' we_cb cad_sortG ?_)
    | (with_reducible refine' we_cb cad_isiB ?_)
    | (with_reducible refine' we_cb cad_listB ?_)
    | (with_reducible refine' we_cb cad_listS ?_)
    | (with_reducible refine' we_cb cad_dict ?_)
    | (with_reducible refine' we_cb cad_dictT ?_)
    | (with_reducible refine' we_cb cad_maxL ?_)
    | (with_reducible refine' we_cb cad_abs ?_)
    | (with_reducible refine' we_cb cad_sum ?_)
    | (with_reducible refine' we_cb cad_minL ?_)
    | (with_reducible refine' we_cb cad_sortI ?_)
    | (with_reducible refine' we_cb cad_sortB ?_)
    | (with_reducible refine' we_cb cad_isiC ?_)
    | (with_reducible refine' we_cb cad_lenB ?_)
    | (with_reducible refine' we_cb cad_max2 ?_)
    | (with_reducible refine' we_cb cad_min2 ?_)
    | (with_reducible refine' we_cb cad_int ?_)
    | (with_reducible refine' we_cb cad_str ?_)
    | (with_reducible refine' we_cb cad_all ?_)
    | (with_reducible refine' we_cb cad_any ?_)
    | (with_reducible refine' we_cb cad_list ?_)
    | (with_reducible refine' we_cb cad_tuple ?_)
    | (with_reducible refine' we_cb cad_divmod ?_))
  | ((with_reducible refine' gWE ?_); first
    | ((with_reducible refine' we_var ?h ?q); (case h => rfl))
    | (with_reducible refine' we_ci ?_)
    | (with_reducible refine' we_cs ?_)
    | (with_reducible refine' we_cb' ?_)
    | (with_reducible refine' we_cn ?_)
    | (with_reducible refine' we_cp ?_)
    | (with_reducible refine' we_ct ?_)
    | (with_reducible refine' we_call ?_)
    | (with_reducible refine' we_append ?_)
    | ((with_reducible refine' we_mat ?h ?q); (case h => rfl))
    | (with_reducible refine' we_fs ?_)
    | (with_reducible refine' we_fmt ?_)
    | (with_reducible refine' we_popT ?_)
    | (with_reducible refine' we_listVals ?_)
    | (with_reducible refine' we_popAt ?_)
    | (with_reducible refine' we_insert ?_)
    | (with_reducible refine' we_pop0 ?_)
    | (with_reducible refine' we_clear0 ?_)
    | (with_reducible refine' we_bm0 med_upper ?_)
    | (with_reducible refine' we_bm med_index ?_)
    | (with_reducible refine' we_bm med_sindex ?_)
    | (with_reducible refine' we_bm med_indexG ?_)
    | (with_reducible refine' we_bm med_split ?_)
    | (with_reducible refine' we_negA ?_)
    | (with_reducible refine' we_lst ?_)
    | (with_reducible refine' we_tup ?_)
    | (with_reducible refine' we_dnew ?_)
    | (with_reducible refine' we_dnewT ?_)
    | (with_reducible refine' we_get1 ?_)
    | (with_reducible refine' we_get2 ?_)
    | (with_reducible refine' we_extend ?_)
    | (with_reducible refine' we_minD ?_)
    | (with_reducible refine' we_maxD ?_)
    | (with_reducible refine' we_sl ?_)
    | (with_reducible refine' we_slT ?_)
    | (with_reducible refine' we_revL ?_)
    | (with_reducible refine' we_bm med_find3 ?_)
    | (with_reducible refine' we_andV ?_)
    | (with_reducible refine' we_orV ?_)
    | (with_reducible refine' we_notV ?_)
    | (with_reducible refine' we_if ?_)
    | (with_reducible refine' we_chain opd_leA opd_leA ?_)
    | (with_reducible refine' we_chain opd_ltA opd_ltA ?_)
    | (with_reducible refine' we_chain opd_ltA opd_leA ?_)
    | (with_reducible refine' we_chain opd_leA opd_ltA ?_)
    | (with_reducible refine' we_bm med_find ?_)
    | (with_reducible refine' we_bm med_join ?_))
  | ((with_reducible refine' gWA ?_); first
    | (with_reducible refine' wa_nil ?_)
    | (with_reducible refine' wa_cons ?_))
  | ((with_reducible refine' gWT ?_); first
    | (with_reducible refine' wt_test ?_)
    | (with_reducible refine' wt_truth ?_)
    | (with_reducible refine' wt_and ?_)
    | (with_reducible refine' wt_or ?_)
    | (with_reducible refine' wt_not ?_)
    | (with_reducible refine' wt_yes ?_))
  | ((with_reducible refine' ex_ownl ?h ?q); (case h => rfl))
  | (with_reducible refine' wjs_cons ?_)
  | (with_reducible refine' wjs_nil ?_)
  | ((with_reducible refine' ex_setBL ?h1 ?h2 ?q); (case h1 => rfl); (case h2 => rfl))
  | ((with_reducible refine' ex_ext ?h1 ?h2 ?q); (case h1 => rfl); (case h2 => first | omega | (simp only [List.length_append, List.length_map, List.length_range, List.length_cons, List.length_nil] at *; omega)))
  | (with_reducible refine' wo_no ?_)
  | (with_reducible refine' wo_part ?_)
  | (with_reducible refine' ex_find3 ?_)
  | ((with_reducible refine' ex_vm2 ?h1 ?h2 ?h3 ?q); (case h1 => first | rfl | exact view_bor rfl); (case h2 => first | rfl | exact view_bor rfl); (case h3 => first | rfl | exact view_bor rfl))
  | ((with_reducible refine' ex_divmod ?h ?q); (case h => exact ⟨by omega, by omega⟩))
  | ((with_reducible refine' ex_rev ?h ?q); (case h => first | rfl | exact view_bor rfl))
  | (with_reducible refine' dIntC_b ?_)
  | (with_reducible refine' dInt0_i ?_)
  | (with_reducible refine' dAdd_i ?_)
  | (with_reducible refine' dAddI_i ?_)
  | ((with_reducible refine' dEq_sI ?h ?q); (case h => rfl))
  | ((with_reducible refine' dEq_sN ?h ?q); (case h => rfl))
  | ((with_reducible refine' dEqB_sI ?h ?q); (case h => rfl))
  | ((with_reducible refine' dEqB_sN ?h ?q); (case h => rfl))
  | (with_reducible refine' dIsB_I ?_)
  | (with_reducible refine' dIsB_N ?_)
  | (with_reducible refine' dIsN_I ?_)
  | (with_reducible refine' dIsN_N ?_)
  | ((with_reducible refine' dPow_ ?h1 ?h2 ?q); (case h1 => first | ((dsimp only [Int.reduceToNat, Int.reducePow]) <;> rfl) | rfl); (case h2 => first | exact ⟨by decide, by decide, by decide⟩ | exact ⟨by omega, by omega, by omega⟩))
  | ((with_reducible refine' dInt_i ?h ?q); (case h => first | omega | (dsimp only; omega) | exact cdiv_ok (by omega) (by omega) | assumption | exact ⟨by decide, by decide, by decide⟩ | exact ⟨by omega, by omega, by omega⟩))
  | ((with_reducible refine' dMul_i ?h ?q); (case h => first | (left; left; exact ⟨by omega, by omega⟩) | (left; right; exact ⟨by omega, by omega⟩)))
  | (with_reducible refine' ex_trb ?_)
  | (with_reducible refine' ex_bl ?_)
  | (with_reducible refine' ex_int ?_)
  | (with_reducible refine' ex_two ?_)
  | ((with_reducible refine' ex_op ?h1 ?h2 ?q); (case h1 => first | rfl | exact view_bor rfl); (case h2 => first | rfl | exact view_bor rfl))
  | ((with_reducible refine' ex_dat ?h1 ?q); (case h1 => rfl))
  | (with_reducible refine' ex_bor ?_)
  | ((with_reducible refine' ex_setN ?h1 ?h2 ?q); (case h1 => rfl); (case h2 => rfl))
  | ((with_reducible refine' ex_appN ?h1 ?h2 ?q); (case h1 => rfl); (case h2 => first | omega | (simp only [List.length_append, List.length_map, List.length_range, List.length_cons, List.length_nil] at *; omega)))
  | ((with_reducible refine' ex_sl ?h1 ?q); (case h1 => rfl))
  | (with_reducible refine' ex_par ?_)
  | ((with_reducible refine' all_eqN ?h2 ?q); (case h2 => ((dsimp only [backAs, DL.fill, clr, frz, List.set_cons_zero, List.set_cons_succ, Int.reduceToNat]) <;> rfl)))
  | ((with_reducible refine' ex_call ?h1 ?h2 ?h3 ?q); (case h1 => repeat first | exact toAs_nil | apply toAs_d | apply toAs_b rfl); (case h2 => first | exact List.nodup_nil | exact List.nodup_singleton _ | simp [owned]); (case h3 => first | exact fun _ => rfl | exact fun h => nomatch h))
  | ((with_reducible refine' ex_mu1 ?h ?q); (case h => rfl))
  | ((with_reducible refine' dIxC_l ?h ?q); (case h => rfl))
  | ((with_reducible refine' dIxC_u ?h ?q); (case h => rfl))
  | (with_reducible refine' dInC_sI ?_)
  | (with_reducible refine' dInC_sN ?_)
  | ((with_reducible refine' ex_lsd ?h1 ?h2 ?q); (case h1 => repeat first | exact datas_nil | apply datas_cons); (case h2 => first | exact Nat.le_of_ble_eq_true rfl | simp))
  | ((with_reducible refine' ex_vs1 ?h1 ?q); (case h1 => first | rfl | exact view_bor rfl))
  | ((with_reducible refine' ex_vs2 ?h1 ?h2 ?q); (case h1 => first | rfl | exact view_bor rfl); (case h2 => first | rfl | exact view_bor rfl))
  | ((with_reducible refine' ex_vs3 ?h1 ?h2 ?h3 ?q); (case h1 => first | rfl | exact view_bor rfl); (case h2 => first | rfl | exact view_bor rfl); (case h3 => first | rfl | exact view_bor rfl))
  | ((with_reducible refine' ex_isi ?h1 ?q); (case h1 => first | (exact isi_int (by first | rfl | assumption)) | (exact isi_bl (by first | rfl | assumption)) | (exact isi_str (by first | rfl | assumption))))
  | ((with_reducible refine' ex_isiB ?h1 ?q); (case h1 => first | exact isi_lst | exact isi_tup | exact isi_dct | exact isi_st | exact isi2_lst | exact isi2_tup | (exact isi_int (by first | rfl | assumption)) | (exact isi_bl (by first | rfl | assumption)) | (exact isi_str (by first | rfl | assumption))))
  | ((with_reducible refine' ex_lenB ?h1 ?h2 ?q); (case h1 => first | assumption | trivial | (show _ ≤ _; omega) | (show _ ≤ _; decide +kernel)); (case h2 => rfl))
  | ((with_reducible refine' ex_ty ?h1 ?h2 ?q); (case h1 => first | rfl | exact view_bor rfl); (case h2 => rfl))
  | ((with_reducible refine' ex_vm1 ?h1 ?h2 ?q); (case h1 => first | rfl | exact view_bor rfl); (case h2 => first | rfl | exact view_bor rfl))
  | (with_reducible refine' ex_find ?_)
  | (show ∀ _ : Addr, _; intro _)
  | ((with_reducible refine' ex_view ?h1 ?q); (case h1 => rfl))
  | ((refine' ex_appN ?h1 ?h2 ?q); (case h1 => rfl); (case h2 => first | omega | (simp only [List.length_append, List.length_map, List.length_range, List.length_cons, List.length_nil] at *; omega)))
  | (with_reducible refine' br_t ?_)
  | (with_reducible refine' br_f ?_)
  | (with_reducible refine' br_not (br_t ?_))
  | (with_reducible refine' br_not (br_f ?_)))
local macro_rules | `(tactic| walk_at "d0") => `(tactic| dsimp only [List.cons_append, List.nil_append])
local macro_rules | `(tactic| walk_at "d") => `(tactic| repeat walk_at "d1")
local macro_rules | `(tactic| walk_at "ds") => `(tactic| dsimp only [isIntD, isBlD, isStrD, DL.isNon, id, List.set_cons_zero, List.set_cons_succ])
local macro_rules | `(tactic| walk_at "k") => `(tactic| dsimp only [backAs, DL.fill, clr, frz, List.set_cons_zero, List.set_cons_succ])

local macro_rules | `(tactic| walk_at "x") => `(tactic| first | (with_reducible refine' br_f (w_next ?_)) | (with_reducible refine' br_t (w_next ?_)) | (with_reducible refine' w_next ?_) | skip)
local macro_rules | `(tactic| walk_at "i") => `(tactic| repeat ((fail_if_success (with_reducible refine' w_if ?_)); walk_at "d1"))
local macro_rules | `(tactic| walk_at "t") => `(tactic| repeat ((fail_if_success (with_reducible refine' wg_setB ?_)); walk_at "d1"))
local macro_rules | `(tactic| walk_at "l") => `(tactic| repeat ((fail_if_success (with_reducible refine' we_lst ?_)); walk_at "d1"))
local macro_rules | `(tactic| walk_at "p") => `(tactic| repeat ((fail_if_success (with_reducible refine' w_drop ?_)); walk_at "d1"))
local macro_rules | `(tactic| walk_at "q") => `(tactic| repeat ((fail_if_success (with_reducible refine' w_seq ?_)); walk_at "d1"))
local macro_rules | `(tactic| walk_at "r") => `(tactic| repeat ((fail_if_success (with_reducible refine' w_ret ?_)); walk_at "d1"))

theorem br_yes {p P Q : Prop} [Decidable p] (h : p) (q : P) : (decide p = true → P) ∧ (decide p = false → Q) := ⟨fun _ => q, fun z => absurd h (of_decide_eq_false z)⟩
theorem nm_is {x : Str} (h : nmOk x = true) : 1 ≤ x.length ∧ x.length ≤ 6 ∧ ((tl x).all fun ch => decide (ch ∈ lettersL)) = true := by
  unfold nmOk at h
  rw [Bool.and_eq_true, Bool.and_eq_true, decide_eq_true_eq, decide_eq_true_eq] at h
  exact ⟨h.1.1, h.1.2, h.2⟩
theorem ltr : (Str.ofString "abcdefghijklmnopqrstuvwxyz").cps.toList = lettersL := by decide +kernel
/-! names, as a list or a tuple -/
theorem ns_seq (t : Bool) (ns : List Str) : seqD (nsD t ns) = some (ns.map .str) := by cases t <;> rfl
theorem flat_strs : ∀ ns : List Str, (ns.map D.str).all flatD = true
  | [] => rfl
  | n :: ns => by
    rw [List.map_cons, List.all_cons, flat_strs ns]
    rfl
theorem inD_strs (x : Str) : ∀ ns : List Str, inD (.str x) (ns.map D.str) = decide (x ∈ ns)
  | [] => rfl
  | n :: ns => by
    have ih := inD_strs x ns
    unfold inD at ih ⊢
    rw [List.map_cons, List.any_cons, ih]
    show (decide (n = x) || decide (x ∈ ns)) = decide (x ∈ n :: ns)
    by_cases q : n = x
    · subst q; simp
    · have q2 : x ≠ n := fun z => q z.symm
      simp [q, q2]
theorem in_nsI {t : Bool} {ns : List Str} {x : Str} {k : R → Prop} (h : k (.d (.bl (decide (x ∈ ns))))) : dInC id (.str x) (nsD t ns) k := by
  cases t with
  | true => exact dInC_uI rfl (flat_strs ns) (by rw [inD_strs]; exact h)
  | false => exact dInC_lI rfl (flat_strs ns) (by rw [inD_strs]; exact h)
theorem in_nsN {t : Bool} {ns : List Str} {x : Str} {k : R → Prop} (h : k (.d (.bl (!decide (x ∈ ns))))) : dInC not (.str x) (nsD t ns) k := by
  cases t with
  | true => exact dInC_uN rfl (flat_strs ns) (by rw [inD_strs]; exact h)
  | false => exact dInC_lN rfl (flat_strs ns) (by rw [inD_strs]; exact h)
theorem strs_get {ns : List Str} {i : Nat} {d : D} (h : (ns.map D.str)[i]? = some d) : ∃ x, d = .str x ∧ ns[i]? = some x := by
  rw [List.getElem?_map] at h
  cases e : ns[i]? with
  | none => rw [e] at h; cases h
  | some x => rw [e] at h; cases h; exact ⟨x, rfl, rfl⟩
/-! dicts -/
theorem putD_new {kds : List (Key × D)} {k : Key} {v : D} (h : ∀ q ∈ kds, q.1 ≠ k) : putD kds k v = kds ++ [(k, v)] := by
  unfold putD
  rw [if_neg]
  intro z
  obtain ⟨q, hq, e⟩ := List.any_eq_true.mp z
  exact h q hq (of_decide_eq_true e)
theorem signsD_get {z : Str} {i : Nat} {d : D} (h : (signsD z)[i]? = some d) : ∃ ch, d = .str ⟨#[ch]⟩ ∧ (tl z)[i]? = some ch := by
  unfold signsD at h
  rw [List.getElem?_map] at h
  cases e : z.cps.toList[i]? with
  | none => rw [e] at h; cases h
  | some ch => rw [e] at h; cases h; exact ⟨ch, rfl, rfl⟩
def sgn (s : Str) : Nat := s.cps.getD 0 0
def inK (L : List Nat) : D → Option D
  | .str s => some (.bl (decide (sgn s ∈ L)))
  | _ => none
def ifK (L : List Nat) : D → Option D
  | .str s => if sgn s ∈ L then some (.str s) else none
  | _ => none
theorem all_in (z : Str) (L : List Nat) : blsD ((signsD z).filterMap (inK L)) = some ((tl z).map fun ch => decide (ch ∈ L)) := by
  have e : (signsD z).filterMap (inK L) = ((tl z).map fun ch => decide (ch ∈ L)).map D.bl := by
    unfold signsD
    rw [List.filterMap_map, List.map_map]
    show List.filterMap (fun ch => some (D.bl (decide (ch ∈ L)))) (tl z) = _
    generalize tl z = l
    induction l with
    | nil => rfl
    | cons a r ih => simp
  rw [e, blsD_map]
theorem all_map_id (l : List Nat) (L : List Nat) : (l.map fun ch => decide (ch ∈ L)).all id = l.all fun ch => decide (ch ∈ L) := by
  induction l with
  | nil => rfl
  | cons a r ih => simp
def lw (L : List Nat) : List D := L.map fun ch => .str ⟨#[ch]⟩
theorem lw_strs : ∀ L : List Nat, strsD (lw L) = some (L.map fun ch => (⟨#[ch]⟩ : Str))
  | [] => rfl
  | c :: L => by
    show (strsD (lw L)).map _ = _
    rw [lw_strs L]
    rfl
theorem sum_ones (L : List Nat) : ((L.map fun ch => (⟨#[ch]⟩ : Str)).map (·.length)).sum = L.length := by
  induction L with
  | nil => rfl
  | cons c L ih =>
    simp only [List.map_cons, List.sum_cons, ih, List.length_cons]
    show 1 + L.length = _
    omega
theorem lw_snoc (L : List Nat) (ch : Nat) : lw L ++ [.str ⟨#[ch]⟩] = lw (L ++ [ch]) := by
  unfold lw
  rw [List.map_append]
  rfl

theorem ws_l_cell : WsC (Fx := XF) S_l_cell t_l_cell [] := by
  rintro K cn as Φ fx ⟨ns, k, rfl, hl, h⟩
  unfold t_l_cell
  walk_at "d0"
  walk_at "d"
  refine br_d (fun h1 => ?_) (fun h1 => ?_)
  · walk_at "d"
    rw [List.length_map] at h1
    have hk : k < ns.length := by omega
    refine dIxC_r (atI_nat (j := k) (by rw [List.getElem?_map, List.getElem?_eq_getElem hk]; rfl)) ?_
    exact ⟨trivial, h _⟩
  · walk_at "d"
    exact ⟨trivial, h _⟩
theorem ws_l_box : WsC (Fx := XF) S_l_box t_l_box [] := by
  rintro K cn as Φ fx ⟨v, rfl, h⟩
  unfold t_l_box
  walk_at "d0"
  walk_at "d"

  refine ⟨trivial, h _ _ ⟨_, _, _, _, rfl, ?_, ?_, ?_, ?_, ?_, ?_⟩⟩ <;> omega
theorem box_bound {x t : Int} (h1 : 0 ≤ x) (h2 : x < 2147483648) (h3 : 0 ≤ t) (h4 : t ≤ 1000000) : (x * (2 * t + 1) + 7919 * t * t).natAbs < 2 ^ 64 := by
  have a1 : 0 ≤ x * (2 * t + 1) := Int.mul_nonneg h1 (by omega)
  have a2 : x * (2 * t + 1) ≤ 2147483648 * 2000001 := Int.mul_le_mul (by omega) (by omega) (by omega) (by decide)
  have a3 : 0 ≤ 7919 * t * t := Int.mul_nonneg (by omega) h3
  have a4 : 7919 * t * t ≤ 7919000000 * 1000000 := Int.mul_le_mul (by omega) h4 h3 (by decide)
  omega
theorem box_bound2 {z x t : Int} (h0 : 0 ≤ z) (h00 : z < 2147483647) (h1 : 0 ≤ x) (h2 : x < 2147483648) (h3 : 0 ≤ t) (h4 : t ≤ 1000000) : (z + x * t + 13).natAbs < 2 ^ 64 := by
  have a1 : 0 ≤ x * t := Int.mul_nonneg h1 h3
  have a2 : x * t ≤ 2147483648 * 1000000 := Int.mul_le_mul (by omega) h4 h3 (by decide)
  omega
theorem ws_l_take : WsC (Fx := XF) S_l_take t_l_take [.no, .no, .no] := by
  rintro K cn as Φ fx ⟨b, x, n, m, rfl, ⟨x0, x1, x2, x3, rfl, h1, h2, h3, h4, h5, h6⟩, hn, hm, hm2, h⟩
  unfold t_l_take
  walk_at "d0"
  walk_at "d"
  refine br_d (fun h7 => ?_) (fun h7 => ?_)
  · walk_at "d"
    exact ⟨⟨rfl, trivial⟩, h _ _ (Int.emod_nonneg _ (by omega)) (Int.emod_lt_of_pos _ hm) ⟨_, _, _, _, rfl, h1, h2, h3, h4, h5, by omega⟩⟩
  · walk_at "d"
    refine dInt_i ⟨by decide, by decide, box_bound h1 h2 (by omega) (by omega)⟩ ?_
    walk_at "d"
    have g1 := Int.emod_nonneg ((x1 * (2 * (x3 + 1) + 1) + 7919 * (x3 + 1) * (x3 + 1)) ^ 5) (show (2147483647 : Int) ≠ 0 by decide)
    have g2 := Int.emod_lt_of_pos ((x1 * (2 * (x3 + 1) + 1) + 7919 * (x3 + 1) * (x3 + 1)) ^ 5) (show (0 : Int) < 2147483647 by decide)
    generalize (x1 * (2 * (x3 + 1) + 1) + 7919 * (x3 + 1) * (x3 + 1)) ^ 5 % 2147483647 = num at g1 g2 ⊢
    refine dInt_i ⟨by decide, by decide, box_bound2 g1 g2 h3 h4 (by omega) (by omega)⟩ ?_
    walk_at "d"
    exact ⟨⟨rfl, trivial⟩, h _ _ (Int.emod_nonneg _ (by omega)) (Int.emod_lt_of_pos _ hm) ⟨_, _, _, _, rfl, h1, h2, h3, h4, by omega, by omega⟩⟩
/-- a draw, at a call -/
theorem use_take {P : R → List Sl → Prop} {b : Addr} {x : D} {n : Nat} {m : Int} (hb : BoxD n x) (hn : n < 1000000) (hm : 0 < m) (hm2 : m < 2 ^ 200) (q : ∀ r x', 0 ≤ r → r < m → BoxD (n + 1) x' → P (.d (.int r)) [.own b x', .d (.int m)]) :
    ∀ Ψ : R → List Sl → Prop, (∀ r as', ownOut r → P r as' → Ψ r as') → S_l_take [.own b x, .d (.int m)] Ψ := fun Ψ k => ⟨b, x, n, m, rfl, hb, hn, hm, hm2, fun r x' h1 h2 h3 => k _ _ trivial (q r x' h1 h2 h3)⟩
theorem BoxD.mono {n m : Nat} {x : D} (h : BoxD n x) (e : n ≤ m) : BoxD m x := by
  obtain ⟨x0, x1, x2, x3, h0, h1, h2, h3, h4, h5, h6⟩ := h
  exact ⟨x0, x1, x2, x3, h0, h1, h2, h3, h4, h5, by omega⟩
section
variable {P : R → List Sl → Prop}
theorem use_box {v : Int} (q : ∀ b x, BoxD 0 x → P (.own b x) [.d (.int v)]) :
    ∀ Ψ : R → List Sl → Prop, (∀ r as', ownOut r → P r as' → Ψ r as') → S_l_box [.d (.int v)] Ψ := fun Ψ k => ⟨v, rfl, fun b x h => k _ _ trivial (q b x h)⟩
theorem use_cell {ns : List Int} {i : Nat} (hl : ns.length ≤ 63) (q : ∀ v : Int, P (.d (.int v)) [.d (.ro (ns.map .int)), .d (.int i)]) :
    ∀ Ψ : R → List Sl → Prop, (∀ r as', ownOut r → P r as' → Ψ r as') → S_l_cell [.d (.ro (ns.map .int)), .d (.int i)] Ψ := fun Ψ k => ⟨ns, i, rfl, hl, fun v => k _ _ trivial (q v)⟩
end

theorem ws_is_whole : WsC (Fx := XF) S_is_whole t_is_whole [] := by
  rintro K cn as Φ fx ⟨x, lo, hi, rfl, ht, h⟩
  unfold t_is_whole
  walk_at "d0"
  walk_at "d"
  refine br_not (br (fun h1 => ?_) (fun h1 => ?_))
  · walk_at "d"
    refine br (fun h2 => ?_) (fun h2 => ?_)
    · walk_at "d"
      cases x <;> first | (cases h2; done) | exact ⟨trivial, h⟩
    · cases x <;> first | (cases h1; done) | (cases h2; done) | skip
      rename_i i
      walk_at "d"
      refine br_d (fun h3 => ?_) (fun h3 => ?_)
      · walk_at "d"
        have e : decide (i ≤ hi) = wholeB (.int i) lo hi := by simp [wholeB, h3]
        rw [e]
        exact ⟨trivial, h⟩
      · have e : false = wholeB (.int i) lo hi := by simp [wholeB, h3]
        rw [e]
        exact ⟨trivial, h⟩
  · walk_at "d"
    cases x <;> first | (cases h1; done) | exact ⟨trivial, h⟩
theorem all_map_in (s : Str) : ((tl s).map fun ch => decide (ch ∈ lettersL)).all id = (tl s).all fun ch => decide (ch ∈ lettersL) := all_map_id _ _
theorem ws_is_name : WsC (Fx := XF) S_is_name t_is_name [.no] := by
  rintro K cn as Φ fx ⟨x, rfl, ⟨hx, hs⟩, h⟩
  unfold t_is_name
  walk_at "d0"
  walk_at "d"
  cases x with
  | str s =>
    have h16 : s.length ≤ 16000000 := hs
    dsimp only [isStrD]
    walk_at "d"
    refine br_d (fun h1 => ?_) (fun h1 => ?_)
    · walk_at "d"
      refine br_n (fun h2 => ?_) (fun h2 => ?_)
      · walk_at "d"
        have e : nameB (.str s) = false := by
          show nmOk s = false
          unfold nmOk
          rw [show decide (s.length ≤ 6) = false from decide_eq_false (by omega), Bool.and_false, Bool.false_and]
        rw [e] at h
        exact ⟨trivial, h⟩
      · walk_at "x"
        walk_at "d"
        refine we_lcP (wi_any ?_)
        walk_at "d"
        refine ex_it rfl rfl ?_
        refine ⟨⟨trivial, trivial⟩, ?_, inK lettersL, fun i d hd => ?_, fun a => ?_⟩
        · unfold signsD
          rw [List.length_map, ← len_tl]
          omega
        · obtain ⟨ch, rfl, _⟩ := signsD_get hd
          refine wgc_name (by simp) rfl ?_
          walk_at "d"
          rw [ltr]
          simp [inK, sgn]
        · walk_at "d"
          refine ⟨_, rfl, _, _, rfl, all_in s lettersL, ?_⟩
          rw [all_map_in]
          have e : nameB (.str s) = (tl s).all fun ch => decide (ch ∈ lettersL) := by
            show nmOk s = _
            unfold nmOk
            rw [show decide (s.length ≤ 6) = true from decide_eq_true (by omega), show decide (1 ≤ s.length) = true from decide_eq_true (by omega)]
            rfl
          rw [e] at h
          exact ⟨trivial, h⟩
    · walk_at "d"
      have e : nameB (.str s) = false := by
        show nmOk s = false
        unfold nmOk
        rw [show decide (1 ≤ s.length) = false from decide_eq_false (by omega), Bool.false_and, Bool.false_and]
      rw [e] at h
      exact ⟨trivial, h⟩
  | _ => walk_at "ds"; walk_at "d"; exact ⟨trivial, h⟩
section
variable {P : R → List Sl → Prop} {x : D} {lo hi : Int}
theorem use_is_name (hx : anyD x) (q : P (.d (.bl (nameB x))) [.d x]) :
    ∀ Ψ : R → List Sl → Prop, (∀ r as', ownOut r → P r as' → Ψ r as') → S_is_name [.d x] Ψ := fun Ψ k => ⟨x, rfl, hx, k _ _ trivial q⟩
theorem use_is_whole (h : (tyD x).isSome = true) (q : P (.d (.bl (wholeB x lo hi))) [.d x, .d (.int lo), .d (.int hi)]) :
    ∀ Ψ : R → List Sl → Prop, (∀ r as', ownOut r → P r as' → Ψ r as') → S_is_whole [.d x, .d (.int lo), .d (.int hi)] Ψ := fun Ψ k => ⟨x, lo, hi, rfl, h, k _ _ trivial q⟩
end

/-! plain: places and their numbers, ties -/
theorem spKo_get (s : Str) : ∀ (ns : List Str) (k : Nat), DL.getD ((ns.zipIdx k).map fun q => ((.inr q.1 : Key), D.int (q.2 : Nat))) (.inr s) = (posN s ns).map fun (i : Nat) => D.int ((i + k : Nat) : Int)
  | [], k => rfl
  | x :: ns, k => by
    have ih := spKo_get s ns (k + 1)
    unfold DL.getD at ih ⊢
    rw [List.zipIdx_cons, List.map_cons, List.find?_cons]
    unfold posN
    by_cases z : x = s
    · subst z
      simp
    · have z2 : ¬ (Sum.inr x : Key) = Sum.inr s := fun e => z (Sum.inr.inj e)
      rw [show decide ((Sum.inr x : Key) = Sum.inr s) = false from decide_eq_false z2, if_neg z, Option.map_map]
      show Option.map _ (List.find? _ _) = _
      rw [ih]
      cases posN s ns with
      | none => rfl
      | some i =>
        show some (D.int ((i + (k + 1) : Nat) : Int)) = some (D.int ((i + 1 + k : Nat) : Int))
        rw [show i + (k + 1) = i + 1 + k by omega]
theorem spK_get (s : Str) (ns : List Str) : DL.getD (spK ns) (.inr s) = (posN s ns).map fun (i : Nat) => D.int (i : Nat) := by
  have h := spKo_get s ns 0
  exact h
theorem spK_snoc (ns : List Str) (s : Str) : spK (ns ++ [s]) = spK ns ++ [(.inr s, .int (ns.length : Nat))] := by
  unfold spK
  rw [List.zipIdx_append, List.map_append]
  simp
theorem spK_len (ns : List Str) : (spK ns).length = ns.length := by unfold spK; rw [List.length_map, List.length_zipIdx]
theorem posN_none {s : Str} : ∀ {ns : List Str}, posN s ns = none ↔ s ∉ ns
  | [] => by simp [posN]
  | x :: ns => by
    unfold posN
    by_cases z : x = s
    · subst z; simp
    · rw [if_neg z, Option.map_eq_none_iff, posN_none (ns := ns)]
      simp [Ne.symm z]
theorem posN_at {s : Str} : ∀ {ns : List Str} {i : Nat}, posN s ns = some i → ns[i]? = some s
  | [], i, h => by cases h
  | x :: ns, i, h => by
    unfold posN at h
    by_cases z : x = s
    · rw [if_pos z] at h; cases h; rw [z]; rfl
    · rw [if_neg z] at h
      cases q : posN s ns with
      | none => rw [q] at h; cases h
      | some j =>
        rw [q] at h
        cases h
        exact posN_at (ns := ns) q
theorem posN_of {s : Str} : ∀ {ns : List Str} {i : Nat}, ns.Nodup → ns[i]? = some s → posN s ns = some i
  | [], i, _, h => by simp at h
  | x :: ns, 0, _, h => by
    have e : x = s := by simpa using h
    unfold posN
    rw [if_pos e]
  | x :: ns, i + 1, n, h => by
    have h2 : ns[i]? = some s := by simpa using h
    have n' := List.nodup_cons.mp n
    unfold posN
    rw [if_neg (fun e => n'.1 (by rw [e]; exact List.mem_of_getElem? h2)), posN_of n'.2 h2]
    rfl
theorem posN_lt {s : Str} {ns : List Str} {i : Nat} (h : posN s ns = some i) : i < ns.length := (List.getElem?_eq_some_iff.mp (posN_at h)).1
theorem putD_spK {ns : List Str} {s : Str} (h : s ∉ ns) : putD (spK ns) (.inr s) (.int (ns.length : Nat)) = spK (ns ++ [s]) := by
  rw [spK_snoc, putD_new]
  intro q hq e
  unfold spK at hq
  obtain ⟨p, hp, e2⟩ := List.mem_map.mp hq
  subst e2
  have e3 : p.1 = s := Sum.inr.inj e
  have := List.mem_zipIdx' hp
  exact h (by rw [← e3, this.2]; exact List.getElem_mem _)
theorem kN_inj {p q : Nat × Nat} (h : kN p = kN q) : p = q := by
  unfold kN at h
  have h1 := (List.cons.inj h).1
  have h2 := (List.cons.inj (List.cons.inj h).2).1
  have e1 : (p.1 : Int) = q.1 := Sum.inl.inj h1
  have e2 : (p.2 : Int) = q.2 := Sum.inl.inj h2
  exact Prod.ext (by omega) (by omega)
theorem lnK_get (p : Nat × Nat) : ∀ L : List Tie, getT (lnK L) (kN p) = (L.lookup p).map fun (l : Nat) => D.int l
  | [] => rfl
  | (q, l) :: L => by
    have ih := lnK_get p L
    unfold getT lnK at ih ⊢
    rw [List.map_cons, List.find?_cons, List.lookup_cons]
    by_cases z : p = q
    · subst z; simp
    · have z2 : ¬ kN q = kN p := fun e => z (kN_inj e).symm
      have z3 : (p == q) = false := by simpa using z
      rw [show decide (kN q = kN p) = false from decide_eq_false z2, z3]
      exact ih
theorem lnK_put {L : List Tie} {p : Nat × Nat} {l : Nat} (h : p ∉ L.map Prod.fst) : putT (lnK L) (kN p) (.int (l : Nat)) = lnK (L ++ [(p, l)]) := by
  unfold putT
  rw [if_neg]
  · unfold lnK
    rw [List.map_append]
    rfl
  · intro z
    obtain ⟨q, hq, e⟩ := List.any_eq_true.mp z
    unfold lnK at hq
    obtain ⟨t, ht, e2⟩ := List.mem_map.mp hq
    subst e2
    have e3 := kN_inj (of_decide_eq_true e)
    exact h (by rw [← e3]; exact List.mem_map_of_mem ht)
theorem lnK_len (L : List Tie) : (lnK L).length = L.length := by unfold lnK; rw [List.length_map]
theorem lookN {L : List Tie} {p : Nat × Nat} : (L.lookup p).isSome = decide (p ∈ L.map Prod.fst) := by
  induction L with
  | nil => simp
  | cons t L ih =>
    obtain ⟨q, l⟩ := t
    rw [List.lookup_cons]
    by_cases z : p = q
    · subst z; simp
    · have z3 : (p == q) = false := by simpa using z
      rw [z3, ih]
      simp [z]
theorem look_ok {L : List Tie} {p : Nat × Nat} {l : Nat} (h : L.lookup p = some l) : (p, l) ∈ L := by
  induction L with
  | nil => simp at h
  | cons t L ih =>
    obtain ⟨q, l'⟩ := t
    rw [List.lookup_cons] at h
    by_cases z : p = q
    · subst z; simp at h; subst h; exact List.mem_cons_self
    · have z3 : (p == q) = false := by simpa using z
      rw [z3] at h
      exact List.mem_cons_of_mem _ (ih h)
theorem dKeyT_pN (p : Nat × Nat) : dKeyT (pN p) = some (kN p) := rfl
theorem name_spot {ns : List Str} (hn : NmOk ns) {x : D} (h : nameB x = false) : spotN ns x = none := by
  cases x with
  | str s =>
    show posN s ns = none
    rw [posN_none]
    intro m
    have := hn.ok s m
    rw [show nameB (.str s) = nmOk s from rfl] at h
    rw [this] at h
    cases h
  | _ => rfl
theorem scan_len : ∀ {ds : List D} {acc ns : List Str}, scanN acc ds = .inr ns → ns.length = acc.length + ds.length
  | [], acc, ns, h => by cases h; simp
  | d :: ds, acc, ns, h => by
    cases d with
    | str s =>
      unfold scanN at h
      split at h
      · split at h
        · cases h
        · have := scan_len h
          rw [List.length_append] at this
          simp at this ⊢
          omega
      · cases h
    | _ => unfold scanN at h; cases h
theorem scan_ok : ∀ {ds : List D} {acc ns : List Str}, scanN acc ds = .inr ns → acc.Nodup → (∀ x ∈ acc, nmOk x = true) → ns.Nodup ∧ ∀ x ∈ ns, nmOk x = true
  | [], acc, ns, h, n, o => by cases h; exact ⟨n, o⟩
  | d :: ds, acc, ns, h, n, o => by
    cases d with
    | str s =>
      unfold scanN at h
      split at h
      · rename_i hs
        split at h
        · cases h
        · rename_i hm
          refine scan_ok h (List.nodup_append.mpr ⟨n, by simp, fun a ha b hb e => hm (by rw [← List.mem_singleton.mp hb, ← e]; exact ha)⟩) fun x hx => ?_
          rcases List.mem_append.mp hx with q | q
          · exact o x q
          · rw [List.mem_singleton.mp q]; exact hs
      · cases h
    | _ => unfold scanN at h; cases h
theorem places_ok {x : D} {ns : List Str} (h : placesR x = .inr ns) : NmOk ns := by
  unfold placesR at h
  split at h
  · split at h
    · rename_i ds _ hl
      have h1 := scan_len h
      obtain ⟨h2, h3⟩ := scan_ok h List.nodup_nil (fun x hx => by cases hx)
      simp at h1
      exact ⟨by omega, by omega, h2, h3⟩
    · cases h
  · cases h
theorem scan_names : ∀ {ms acc : List Str}, (acc ++ ms).Nodup → (∀ x ∈ ms, nmOk x = true) → scanN acc (ms.map .str) = .inr (acc ++ ms)
  | [], acc, _, _ => by rw [List.append_nil]; rfl
  | m :: ms, acc, n, o => by
    rw [List.map_cons]
    unfold scanN
    have hm : m ∉ acc := fun z => (List.nodup_append.mp n).2.2 m z m List.mem_cons_self rfl
    rw [if_pos (o m List.mem_cons_self), if_neg hm, scan_names (by rw [List.append_assoc]; exact n) fun x hx => o x (List.mem_cons_of_mem _ hx), List.append_assoc]
    rfl
theorem places_names {t : Bool} {ns : List Str} (h : NmOk ns) : placesR (nsD t ns) = .inr ns := by
  unfold placesR
  rw [ns_seq]
  dsimp only
  rw [List.length_map, if_pos ⟨h.l1, h.l2⟩, scan_names (by rw [List.nil_append]; exact h.nd) h.ok]
  rfl
/-! the words -/
theorem seq_cases {x : D} (hx : anyD x) : (∃ ds, seqD x = some ds ∧ isiB x (.tup [.ty "list", .ty "tuple"]) = some true ∧ lenB x = some ds.length ∧ itemsD x = some ds) ∨ (seqD x = none ∧ isiB x (.tup [.ty "list", .ty "tuple"]) = some false) := by
  cases x with
  | lst ds => exact .inl ⟨ds, rfl, isi2_lst, rfl, rfl⟩
  | tup ds => exact .inl ⟨ds, rfl, isi2_tup, rfl, rfl⟩
  | non => exact .inr ⟨rfl, by decide +kernel⟩
  | bl b => exact .inr ⟨rfl, by show ((some "bool").bind fun a => kitAnyB a ["list", "tuple"]) = some false; decide +kernel⟩
  | int i => exact .inr ⟨rfl, by show ((some "int").bind fun a => kitAnyB a ["list", "tuple"]) = some false; decide +kernel⟩
  | str s => exact .inr ⟨rfl, by show ((some "str").bind fun a => kitAnyB a ["list", "tuple"]) = some false; decide +kernel⟩
  | dct d => exact .inr ⟨rfl, by show ((some "dict").bind fun a => kitAnyB a ["list", "tuple"]) = some false; decide +kernel⟩
  | _ => cases hx.1
theorem ws_spots_of : WsXC (Fx := XF) S_spots_of t_spots_of [.no, .no] := by
  rintro K cn Wx as Φ Y fx ⟨s, x, rfl, ha, ⟨hx, hi⟩, h⟩
  have hr : ∀ n y, placesR x = .inl (n, y) → s = .d x ∧ Y n y := fun n y e => by rw [e] at h; exact h
  have hk : ∀ ns, placesR x = .inr ns → ∀ a, Φ (.own a (.dct (spK ns))) [s] := fun n e => by rw [e] at h; exact h
  clear h
  unfold t_spots_of
  walk_at "d0"
  unfold placesR at hr hk
  rcases ha with _ | b
  all_goals
    walk_at "d"
    rcases seq_cases hx with ⟨ds, e1, e2, e3, e4⟩ | ⟨e1, e2⟩
    · refine ex_isiB e2 ?_
      rw [e1] at hr hk
      dsimp only at hr hk
      walk_at "d"
      refine ex_lenB hx.2 e3 ?_
      walk_at "d"
      refine br_d (fun h1 => ?_) (fun h1 => ?_)
      · walk_at "d"
        refine br_n (fun h2 => ?_) (fun h2 => ?_)
        · obtain ⟨e, hY⟩ := hr XNoPlaces x (if_neg (by omega))
          cases e <;> (refine w_raiseN fx.all_NoPlaces fx.fl_NoPlaces ?_; walk_at "d"; exact ⟨_, rfl, hY, trivial, rfl⟩)
        · rw [if_pos (by omega)] at hr hk
          have hl : ds.length ≤ 12 := by omega
          walk_at "x"
          walk_at "d"
          refine w_forA ?_
          walk_at "d"
          refine ⟨x, ds, (by first | rfl | exact view_bor rfl), e4, ?_⟩
          first
          | refine ⟨fun i δ' => ∃ a acc s2, δ' = [.d x, .own a (.dct (spK acc)), s2] ∧ acc.length = i ∧ scanN [] ds = scanN acc (ds.drop i) ∧ acc.Nodup ∧ ∀ z ∈ acc, nmOk z = true,
              ⟨_, [], _, rfl, rfl, rfl, List.nodup_nil, fun z hz => by cases hz⟩, fun _ _ _ _ => rfl, fun i d δ' hd ⟨a, acc, s2, e, q1, q2, q3, q4⟩ => ?_, fun δ' ⟨a, acc, s2, e, q1, q2, q3, q4⟩ => ?_⟩
          | refine ⟨fun i δ' => ∃ a acc s2, δ' = [.own b x, .own a (.dct (spK acc)), s2] ∧ acc.length = i ∧ scanN [] ds = scanN acc (ds.drop i) ∧ acc.Nodup ∧ ∀ z ∈ acc, nmOk z = true,
              ⟨_, [], _, rfl, rfl, rfl, List.nodup_nil, fun z hz => by cases hz⟩, fun _ _ _ ⟨_, _, _, e, _⟩ => (by subst e; exact view_bor rfl), fun i d δ' hd ⟨a, acc, s2, e, q1, q2, q3, q4⟩ => ?_, fun δ' ⟨a, acc, s2, e, q1, q2, q3, q4⟩ => ?_⟩
          · subst e
            have hlt := (List.getElem?_eq_some_iff.mp hd).1
            rw [List.drop_eq_getElem_cons hlt, (List.getElem?_eq_some_iff.mp hd).2] at q2
            have ha := hi ds e1 d (List.mem_of_getElem? hd)
            walk_at "d"
            refine use_is_name ha ?_
            walk_at "d"
            cases hb : nameB d with
            | false =>
              have e : scanN acc (d :: ds.drop (i + 1)) = .inl (XNoName, d) := by
                cases d with
                | str s => unfold scanN; rw [if_neg (by rw [show nmOk s = false from hb]; exact Bool.false_ne_true)]
                | _ => rfl
              obtain ⟨e', hY⟩ := hr _ _ (q2.trans e)
              cases e' <;> (
                walk_at "d"
                refine w_raiseN fx.all_NoName fx.fl_NoName ?_
                walk_at "d"
                exact ⟨_, rfl, hY, trivial, rfl⟩)
            | true =>
              cases d <;> first | (cases hb; done) | skip
              rename_i z
              have hb' : nmOk z = true := hb
              walk_at "d"
              refine dInC_kI rfl ?_
              rw [spK_get]
              walk_at "d"
              by_cases hm : z ∈ acc
              · have e : scanN acc (.str z :: ds.drop (i + 1)) = .inl (XTwice, .str z) := by unfold scanN; rw [if_pos hb', if_pos hm]
                have ep : ((posN z acc).map fun (i : Nat) => D.int (i : Nat)).isSome = true := by
                  cases q : posN z acc with
                  | none => exact absurd hm (posN_none.mp q)
                  | some j => rfl
                rw [ep]
                obtain ⟨e', hY⟩ := hr _ _ (q2.trans e)
                cases e' <;> (
                  walk_at "d"
                  refine w_raiseN fx.all_Twice fx.fl_Twice ?_
                  walk_at "d"
                  exact ⟨_, rfl, hY, trivial, rfl⟩)
              · have e : scanN acc (.str z :: ds.drop (i + 1)) = scanN (acc ++ [z]) (ds.drop (i + 1)) := by rw [scanN, if_pos hb', if_neg hm]
                have ep : ((posN z acc).map fun (i : Nat) => D.int (i : Nat)).isSome = false := by rw [posN_none.mpr hm]; rfl
                rw [ep]
                walk_at "x"
                walk_at "d"
                refine ex_setBD rfl rfl (by rw [spK_len]; omega) ?_
                walk_at "d"
                rw [spK_len, putD_spK hm]
                refine ⟨_, _, _, rfl, by rw [List.length_append, q1]; rfl, by rw [q2, e], List.nodup_append.mpr ⟨q3, by simp, fun a ha b hb e => hm (by rw [← List.mem_singleton.mp hb, ← e]; exact ha)⟩, fun z hz => ?_⟩
                rcases List.mem_append.mp hz with q | q
                · exact q4 z q
                · rw [List.mem_singleton.mp q]; exact hb'
          · subst e
            rw [q2, List.drop_length] at hk
            walk_at "d"
            exact ⟨by first | trivial | exact ⟨rfl, trivial⟩, Nat.le_of_ble_eq_true rfl, _, rfl, hk acc rfl a⟩
      · obtain ⟨e, hY⟩ := hr XNoPlaces x (if_neg (by omega))
        cases e <;> (
          walk_at "d"
          refine w_raiseN fx.all_NoPlaces fx.fl_NoPlaces ?_
          walk_at "d"
          exact ⟨_, rfl, hY, trivial, rfl⟩)
    · refine ex_isiB e2 ?_
      rw [e1] at hr
      obtain ⟨e, hY⟩ := hr XNoPlaces x rfl
      cases e <;> (
        walk_at "d"
        refine w_raiseN fx.all_NoPlaces fx.fl_NoPlaces ?_
        walk_at "d"
        exact ⟨_, rfl, hY, trivial, rfl⟩)

section
variable {P : R → List Sl → Prop}
theorem use_pair_of {i j : Nat} (q : P (.d (pN (mm i j))) [.d (.int i), .d (.int j)]) :
    ∀ Ψ : R → List Sl → Prop, (∀ r as', ownOut r → P r as' → Ψ r as') → S_pair_of [.d (.int i), .d (.int j)] Ψ := fun Ψ k => ⟨i, j, rfl, k _ _ trivial q⟩
end
theorem ws_spot_of : WsXC (Fx := XF) S_spot_of t_spot_of [] := by
  rintro K cn Wx as Φ Y fx ⟨ns, x, rfl, hn, hx, h⟩
  unfold t_spot_of
  walk_at "d0"
  walk_at "d"
  refine use_is_name hx ?_
  walk_at "d"
  cases hb : nameB x with
  | false =>
    rw [name_spot hn hb] at h
    walk_at "d"
    refine w_raiseN fx.all_NoPlace fx.fl_NoPlace ?_
    walk_at "d"
    exact ⟨_, rfl, h, trivial, rfl⟩
  | true =>
    cases x <;> first | (cases hb; done) | skip
    rename_i z
    walk_at "d"
    refine dInC_kN rfl ?_
    rw [spK_get]
    walk_at "d"
    rw [show spotN ns (.str z) = posN z ns from rfl] at h
    cases e : posN z ns with
    | none =>
      rw [e] at h
      refine br_t ?_
      walk_at "d"
      refine w_raiseN fx.all_NoPlace fx.fl_NoPlace ?_
      walk_at "d"
      exact ⟨_, rfl, h, trivial, rfl⟩
    | some i =>
      rw [e] at h
      refine br_f ?_
      walk_at "x"
      walk_at "d"
      refine dIxC_k rfl (by rw [spK_get, e]; rfl) ?_
      exact ⟨trivial, h⟩
theorem ws_pair_of : WsC (Fx := XF) S_pair_of t_pair_of [] := by
  rintro K cn as Φ fx ⟨i, j, rfl, h⟩
  have e1 : (if (j : Int) < (i : Int) then (j : Int) else i) = ((min i j : Nat) : Int) := by split <;> omega
  have e2 : (if (j : Int) > (i : Int) then (j : Int) else i) = ((max i j : Nat) : Int) := by split <;> omega
  unfold t_pair_of
  walk_at "d0"
  walk_at "d"
  rw [e1, e2]
  exact ⟨trivial, h⟩

theorem tup_cases {x : D} (hx : anyD x) : (∃ es, x = .tup es ∧ isiB x (.ty "tuple") = some true) ∨ ((∀ es, x ≠ .tup es) ∧ isiB x (.ty "tuple") = some false) := by
  cases x with
  | tup es => exact .inl ⟨es, rfl, isi_tup⟩
  | lst ds => exact .inr ⟨(fun _ z => nomatch z), by show ((some "list").bind fun a => kitB "tuple" a) = some false; decide +kernel⟩
  | non => exact .inr ⟨(fun _ z => nomatch z), by decide +kernel⟩
  | bl b => exact .inr ⟨(fun _ z => nomatch z), by show ((some "bool").bind fun a => kitB "tuple" a) = some false; decide +kernel⟩
  | int i => exact .inr ⟨(fun _ z => nomatch z), by show ((some "int").bind fun a => kitB "tuple" a) = some false; decide +kernel⟩
  | str s => exact .inr ⟨(fun _ z => nomatch z), by show ((some "str").bind fun a => kitB "tuple" a) = some false; decide +kernel⟩
  | dct d => exact .inr ⟨(fun _ z => nomatch z), by show ((some "dict").bind fun a => kitB "tuple" a) = some false; decide +kernel⟩
  | _ => cases hx.1
theorem tieR_bad {ns : List Str} {L : List Tie} {d : D} (h : ∀ a b l, d ≠ .tup [a, b, l]) : tieR ns L d = .inl (XNoTie, d) := by
  unfold tieR
  split
  · rename_i a b l
    exact absurd rfl (h a b l)
  · rfl
theorem three {es : List D} (h : es.length = 3) : ∃ a b l, es = [a, b, l] := by
  match es, h with
  | [a, b, l], _ => exact ⟨a, b, l, rfl⟩
theorem spot_lt {ns : List Str} {x : D} {i : Nat} (h : spotN ns x = some i) : i < ns.length := by
  cases x with
  | str s => exact posN_lt h
  | _ => cases h
theorem tieR_go {ns : List Str} {L : List Tie} {a b l : D} {i j : Nat} (h1 : spotN ns a = some i) (h2 : spotN ns b = some j) : tieR ns L (.tup [a, b, l]) = if i = j then .inl (XLoop, .tup [a, b, l]) else match l with
        | .int n => if 1 ≤ n ∧ n ≤ 1000000 then (if mm i j ∈ L.map Prod.fst then .inl (XTied, .tup [a, b]) else .inr (L ++ [(mm i j, n.toNat)])) else .inl (XNoLength, l)
        | _ => .inl (XNoLength, l) := by
  unfold tieR
  dsimp only
  rw [h1]
  dsimp only
  rw [h2]
  try rfl
theorem in_lnK {L : List Tie} {p : Nat × Nat} : (getT (lnK L) (kN p)).isSome = decide (p ∈ L.map Prod.fst) := by
  rw [lnK_get, Option.isSome_map, lookN]
theorem ix_pN0 {p : Nat × Nat} {k : R → Prop} (h : k (.d (.int p.1))) : dIxC (pN p) (.int 0) k := dIxC_u (xs := [.int p.1, .int p.2]) rfl h
theorem ix_pN1 {p : Nat × Nat} {k : R → Prop} (h : k (.d (.int p.2))) : dIxC (pN p) (.int 1) k := dIxC_u (xs := [.int p.1, .int p.2]) rfl h
theorem whole_is {x : D} {lo hi : Int} (h : wholeB x lo hi = true) : ∃ n, x = .int n ∧ lo ≤ n ∧ n ≤ hi := by
  cases x with
  | int n =>
    have h' : (decide (lo ≤ n) && decide (n ≤ hi)) = true := h
    rw [Bool.and_eq_true, decide_eq_true_eq, decide_eq_true_eq] at h'
    exact ⟨n, rfl, h'.1, h'.2⟩
  | _ => cases h
theorem tieR_len {ns : List Str} {L : List Tie} {a b l : D} {i j : Nat} (h1 : spotN ns a = some i) (h2 : spotN ns b = some j) (h3 : i ≠ j) (h : wholeB l 1 1000000 = false) : tieR ns L (.tup [a, b, l]) = .inl (XNoLength, l) := by
  rw [tieR_go h1 h2, if_neg h3]
  cases l with
  | int n =>
    have h' : (decide (1 ≤ n) && decide (n ≤ 1000000)) = false := h
    dsimp only
    rw [if_neg]
    rintro ⟨q1, q2⟩
    rw [decide_eq_true q1, decide_eq_true q2] at h'
    cases h'
  | _ => rfl
structure TieOk (n : Nat) (L : List Tie) : Prop where
  ok : ∀ t ∈ L, t.1.1 < t.1.2 ∧ t.1.2 < n ∧ 1 ≤ t.2 ∧ t.2 ≤ 1000000
  nd : (L.map Prod.fst).Nodup
theorem TieOk.snoc {n : Nat} {L : List Tie} {i j l : Nat} (h : TieOk n L) (h1 : i < n) (h2 : j < n) (h3 : i ≠ j) (h4 : 1 ≤ l) (h5 : l ≤ 1000000) (h6 : mm i j ∉ L.map Prod.fst) : TieOk n (L ++ [(mm i j, l)]) := by
  refine ⟨fun t ht => ?_, ?_⟩
  · rcases List.mem_append.mp ht with q | q
    · exact h.ok t q
    · rw [List.mem_singleton.mp q]
      refine ⟨?_, ?_, h4, h5⟩
      · show min i j < max i j
        omega
      · show max i j < n
        omega
  · rw [List.map_append]
    exact List.nodup_append.mpr ⟨h.nd, by simp, fun a ha b hb e => h6 (by rw [← List.mem_singleton.mp (show b ∈ [mm i j] from hb), ← e]; exact ha)⟩
theorem ws_lengths_of : WsXC (Fx := XF) S_lengths_of t_lengths_of [.no, .no, .no] := by
  rintro K cn Wx as Φ Y fx ⟨ns, s, x, rfl, ha, hn, ⟨⟨hx, hi⟩, hii⟩, h⟩
  have hr : ∀ n y, tiesR ns x = .inl (n, y) → s = .d x ∧ Y n y := fun n y e => by rw [e] at h; exact h
  have hk : ∀ L, tiesR ns x = .inr L → ∀ a, Φ (.own a (.dcT (lnK L))) [.d (.dct (spK ns)), s] := fun n e => by rw [e] at h; exact h
  clear h
  unfold t_lengths_of
  walk_at "d0"
  unfold tiesR at hr hk
  rcases ha with _ | b
  all_goals
    walk_at "d"
    rcases seq_cases hx with ⟨ds, e1, e2, e3, e4⟩ | ⟨e1, e2⟩
    · refine ex_isiB e2 ?_
      rw [e1] at hr hk
      dsimp only at hr hk
      walk_at "d"
      refine ex_lenB hx.2 e3 ?_
      walk_at "d"
      refine br_d (fun h1 => ?_) (fun h1 => ?_)
      · obtain ⟨e, hY⟩ := hr XNoTies x (if_neg (by omega))
        cases e <;> (
          walk_at "d"
          refine w_raiseN fx.all_NoTies fx.fl_NoTies ?_
          walk_at "d"
          exact ⟨_, rfl, hY, trivial, rfl⟩)
      · rw [if_pos (by omega)] at hr hk
        have hl : ds.length ≤ 40 := by omega
        walk_at "x"
        walk_at "d"
        refine w_forA ?_
        walk_at "d"
        refine ⟨x, ds, (by first | rfl | exact view_bor rfl), e4, ?_⟩
        first
        | refine ⟨fun i δ' => ∃ a L s3 s4, δ' = [.d (.dct (spK ns)), .d x, .own a (.dcT (lnK L)), s3, s4] ∧ L.length = i ∧ scanT ns [] ds = scanT ns L (ds.drop i) ∧ TieOk ns.length L,
            ⟨_, [], _, _, rfl, rfl, rfl, ⟨(fun t ht => by cases ht), List.nodup_nil⟩⟩, fun _ _ _ _ => rfl, fun i d δ' hd ⟨a, L, s3, s4, e, q1, q2, q3⟩ => ?_, fun δ' ⟨a, L, s3, s4, e, q1, q2, q3⟩ => ?_⟩
        | refine ⟨fun i δ' => ∃ a L s3 s4, δ' = [.d (.dct (spK ns)), .own b x, .own a (.dcT (lnK L)), s3, s4] ∧ L.length = i ∧ scanT ns [] ds = scanT ns L (ds.drop i) ∧ TieOk ns.length L,
            ⟨_, [], _, _, rfl, rfl, rfl, ⟨(fun t ht => by cases ht), List.nodup_nil⟩⟩, fun _ _ _ ⟨_, _, _, _, e, _⟩ => (by subst e; exact view_bor rfl), fun i d δ' hd ⟨a, L, s3, s4, e, q1, q2, q3⟩ => ?_, fun δ' ⟨a, L, s3, s4, e, q1, q2, q3⟩ => ?_⟩
        · subst e
          have hlt := (List.getElem?_eq_some_iff.mp hd).1
          rw [List.drop_eq_getElem_cons hlt, (List.getElem?_eq_some_iff.mp hd).2] at q2
          have hm := List.mem_of_getElem? hd
          have ha := hi ds e1 d hm
          have bad : ∀ n y, tieR ns L d = .inl (n, y) → scanT ns L (d :: ds.drop (i + 1)) = .inl (n, y) := fun n y e => by rw [scanT, e]
          walk_at "d"
          rcases tup_cases ha with ⟨es, rfl, e5⟩ | ⟨e5, e6⟩
          · have hes := hii ds e1 es hm
            walk_at "d"
            refine br_not (br_d (fun h3 => ?_) (fun h3 => ?_))
            · obtain ⟨y1, y2, y3, rfl⟩ := three (es := es) (by omega)
              walk_at "d"
              refine we_callX ?_
              walk_at "d"
              refine ⟨[.dct (spK ns), y1], rfl, fun P Y' k1 k2 => ⟨ns, y1, rfl, hn, hes _ (by simp), ?_⟩⟩
              cases c1 : spotN ns y1 with
              | none =>
                obtain ⟨e, hY⟩ := hr _ _ (q2.trans (bad XNoPlace y1 (by unfold tieR; dsimp only; rw [c1])))
                cases e <;> exact k2 _ _ ⟨hY, trivial, rfl⟩
              | some i1 =>
                refine k1 _ _ trivial ?_
                walk_at "d"
                refine we_callX ?_
                walk_at "d"
                refine ⟨[.dct (spK ns), y2], rfl, fun P Y' k1 k2 => ⟨ns, y2, rfl, hn, hes _ (by simp), ?_⟩⟩
                cases c2 : spotN ns y2 with
                | none =>
                  obtain ⟨e, hY⟩ := hr _ _ (q2.trans (bad XNoPlace y2 (by unfold tieR; dsimp only; rw [c1]; dsimp only; rw [c2])))
                  cases e <;> exact k2 _ _ ⟨hY, trivial, rfl⟩
                | some i2 =>
                  refine k1 _ _ trivial ?_
                  have hg := tieR_go (L := L) (l := y3) c1 c2
                  walk_at "d"
                  refine use_pair_of ?_
                  walk_at "d"
                  refine ix_pN0 ?_
                  walk_at "d"
                  refine ix_pN1 ?_
                  walk_at "d"
                  refine br_d (fun h4 => ?_) (fun h4 => ?_)
                  · have h5 : i1 = i2 := by
                      have h6 : ((min i1 i2 : Nat) : Int) = ((max i1 i2 : Nat) : Int) := h4
                      omega
                    obtain ⟨e, hY⟩ := hr _ _ (q2.trans (bad XLoop (.tup [y1, y2, y3]) (by rw [hg, if_pos h5])))
                    cases e <;> (
                      walk_at "d"
                      refine w_raiseN fx.all_Loop fx.fl_Loop ?_
                      walk_at "d"
                      exact ⟨_, rfl, hY, trivial, rfl⟩)
                  have h5 : i1 ≠ i2 := fun z => h4 (by
                    subst z
                    show ((min i1 i1 : Nat) : Int) = ((max i1 i1 : Nat) : Int)
                    omega)
                  walk_at "x"
                  walk_at "d"
                  refine use_is_whole (hes y3 (by simp)).1 ?_
                  walk_at "d"
                  cases hw : wholeB y3 1 1000000 with
                  | false =>
                    obtain ⟨e, hY⟩ := hr _ _ (q2.trans (bad XNoLength y3 (tieR_len c1 c2 h5 hw)))
                    cases e <;> (
                      walk_at "d"
                      refine w_raiseN fx.all_NoLength fx.fl_NoLength ?_
                      walk_at "d"
                      exact ⟨_, rfl, hY, trivial, rfl⟩)
                  | true =>
                    obtain ⟨n, rfl, b1, b2⟩ := whole_is hw
                    rw [if_neg h5] at hg
                    dsimp only at hg
                    rw [if_pos ⟨b1, b2⟩] at hg
                    walk_at "x"
                    walk_at "d"
                    refine dInC_tI (dKeyT_pN _) ?_
                    rw [in_lnK]
                    walk_at "d"
                    refine br_d (fun h6 => ?_) (fun h6 => ?_)
                    · obtain ⟨e, hY⟩ := hr _ _ (q2.trans (bad XTied (.tup [y1, y2]) (by rw [hg, if_pos h6])))
                      cases e <;> (
                        walk_at "d"
                        refine w_raise2 fx.all_Tied fx.fl_Tied ?_
                        walk_at "d"
                        exact ⟨_, _, rfl, hY, trivial, rfl⟩)
                    · rw [if_neg h6] at hg
                      walk_at "x"
                      walk_at "t"
                      refine wg_setT ?_
                      walk_at "d"
                      refine ⟨_, _, _, rfl, dKeyT_pN _, rfl, by rw [lnK_len]; omega, fun δ3 e => ?_⟩
                      subst e
                      walk_at "k"
                      have en : (n : Int) = ((n.toNat : Nat) : Int) := by omega
                      rw [en, lnK_put h6]
                      refine ⟨_, _, _, _, rfl, by rw [List.length_append, q1]; rfl, ?_, q3.snoc (spot_lt c1) (spot_lt c2) h5 (by omega) (by omega) h6⟩
                      rw [q2, scanT, hg]
            · obtain ⟨e, hY⟩ := hr _ _ (q2.trans (bad XNoTie (.tup es) (tieR_bad fun a b l z => h3 (by cases z; rfl))))
              cases e <;> (
                walk_at "d"
                refine w_raiseN fx.all_NoTie fx.fl_NoTie ?_
                walk_at "d"
                exact ⟨_, rfl, hY, trivial, rfl⟩)
          · obtain ⟨e, hY⟩ := hr _ _ (q2.trans (bad _ _ (tieR_bad fun a b l => e5 _)))
            cases e <;> (
              refine ex_isiB e6 ?_
              walk_at "d"
              refine w_raiseN fx.all_NoTie fx.fl_NoTie ?_
              walk_at "d"
              exact ⟨_, rfl, hY, trivial, rfl⟩)
        · subst e
          rw [q2, List.drop_length] at hk
          walk_at "d"
          exact ⟨by first | trivial | exact ⟨rfl, trivial⟩, Nat.le_of_ble_eq_true rfl, _, rfl, hk L rfl a⟩
    · refine ex_isiB e2 ?_
      rw [e1] at hr
      obtain ⟨e, hY⟩ := hr XNoTies x rfl
      cases e <;> (
        walk_at "d"
        refine w_raiseN fx.all_NoTies fx.fl_NoTies ?_
        walk_at "d"
        exact ⟨_, rfl, hY, trivial, rfl⟩)

theorem ne_ns : (("names" : Str) == ("spots" : Str)) = false := by decide +kernel
theorem ne_ls : (("lengths" : Str) == ("spots" : Str)) = false := by decide +kernel
theorem ne_ln : (("lengths" : Str) == ("names" : Str)) = false := by decide +kernel
theorem ne_sn : ¬ ("spots" : Str) = ("names" : Str) := by decide +kernel
theorem ne_sl : ¬ ("spots" : Str) = ("lengths" : Str) := by decide +kernel
theorem ne_nl : ¬ ("names" : Str) = ("lengths" : Str) := by decide +kernel
theorem put_sp {x : D} : putFD ("spots" : Str) x [] = [(("spots" : Str), x)] := rfl
theorem put_nm {x y : D} : putFD ("names" : Str) y [(("spots" : Str), x)] = [(("spots" : Str), x), (("names" : Str), y)] := by
  unfold putFD
  rw [if_neg ne_sn]
  rfl
theorem put_ln {x y z : D} : putFD ("lengths" : Str) z [(("spots" : Str), x), (("names" : Str), y)] = [(("spots" : Str), x), (("names" : Str), y), (("lengths" : Str), z)] := by
  unfold putFD
  rw [if_neg ne_sl]
  unfold putFD
  rw [if_neg ne_nl]
  rfl
theorem look_sp2 {x y : D} : ([(("spots" : Str), x), (("names" : Str), y)] : List (Str × D)).lookup ("spots" : Str) = some x := by simp [List.lookup]
theorem look_nm {x y z : D} : ([(("spots" : Str), x), (("names" : Str), y), (("lengths" : Str), z)] : List (Str × D)).lookup ("names" : Str) = some y := by
  unfold List.lookup
  rw [ne_ns]
  simp [List.lookup]
theorem look_ln {x y z : D} : ([(("spots" : Str), x), (("names" : Str), y), (("lengths" : Str), z)] : List (Str × D)).lookup ("lengths" : Str) = some z := by
  unfold List.lookup
  rw [ne_ls]
  unfold List.lookup
  dsimp only
  rw [ne_ln]
  simp [List.lookup]
theorem scan_items : ∀ {ds : List D} {acc ns : List Str}, scanN acc ds = .inr ns → acc.map .str ++ ds = ns.map D.str
  | [], acc, ns, h => by cases h; simp
  | d :: ds, acc, ns, h => by
    cases d with
    | str s =>
      unfold scanN at h
      split at h
      · split at h
        · cases h
        · have := scan_items h
          rw [← this]
          simp
      · cases h
    | _ => unfold scanN at h; cases h
theorem places_seq {x : D} {ns : List Str} (h : placesR x = .inr ns) : seqD x = some (ns.map .str) := by
  unfold placesR at h
  split at h
  · rename_i ds e
    split at h
    · have := scan_items h
      rw [List.map_nil, List.nil_append] at this
      rw [e, this]
    · cases h
  · cases h
theorem ws_Web___init__ (cn0 : Cn) : WsXC (Fx := fun K cn => XF K cn ∧ cn = cn0) (S_Web___init__ cn0) t_Web___init__ [] := by
  rintro K cn Wx as Φ Y ⟨fx, rfl⟩ ⟨a, s, t, x, y, rfl, hs, ht, hx, hy, h⟩
  unfold t_Web___init__
  walk_at "d0"
  rcases hs with _ | b <;> rcases ht with _ | b'
  all_goals
    walk_at "d"
    refine w_setF ?_
    refine we_callXO ?_
    walk_at "d"
    refine ⟨_, (by first | exact toAs_d toAs_nil | exact toAs_b rfl toAs_nil), (by first | exact List.nodup_nil | (show [_].Nodup; simp)), fun P Y' k1 k2 => ⟨_, x, rfl, (by constructor), hx, ?_⟩⟩
    cases e1 : placesR x with
    | inl q =>
      obtain ⟨n, z⟩ := q
      rw [e1] at h
      obtain ⟨q1, q2, hY⟩ := h
      cases q1 <;> cases q2 <;> exact ⟨rfl, k2 _ _ ⟨hY, trivial, rfl⟩⟩
    | inr ns =>
      rw [e1] at h
      dsimp only at h
      intro b1
      refine k1 _ _ trivial ?_
      have hns := places_ok e1
      have hsq := places_seq e1
      walk_at "d"
      try walk_at "k"
      walk_at "d"
      refine ⟨0, a, cn.ad CWeb, [], rfl, rfl, fx.cls_Web, fx.na_Web_spots, Nat.le_of_ble_eq_true rfl, fun δ3 e => ?_⟩
      rw [put_sp] at e
      subst e
      try walk_at "k"
      walk_at "d"
      refine w_setF ?_
      walk_at "d"
      refine ⟨_, rfl, .inl ⟨_, hsq, fun b2 => ?_⟩⟩
      walk_at "d"
      refine ⟨0, a, cn.ad CWeb, _, rfl, rfl, fx.cls_Web, fx.na_Web_names, Nat.le_of_ble_eq_true rfl, fun δ3 e => ?_⟩
      rw [put_nm] at e
      subst e
      try walk_at "k"
      walk_at "d"
      refine w_setF ?_
      refine we_callXO ?_
      walk_at "d"
      refine we_fld ?_
      walk_at "d"
      refine ex_fld (view_bor rfl) fx.cls_Web fx.na_Web_spots look_sp2 ?_
      walk_at "d"
      refine ⟨_, (by first | exact toAs_d (toAs_d toAs_nil) | exact toAs_d (toAs_b rfl toAs_nil)), (by first | exact List.nodup_nil | (show [_].Nodup; simp)), fun P Y' k1 k2 => ⟨ns, _, y, rfl, (by constructor), hns, hy, ?_⟩⟩
      cases e2 : tiesR ns y with
      | inl q =>
        obtain ⟨n, z⟩ := q
        rw [e2] at h
        obtain ⟨q1, q2, hY⟩ := h
        cases q1 <;> cases q2 <;> exact ⟨rfl, k2 _ _ ⟨hY, trivial, rfl⟩⟩
      | inr L =>
        rw [e2] at h
        dsimp only at h
        intro b3
        refine k1 _ _ trivial ?_
        walk_at "d"
        try walk_at "k"
        walk_at "d"
        refine ⟨0, a, cn.ad CWeb, _, rfl, rfl, fx.cls_Web, fx.na_Web_lengths, Nat.le_of_ble_eq_true rfl, fun δ3 e => ?_⟩
        rw [put_ln] at e
        subst e
        exact ⟨by first | exact ⟨rfl, trivial⟩ | exact ⟨rfl, rfl, trivial⟩ | exact ⟨rfl, rfl, rfl, trivial⟩, h⟩

/-! the order of the ties -/
def iP (t : Tie) : Int × Int := ((t.1.1 : Int), (t.1.2 : Int))
theorem lnK_keys (L : List Tie) : (lnK L).map (·.1) = (L.map iP).map pk := by
  unfold lnK
  rw [List.map_map, List.map_map]
  rfl
theorem lex_anti (p q : Int × Int) (h1 : lexP p q) (h2 : lexP q p) : p = q := by
  unfold lexP at h1 h2
  exact Prod.ext (by omega) (by omega)
theorem sortT_perm (L : List Tie) : (sortT L).Perm L := List.mergeSort_perm _ _
theorem sortT_lex (L : List Tie) : ((sortT L).map iP).Pairwise lexP := by
  have h := List.pairwise_mergeSort (le := fun s t : Tie => lexN s.1 t.1) (fun a b c h1 h2 => by
    unfold lexN at *
    rw [decide_eq_true_eq] at *
    omega) (fun a b => by
    unfold lexN
    rw [Bool.or_eq_true, decide_eq_true_eq, decide_eq_true_eq]
    omega) L
  rw [List.pairwise_map]
  refine List.Pairwise.imp (fun {a b} q => ?_) h
  unfold lexN at q
  rw [decide_eq_true_eq] at q
  unfold lexP iP
  dsimp only
  omega
theorem sorted_is {L : List Tie} {qs : List (Int × Int)} (h1 : qs.Perm (L.map iP)) (h2 : qs.Pairwise lexP) : qs = (sortT L).map iP :=
  List.Perm.eq_of_pairwise (fun a b _ _ => lex_anti a b) h2 (sortT_lex L) (h1.trans ((sortT_perm L).map iP).symm)
theorem look_mem {L : List Tie} (hn : (L.map Prod.fst).Nodup) {t : Tie} (h : t ∈ L) : L.lookup t.1 = some t.2 := by
  induction L with
  | nil => cases h
  | cons u L ih =>
    obtain ⟨q, l⟩ := u
    have hn' := List.nodup_cons.mp hn
    rw [List.lookup_cons]
    rcases List.mem_cons.mp h with e | m
    · subst e; simp
    · have z : t.1 ≠ q := fun e => hn'.1 (by rw [show (q, l).1 = t.1 from e.symm]; exact List.mem_map_of_mem m)
      have z3 : (t.1 == q) = false := by simpa using z
      rw [z3]
      exact ih hn'.2 m
theorem look_perm {L M : List Tie} (h : M.Perm L) (hn : (L.map Prod.fst).Nodup) (p : Nat × Nat) : M.lookup p = L.lookup p := by
  have hn2 : (M.map Prod.fst).Nodup := (h.map Prod.fst).nodup_iff.mpr hn
  cases e : L.lookup p with
  | none =>
    cases e2 : M.lookup p with
    | none => rfl
    | some l =>
      have := look_mem hn (h.mem_iff.mp (look_ok e2))
      rw [e] at this
      cases this
  | some l => exact look_mem hn2 (h.mem_iff.mpr (look_ok e))
theorem nmAt_get {ns : List Str} {i : Nat} (h : i < ns.length) : ns[i]? = some (nmAt ns i) := by
  unfold nmAt
  rw [List.getD_eq_getElem?_getD, List.getElem?_eq_getElem h]
  rfl
def tieK (ns : List Str) (L : List Tie) : D → Option D
  | .tup [.int i, .int j] => some (.tup [.str (nmAt ns i.toNat), .str (nmAt ns j.toNat), .int (((L.lookup (i.toNat, j.toNat)).getD 0 : Nat) : Int)])
  | _ => none
theorem ties_all {ns : List Str} {L : List Tie} (hn : (L.map Prod.fst).Nodup) : (((sortT L).map iP).map pd).filterMap (tieK ns L) = tiesD ns L := by
  unfold tiesD
  rw [List.map_map, List.filterMap_map]
  have e : ∀ l : List Tie, (∀ t ∈ l, t ∈ L) → l.filterMap (tieK ns L ∘ (pd ∘ iP)) = l.map (tieD ns) := by
    intro l
    induction l with
    | nil => intro _; rfl
    | cons t l ih =>
      intro hl
      have h1 := look_mem hn (hl t List.mem_cons_self)
      have e2 : (tieK ns L ∘ (pd ∘ iP)) t = some (tieD ns t) := by
        show some (D.tup [.str (nmAt ns t.1.1), .str (nmAt ns t.1.2), .int (((L.lookup (t.1.1, t.1.2)).getD 0 : Nat) : Int)]) = _
        rw [show (t.1.1, t.1.2) = t.1 from rfl, h1]
        rfl
      rw [List.filterMap_cons, e2, ih fun t ht => hl t (List.mem_cons_of_mem _ ht)]
      rfl
  exact e _ fun t ht => (sortT_perm L).mem_iff.mp ht
theorem WbOk.tie {ns : List Str} {L : List Tie} (h : WbOk ns L) {t : Tie} (m : t ∈ L) : t.1.1 < ns.length ∧ t.1.2 < ns.length ∧ t.1.1 < t.1.2 ∧ 1 ≤ t.2 ∧ t.2 ≤ 1000000 := by
  obtain ⟨a, b, c, d⟩ := h.ok t m
  exact ⟨by omega, b, a, c, d⟩
theorem ix_nm {ns : List Str} {i : Nat} {k : R → Prop} (h1 : i < ns.length) (h : k (.d (.str (nmAt ns i)))) : dIxC (.lst (ns.map .str)) (.int (i : Nat)) k :=
  dIxC_l (atI_nat (by rw [List.getElem?_map, nmAt_get h1]; rfl)) h
theorem ws_Web_places (cn0 : Cn) : WsC (Fx := fun K cn => XF K cn ∧ cn = cn0) (S_Web_places cn0) t_Web_places [] := by
  rintro K cn as Φ ⟨fx, rfl⟩ ⟨ns, L, rfl, h⟩
  unfold t_Web_places
  walk_at "d0"
  walk_at "d"
  refine we_fld ?_
  walk_at "d"
  refine ex_fld rfl fx.cls_Web fx.na_Web_names look_nm ?_
  walk_at "d"
  refine ⟨_, rfl, .inl ⟨_, rfl, fun b => ?_⟩⟩
  exact ⟨trivial, h b⟩
theorem ws_Web_many (cn0 : Cn) : WsC (Fx := fun K cn => XF K cn ∧ cn = cn0) (S_Web_many cn0) t_Web_many [] := by
  rintro K cn as Φ ⟨fx, rfl⟩ ⟨ns, L, rfl, h⟩
  unfold t_Web_many
  walk_at "d0"
  walk_at "d"
  refine we_fld ?_
  walk_at "d"
  refine ex_fld rfl fx.cls_Web fx.na_Web_names look_nm ?_
  walk_at "d"
  rw [List.length_map]
  exact ⟨trivial, h⟩
theorem ws_Web_ties (cn0 : Cn) : WsC (Fx := fun K cn => XF K cn ∧ cn = cn0) (S_Web_ties cn0) t_Web_ties [.no, .no] := by
  rintro K cn as Φ ⟨fx, rfl⟩ ⟨ns, L, rfl, hw, h⟩
  unfold t_Web_ties
  walk_at "d0"
  walk_at "d"
  refine we_lcP (wi_any ?_)
  walk_at "d"
  refine we_fld ?_
  walk_at "d"
  refine ex_fld rfl fx.cls_Web fx.na_Web_lengths look_ln ?_
  walk_at "d"
  refine ⟨_, rfl, .inl ⟨_, _, rfl, lnK_keys L, fun b qs h1 h2 => ?_⟩⟩
  rw [sorted_is h1 h2]
  walk_at "d"
  refine ex_it rfl rfl ?_
  refine ⟨⟨trivial, trivial, trivial⟩, ?_, tieK ns L, fun i d hd => ?_, fun a => ?_⟩
  · rw [List.length_map, List.length_map, (sortT_perm L).length_eq]
    have := hw.le
    omega
  · rw [List.map_map, List.getElem?_map] at hd
    cases e : (sortT L)[i]? with
    | none => rw [e] at hd; cases hd
    | some t =>
      rw [e] at hd
      cases hd
      have m := (sortT_perm L).mem_iff.mp (List.mem_of_getElem? e)
      obtain ⟨a1, a2, a3, a4, a5⟩ := hw.tie m
      refine wgc_s2 (wgc_name (by simp) rfl (wgc_name (by simp) rfl ?_))
      walk_at "d"
      refine we_fld ?_
      walk_at "d"
      refine ex_fld rfl fx.cls_Web fx.na_Web_names look_nm ?_
      walk_at "d"
      refine ix_nm a1 ?_
      walk_at "d"
      refine we_fld ?_
      walk_at "d"
      refine ex_fld rfl fx.cls_Web fx.na_Web_names look_nm ?_
      walk_at "d"
      refine ix_nm a2 ?_
      walk_at "d"
      refine we_fld ?_
      walk_at "d"
      refine ex_fld rfl fx.cls_Web fx.na_Web_lengths look_ln ?_
      walk_at "d"
      refine dIxC_t (tk := kN t.1) rfl (by rw [lnK_get, look_mem hw.nd m]; rfl) ?_
      walk_at "d"
      show some (D.tup [.str (nmAt ns t.1.1), .str (nmAt ns t.1.2), .int (((L.lookup (t.1.1, t.1.2)).getD 0 : Nat) : Int)]) = _
      rw [show (t.1.1, t.1.2) = t.1 from rfl, look_mem hw.nd m]
      rfl
  · rw [ties_all hw.nd]
    exact ⟨trivial, h a⟩

theorem look_no {x y z : D} {m : Str} (h1 : (m == ("spots" : Str)) = false) (h2 : (m == ("names" : Str)) = false) (h3 : (m == ("lengths" : Str)) = false) : ([(("spots" : Str), x), (("names" : Str), y), (("lengths" : Str), z)] : List (Str × D)).lookup m = none := by
  unfold List.lookup
  rw [h1]
  unfold List.lookup
  dsimp only
  rw [h2]
  simp [List.lookup, h3]
theorem web_m {δ : List Sl} {C : Addr} {ns : List Str} {L : List Tie} {m : Str} {P : Prop} (h1 : (m == ("spots" : Str)) = false) (h2 : (m == ("names" : Str)) = false) (h3 : (m == ("lengths" : Str)) = false) (q : P) :
    (∃ fs, view δ (frz (.d (webD C ns L))) = some (.obj C fs) ∧ fs.lookup m = none) ∧ P := ⟨⟨_, rfl, look_no h1 h2 h3⟩, q⟩
theorem enum_strs {ns : List Str} {j : Nat} {d : D} (h : (enumD (ns.map D.str))[j]? = some d) : ∃ x, d = .tup [.int (j : Nat), .str x] ∧ ns[j]? = some x := by
  unfold enumD at h
  rw [List.getElem?_map, List.length_map] at h
  by_cases hj : j < ns.length
  · rw [List.getElem?_range hj] at h
    have e := List.getElem?_eq_getElem hj
    refine ⟨ns[j], ?_, e⟩
    rw [← Option.some.inj h]
    show D.tup [.int (j : Nat), (ns.map D.str).getD j .non] = _
    rw [List.getD_eq_getElem?_getD, List.getElem?_map, e]
    rfl
  · rw [List.getElem?_eq_none (by rw [List.length_range]; omega)] at h
    cases h
def besK (L : List Tie) (i : Nat) (q : Str × Nat) : Option D := (L.lookup (mm i q.2)).map fun l => .tup [.str q.1, .int (l : Nat)]
section
variable {P : R → List Sl → Prop} {K : PySem.W.Frag} {cn : Cn} {ns : List Str} {L : List Tie}
end
theorem nm_lay {x : Str} (h : nmOk x = true) : PyData.strOk x = true := by
  obtain ⟨_, _, h3⟩ := nm_is h
  unfold PyData.strOk
  rw [← Array.all_toList, List.all_eq_true]
  intro c hc
  have h4 := of_decide_eq_true (List.all_eq_true.mp h3 c hc)
  have h5 : ∀ c ∈ lettersL, c < 123 := by decide
  have := h5 c h4
  exact decide_eq_true (by omega)
theorem nm_at_ok {ns : List Str} (hn : NmOk ns) {i : Nat} (h : i < ns.length) : nmOk (nmAt ns i) = true := hn.ok _ (List.mem_of_getElem? (nmAt_get h))
theorem nm_inj {ns : List Str} (hn : ns.Nodup) {i j : Nat} (h1 : i < ns.length) (h2 : j < ns.length) (e : nmAt ns i = nmAt ns j) : i = j := by
  have a := posN_of hn (nmAt_get h1)
  have b := posN_of hn (nmAt_get h2)
  rw [e, b] at a
  exact (Option.some.inj a).symm
theorem spot_nm {ns : List Str} (hn : NmOk ns) {i : Nat} (h : i < ns.length) : spotN ns (.str (nmAt ns i)) = some i := posN_of hn.nd (nmAt_get h)
theorem scan_tri {ns : List Str} (hn : NmOk ns) : ∀ (T : List Tri) (acc : List Tie), (∀ q ∈ T, q.1 < ns.length ∧ q.2.1 < ns.length ∧ q.1 ≠ q.2.1 ∧ 1 ≤ q.2.2 ∧ q.2.2 ≤ 1000000) →
    (acc.map Prod.fst ++ T.map fun q => (triT q).1).Nodup → scanT ns acc (T.map (triD ns)) = .inr (acc ++ T.map triT)
  | [], acc, _, _ => by rw [List.map_nil, List.map_nil, List.append_nil]; rfl
  | q :: T, acc, ok, nd => by
    obtain ⟨h1, h2, h3, h4, h5⟩ := ok q List.mem_cons_self
    rw [List.map_cons, scanT]
    have hm : mm q.1 q.2.1 ∉ acc.map Prod.fst := fun z => (List.nodup_append.mp nd).2.2 _ z _ List.mem_cons_self rfl
    have e : tieR ns acc (triD ns q) = .inr (acc ++ [triT q]) := by
      unfold triD
      rw [tieR_go (spot_nm hn h1) (spot_nm hn h2), if_neg h3]
      dsimp only
      rw [if_pos ⟨by omega, by omega⟩, if_neg hm, Int.toNat_natCast]
      rfl
    rw [e]
    dsimp only
    rw [scan_tri hn T (acc ++ [triT q]) (fun u hu => ok u (List.mem_cons_of_mem _ hu)) (by rw [List.map_append, List.append_assoc]; exact nd), List.append_assoc]
    rfl
theorem tiesR_tri {ns : List Str} (hn : NmOk ns) {T : List Tri} (h : TriOk ns.length T) (hl : T.length ≤ 40) : tiesR ns (.lst (T.map (triD ns))) = .inr (T.map triT) := by
  show (if (T.map (triD ns)).length ≤ 40 then scanT ns [] (T.map (triD ns)) else .inl (XNoTies, .lst (T.map (triD ns)))) = _
  rw [List.length_map, if_pos hl, scan_tri hn T [] h.ok (by rw [List.map_nil, List.nil_append]; exact h.nd), List.nil_append]
theorem tiesR_triT {ns : List Str} (hn : NmOk ns) {T : List Tri} (h : TriOk ns.length T) (hl : T.length ≤ 40) : tiesR ns (.tup (T.map (triD ns))) = .inr (T.map triT) := by
  show (if (T.map (triD ns)).length ≤ 40 then scanT ns [] (T.map (triD ns)) else .inl (XNoTies, .tup (T.map (triD ns)))) = _
  rw [List.length_map, if_pos hl, scan_tri hn T [] h.ok (by rw [List.map_nil, List.nil_append]; exact h.nd), List.nil_append]
theorem wb_tri {ns : List Str} (hn : NmOk ns) {T : List Tri} (h : TriOk ns.length T) (hl : T.length ≤ 40) : WbOk ns (T.map triT) := by
  refine ⟨hn, fun t ht => ?_, by rw [List.map_map]; exact h.nd, by rw [List.length_map]; exact hl⟩
  obtain ⟨q, hq, e⟩ := List.mem_map.mp ht
  subst e
  obtain ⟨h1, h2, h3, h4, h5⟩ := h.ok q hq
  refine ⟨?_, ?_, h4, h5⟩
  · show min q.1 q.2.1 < max q.1 q.2.1
    omega
  · show max q.1 q.2.1 < ns.length
    omega
theorem any_str {x : Str} (h : nmOk x = true) : anyD (.str x) := ⟨rfl, by
  have := (nm_is h).2.1
  show x.length ≤ 16000000
  omega⟩
theorem any_names {ns : List Str} (h : NmOk ns) (t : Bool) : anyS (nsD t ns) := by
  refine ⟨?_, fun ds e d hd => ?_⟩
  · cases t <;> exact ⟨rfl, trivial⟩
  · rw [ns_seq] at e
    cases e
    obtain ⟨x, hx, e⟩ := List.mem_map.mp hd
    subst e
    exact any_str (h.ok x hx)
theorem any_ties {ns : List Str} (h : NmOk ns) {T : List Tri} (hT : ∀ q ∈ T, q.1 < ns.length ∧ q.2.1 < ns.length) : anyT (.lst (T.map (triD ns))) ∧ anyT (.tup (T.map (triD ns))) := by
  have a : ∀ d ∈ T.map (triD ns), anyD d := fun d hd => by
    obtain ⟨q, _, e⟩ := List.mem_map.mp hd
    subst e
    exact ⟨rfl, trivial⟩
  have b : ∀ es, .tup es ∈ T.map (triD ns) → ∀ d ∈ es, anyD d := fun es he d hd => by
    obtain ⟨q, hq, e⟩ := List.mem_map.mp he
    have e2 := D.tup.inj e
    subst e2
    obtain ⟨h1, h2⟩ := hT q hq
    rcases List.mem_cons.mp hd with e | hd
    · subst e; exact any_str (nm_at_ok h h1)
    rcases List.mem_cons.mp hd with e | hd
    · subst e; exact any_str (nm_at_ok h h2)
    rw [List.mem_singleton.mp hd]
    exact ⟨rfl, trivial⟩
  exact ⟨⟨⟨⟨rfl, trivial⟩, fun ds e d hd => by cases e; exact a d hd⟩, fun ds e es he d hd => by cases e; exact b es he d hd⟩,
    ⟨⟨⟨rfl, trivial⟩, fun ds e d hd => by cases e; exact a d hd⟩, fun ds e es he d hd => by cases e; exact b es he d hd⟩⟩
/-- a web is made -/
theorem use_init {cn : Cn} {ns : List Str} {T : List Tri} {t u : Bool} (hn : NmOk ns) (hT : TriOk ns.length T) (hl : T.length ≤ 40) {x : Addr} {P : R → List Sl → Prop} {Y : Nat → D → Prop} {s1 s2 : Sl} (a1 : Arg (nsD t ns) s1) (a2 : Arg (if u = true then .tup (T.map (triD ns)) else .lst (T.map (triD ns))) s2)
    (q : P (.d .non) [.own x (webD (cn.ad CWeb) ns (T.map triT)), s1, s2]) : S_Web___init__ cn [.own x (.obj (cn.ad CWeb) []), s1, s2] P Y := by
  have at2 := any_ties hn (T := T) fun q hq => ⟨(hT.ok q hq).1, (hT.ok q hq).2.1⟩
  refine ⟨x, s1, s2, _, _, rfl, a1, a2, any_names hn t, ?_, ?_⟩
  · cases u
    · exact at2.1
    · exact at2.2
  · rw [places_names hn]
    dsimp only
    have e : tiesR ns (if u = true then .tup (T.map (triD ns)) else .lst (T.map (triD ns))) = .inr (T.map triT) := by
      cases u
      · exact tiesR_tri hn hT hl
      · exact tiesR_triT hn hT hl
    rw [e]
    exact q

def rKS (ns : List Str) (R : List (Nat × Nat)) : List (Key × D) := R.map fun q => (.inr (nmAt ns q.1), .int (q.2 : Nat))
/-! what was reached -/
def putR (R : List (Nat × Nat)) (k v : Nat) : List (Nat × Nat) := if (R.any fun q => decide (q.1 = k)) = true then R.map (fun q => if q.1 = k then (q.1, v) else q) else R ++ [(k, v)]
theorem lookR_none {R : List (Nat × Nat)} {k : Nat} : R.lookup k = none ↔ k ∉ R.map Prod.fst := by
  induction R with
  | nil => simp
  | cons q R ih =>
    obtain ⟨a, b⟩ := q
    rw [List.lookup_cons]
    by_cases z : k = a
    · subst z; simp
    · rw [show (k == a) = false by simpa using z, List.map_cons, List.mem_cons]
      dsimp only
      rw [ih]
      simp [z]
theorem lookR_of {R : List (Nat × Nat)} {k v : Nat} (hn : (R.map Prod.fst).Nodup) (h : (k, v) ∈ R) : R.lookup k = some v := by
  induction R with
  | nil => cases h
  | cons q R ih =>
    obtain ⟨a, b⟩ := q
    have hn' := List.nodup_cons.mp hn
    rw [List.lookup_cons]
    rcases List.mem_cons.mp h with e | m
    · cases e; simp
    · have z : ¬ k = a := fun e => hn'.1 (by rw [show (a, b).1 = k from e.symm]; exact List.mem_map_of_mem m)
      rw [show (k == a) = false by simpa using z]
      exact ih hn'.2 m
theorem any_key {R : List (Nat × Nat)} {k : Nat} : (R.any fun q => decide (q.1 = k)) = true ↔ k ∈ R.map Prod.fst := by
  rw [List.any_eq_true, List.mem_map]
  constructor
  · rintro ⟨q, hq, e⟩; exact ⟨q, hq, of_decide_eq_true e⟩
  · rintro ⟨q, hq, e⟩; exact ⟨q, hq, decide_eq_true e⟩
theorem putR_look (R : List (Nat × Nat)) (k v j : Nat) : (putR R k v).lookup j = if j = k then some v else R.lookup j := by
  unfold putR
  by_cases h : (R.any fun q => decide (q.1 = k)) = true
  · rw [if_pos h]
    have hk := any_key.mp h
    clear h
    induction R with
    | nil => simp at hk
    | cons q R ih =>
      obtain ⟨a, b⟩ := q
      rw [List.map_cons, List.lookup_cons]
      by_cases z : a = k
      · subst z
        rw [if_pos rfl]
        by_cases y : j = a
        · subst y; simp
        · rw [if_neg y, List.lookup_cons, show (j == a) = false by simpa using y]
          dsimp only
          -- the others stay
          have go : ∀ R : List (Nat × Nat), (R.map fun q => if q.1 = a then (q.1, v) else q).lookup j = R.lookup j := by
            intro R
            induction R with
            | nil => rfl
            | cons q R ih2 =>
              obtain ⟨c, d⟩ := q
              rw [List.map_cons]
              by_cases w : c = a
              · subst w
                rw [if_pos rfl, List.lookup_cons, List.lookup_cons, show (j == c) = false by simpa using y]
                exact ih2
              · rw [if_neg w, List.lookup_cons, List.lookup_cons, ih2]
          exact go R
      · rw [if_neg z]
        have hk' : k ∈ R.map Prod.fst := by
          rcases List.mem_cons.mp hk with e | m
          · exact absurd e.symm z
          · exact m
        rw [List.lookup_cons, ih hk']
        by_cases y : j = a
        · subst y
          simp [z]
        · rw [show (j == a) = false by simpa using y]
  · rw [if_neg h]
    have hk : k ∉ R.map Prod.fst := fun z => h (any_key.mpr z)
    rw [List.lookup_append]
    by_cases y : j = k
    · subst y
      rw [if_pos rfl, lookR_none.mpr hk]
      simp
    · rw [if_neg y]
      cases e : R.lookup j with
      | none =>
        have yb : (j == k) = false := by simpa using y
        simp [List.lookup, yb]
      | some x => rfl
theorem putR_keys (R : List (Nat × Nat)) (k v : Nat) : (putR R k v).map Prod.fst = if k ∈ R.map Prod.fst then R.map Prod.fst else R.map Prod.fst ++ [k] := by
  unfold putR
  by_cases h : (R.any fun q => decide (q.1 = k)) = true
  · rw [if_pos h, if_pos (any_key.mp h), List.map_map]
    refine List.map_congr_left fun q _ => ?_
    show (if q.1 = k then (q.1, v) else q).1 = q.1
    split <;> rfl
  · rw [if_neg h, if_neg (fun z => h (any_key.mpr z)), List.map_append]
    rfl
theorem putR_nd {R : List (Nat × Nat)} (k v : Nat) (h : (R.map Prod.fst).Nodup) : ((putR R k v).map Prod.fst).Nodup := by
  rw [putR_keys]
  split
  · exact h
  · rename_i hk
    exact List.nodup_append.mpr ⟨h, by simp, fun a ha b hb e => hk (by rw [← List.mem_singleton.mp hb, ← e]; exact ha)⟩
theorem rKS_get {ns : List Str} (hn : ns.Nodup) {R : List (Nat × Nat)} (hR : ∀ q ∈ R, q.1 < ns.length) {k : Nat} (hk : k < ns.length) : DL.getD (rKS ns R) (.inr (nmAt ns k)) = (R.lookup k).map fun (v : Nat) => D.int (v : Nat) := by
  induction R with
  | nil => rfl
  | cons q R ih =>
    have ih := ih fun u hu => hR u (List.mem_cons_of_mem _ hu)
    obtain ⟨a, b⟩ := q
    unfold DL.getD rKS at ih ⊢
    rw [List.map_cons, List.find?_cons, List.lookup_cons]
    by_cases z : k = a
    · subst z; simp
    · have z2 : ¬ (Sum.inr (nmAt ns a) : Key) = Sum.inr (nmAt ns k) := fun e => z (nm_inj hn hk (hR (a, b) List.mem_cons_self) (Sum.inr.inj e).symm)
      rw [show decide ((Sum.inr (nmAt ns a) : Key) = Sum.inr (nmAt ns k)) = false from decide_eq_false z2, show (k == a) = false by simpa using z]
      exact ih
theorem rKS_len (ns : List Str) (R : List (Nat × Nat)) : (rKS ns R).length = R.length := by unfold rKS; rw [List.length_map]
theorem rKS_put {ns : List Str} (hn : ns.Nodup) {R : List (Nat × Nat)} (hR : ∀ q ∈ R, q.1 < ns.length) {k : Nat} (hk : k < ns.length) (v : Nat) : putD (rKS ns R) (.inr (nmAt ns k)) (.int (v : Nat)) = rKS ns (putR R k v) := by
  have inj : ∀ q ∈ R, ((Sum.inr (nmAt ns q.1) : Key) = Sum.inr (nmAt ns k)) ↔ q.1 = k := fun q hq => ⟨fun e => nm_inj hn (hR q hq) hk (Sum.inr.inj e), fun e => by rw [e]⟩
  have ha : ((rKS ns R).any fun kv => decide (kv.1 = (.inr (nmAt ns k) : Key))) = (R.any fun q => decide (q.1 = k)) := by
    unfold rKS
    rw [List.any_map]
    clear hR
    induction R with
    | nil => rfl
    | cons q R ih =>
      rw [List.any_cons, List.any_cons, ih fun u hu => inj u (List.mem_cons_of_mem _ hu)]
      congr 1
      have := inj q List.mem_cons_self
      simp only [Function.comp, this]
  unfold putD putR
  rw [ha]
  split
  · unfold rKS
    rw [List.map_map, List.map_map]
    refine List.map_congr_left fun q hq => ?_
    have := inj q hq
    simp only [Function.comp]
    by_cases z : q.1 = k
    · rw [if_pos (this.mpr z), if_pos z]
    · rw [if_neg (fun e => z (this.mp e)), if_neg z]
  · unfold rKS
    rw [List.map_append]
    rfl
/-! ways over places of S, and the least of them -/
theorem mm_comm3 (i j : Nat) : mm i j = mm j i := by unfold mm; rw [Nat.min_comm, Nat.max_comm]
theorem WkS.mono {L : List Tie} {S T : List Nat} {i j d : Nat} (h : WkS L S i j d) (hs : ∀ k ∈ S, k ∈ T) : WkS L T i j d := by
  induction h with
  | refl => exact .refl
  | step _ hk hl ih => exact .step ih (hs _ hk) hl
theorem WkS.trans {L : List Tie} {S : List Nat} {i j k d e : Nat} (h : WkS L S i j d) (h2 : WkS L S j k e) : WkS L S i k (d + e) := by
  induction h2 with
  | refl => exact h
  | step _ hk hl ih => rw [← Nat.add_assoc]; exact .step ih hk hl
theorem WkS.mem {L : List Tie} {S : List Nat} {i j d : Nat} (h : WkS L S i j d) : j ∈ i :: S := by
  cases h with
  | refl => exact List.mem_cons_self
  | step _ hk _ => exact List.mem_cons_of_mem _ hk
theorem Lw.mono {L : List Tie} {S T : List Nat} {i j d : Nat} (h : Lw L S i j d) (hs : ∀ k ∈ S, k ∈ T) : Lw L T i j d := by
  obtain ⟨k, e, l, a, b, c⟩ := h
  exact ⟨k, e, l, a.mono hs, b, c⟩
theorem Lw.one {L : List Tie} {S : List Nat} {i j l : Nat} (h : L.lookup (mm i j) = some l) : Lw L S i j l := ⟨i, 0, l, .refl, h, by omega⟩
theorem Lw.wk {L : List Tie} {S : List Nat} {i j d : Nat} (h : Lw L S i j d) (hj : j ∈ S) : WkS L S i j d := by
  obtain ⟨k, e, l, a, b, c⟩ := h
  subst c
  exact .step a hj b
theorem lw_rev {L : List Tie} {S : List Nat} {i k d : Nat} (h : WkS L S i k d) : ∀ {j e : Nat}, Lw L S j k e → Lw L S j i (e + d) := by
  induction h with
  | refl => intro j e h; exact h
  | step _ hk hl ih =>
    intro j e h
    have w := h.wk hk
    rename_i u v d l _
    have h2 : Lw L S j u (e + l) := ⟨v, e, l, w, by rw [mm_comm3]; exact hl, rfl⟩
    rw [show e + (d + l) = e + l + d by omega]
    exact ih h2
theorem Lw.symm {L : List Tie} {S : List Nat} {i j d : Nat} (h : Lw L S i j d) : Lw L S j i d := by
  obtain ⟨k, e, l, a, b, c⟩ := h
  subst c
  rw [Nat.add_comm]
  exact lw_rev a (Lw.one (by rw [mm_comm3]; exact b))
theorem wk_cut {L : List Tie} {S T : List Nat} {v i k d : Nat} (hT : ∀ k, k ∈ T ↔ k ∈ S ∨ k = v) (h : WkS L T i k d) : WkS L S i k d ∨ ∃ d1 d2, Lw L S i v d1 ∧ WkS L S v k d2 ∧ d1 + d2 ≤ d := by
  induction h with
  | refl => exact .inl .refl
  | step _ hk hl ih =>
    rename_i u w d l _
    rcases ih with a | ⟨d1, d2, a, b, c⟩
    · rcases (hT w).mp hk with q | q
      · exact .inl (.step a q hl)
      · subst q
        exact .inr ⟨d + l, 0, ⟨u, d, l, a, hl, rfl⟩, .refl, by omega⟩
    · rcases (hT w).mp hk with q | q
      · exact .inr ⟨d1, d2 + l, a, .step b q hl, by omega⟩
      · subst q
        exact .inr ⟨d1, 0, a, .refl, by omega⟩
theorem lw_cut {L : List Tie} {S T : List Nat} {v i j d : Nat} (hT : ∀ k, k ∈ T ↔ k ∈ S ∨ k = v) (h : Lw L T i j d) : Lw L S i j d ∨ ∃ d1 d2, Lw L S v i d1 ∧ Lw L S v j d2 ∧ d1 + d2 ≤ d := by
  obtain ⟨k, e, l, a, b, c⟩ := h
  rcases wk_cut hT a with q | ⟨d1, d2, q1, q2, q3⟩
  · exact .inl ⟨k, e, l, q, b, c⟩
  · exact .inr ⟨d1, d2 + l, q1.symm, ⟨k, d2, l, q2, b, rfl⟩, by omega⟩
theorem lw_join {L : List Tie} {S T : List Nat} {v i j d1 d2 : Nat} (hT : ∀ k, k ∈ T ↔ k ∈ S ∨ k = v) (h1 : Lw L S v i d1) (h2 : Lw L S v j d2) : Lw L T i j (d1 + d2) := by
  have hs : ∀ k ∈ S, k ∈ T := fun k hk => (hT k).mpr (.inl hk)
  have a : WkS L T i v d1 := (h1.symm.mono hs).wk ((hT v).mpr (.inr rfl))
  obtain ⟨k, e, l, b, c, q⟩ := h2.mono hs
  exact ⟨k, d1 + e, l, a.trans b, c, by omega⟩
theorem least_uniq {P : Nat → Prop} {o o' : Option Nat} (h : Least P o) (h' : Least P o') : o = o' := by
  cases o with
  | none =>
    cases o' with
    | none => rfl
    | some d => exact absurd h'.1 (h d)
  | some d =>
    cases o' with
    | none => exact absurd h.1 (h' d)
    | some e =>
      have a := h.2 e h'.1
      have b := h'.2 d h.1
      rw [Nat.le_antisymm a b]
theorem least_is (P : Nat → Prop) : Least P (leastN P) := Classical.choose_spec (least_ex P)
theorem least_eq {P : Nat → Prop} {o : Option Nat} (h : Least P o) : leastN P = o := least_uniq (least_is P) h
theorem least_of {P : Nat → Prop} {d : Nat} (h : P d) : ∃ e, leastN P = some e ∧ e ≤ d := by
  have l := least_is P
  cases q : leastN P with
  | none => rw [q] at l; exact absurd h (l d)
  | some e => rw [q] at l; exact ⟨e, rfl, l.2 d h⟩
theorem least_at {P : Nat → Prop} {d : Nat} (h : leastN P = some d) : P d ∧ ∀ e, P e → d ≤ e := by
  have l := least_is P
  rw [h] at l
  exact l
theorem least_no {P : Nat → Prop} (h : leastN P = none) (d : Nat) : ¬ P d := by
  have l := least_is P
  rw [h] at l
  exact l d
theorem least_cong {P Q : Nat → Prop} (h : ∀ d, P d ↔ Q d) : leastN P = leastN Q := by
  have e : P = Q := funext fun d => propext (h d)
  rw [e]
/-- one place more -/
def rlx (o o1 o2 : Option Nat) : Option Nat := match o1, o2 with
  | some d1, some d2 => match o with
    | none => some (d1 + d2)
    | some d => if d1 + d2 < d then some (d1 + d2) else some d
  | _, _ => o
theorem least_rlx {L : List Tie} {S T : List Nat} {v i j : Nat} (hT : ∀ k, k ∈ T ↔ k ∈ S ∨ k = v) : leastN (Lw L T i j) = rlx (leastN (Lw L S i j)) (leastN (Lw L S v i)) (leastN (Lw L S v j)) := by
  have hs : ∀ k ∈ S, k ∈ T := fun k hk => (hT k).mpr (.inl hk)
  refine least_eq ?_
  unfold rlx
  cases e1 : leastN (Lw L S v i) with
  | none =>
    have n1 := least_no e1
    dsimp only
    cases e : leastN (Lw L S i j) with
    | none =>
      have n := least_no e
      intro d w
      rcases lw_cut hT w with a | ⟨d1, d2, a, _, _⟩
      · exact n d a
      · exact n1 d1 a
    | some d =>
      obtain ⟨a, b⟩ := least_at e
      refine ⟨a.mono hs, fun x w => ?_⟩
      rcases lw_cut hT w with q | ⟨d1, d2, q, _, _⟩
      · exact b x q
      · exact absurd q (n1 d1)
  | some d1 =>
    obtain ⟨a1, b1⟩ := least_at e1
    cases e2 : leastN (Lw L S v j) with
    | none =>
      have n2 := least_no e2
      dsimp only
      cases e : leastN (Lw L S i j) with
      | none =>
        have n := least_no e
        intro d w
        rcases lw_cut hT w with a | ⟨_, d2, _, a, _⟩
        · exact n d a
        · exact n2 d2 a
      | some d =>
        obtain ⟨a, b⟩ := least_at e
        refine ⟨a.mono hs, fun x w => ?_⟩
        rcases lw_cut hT w with q | ⟨_, d2, _, q, _⟩
        · exact b x q
        · exact absurd q (n2 d2)
    | some d2 =>
      obtain ⟨a2, b2⟩ := least_at e2
      have hj := lw_join hT a1 a2
      dsimp only
      cases e : leastN (Lw L S i j) with
      | none =>
        have n := least_no e
        refine ⟨hj, fun x w => ?_⟩
        rcases lw_cut hT w with q | ⟨x1, x2, q1, q2, q3⟩
        · exact absurd q (n x)
        · have := b1 x1 q1; have := b2 x2 q2; omega
      | some d =>
        obtain ⟨a, b⟩ := least_at e
        dsimp only
        have low : ∀ x, Lw L T i j x → d ≤ x ∨ d1 + d2 ≤ x := fun x w => by
          rcases lw_cut hT w with q | ⟨x1, x2, q1, q2, q3⟩
          · exact .inl (b x q)
          · have := b1 x1 q1; have := b2 x2 q2; omega
        split
        · exact ⟨hj, fun x w => by rcases low x w with q | q <;> omega⟩
        · exact ⟨a.mono hs, fun x w => by rcases low x w with q | q <;> omega⟩
/-! how long the least one is -/
open Classical in
noncomputable def cntN (L : List Tie) (S : List Nat) (i d : Nat) : Nat := ((i :: S).filter fun y => decide (∃ e, WkS L S i y e ∧ e < d)).length
theorem wk_pred {L : List Tie} {S : List Nat} {i x d : Nat} (hL : ∀ t ∈ L, 1 ≤ t.2 ∧ t.2 ≤ 1000000) (h : Least (WkS L S i x) (some d)) : (x = i ∧ d = 0) ∨ ∃ j d' l, x ∈ S ∧ Least (WkS L S i j) (some d') ∧ d = d' + l ∧ L.lookup (mm j x) = some l ∧ 1 ≤ l ∧ l ≤ 1000000 := by
  obtain ⟨w, lo⟩ := h
  cases w with
  | refl => exact .inl ⟨rfl, rfl⟩
  | step w hk hl =>
    rename_i j d' l
    have b := hL _ (look_ok hl)
    exact .inr ⟨j, d', l, hk, ⟨w, fun e he => by have := lo (e + l) (.step he hk hl); omega⟩, rfl, hl, b.1, b.2⟩
theorem filter_lt {α : Type} {p q : α → Bool} : ∀ {l : List α} {x : α}, (∀ y, p y = true → q y = true) → x ∈ l → p x = false → q x = true → (l.filter p).length < (l.filter q).length
  | [], x, _, h, _, _ => by cases h
  | a :: l, x, hpq, hx, h1, h2 => by
    have le : ∀ l : List α, (l.filter p).length ≤ (l.filter q).length := fun l => by
      induction l with
      | nil => exact Nat.le_refl _
      | cons b l ih =>
        rw [List.filter_cons, List.filter_cons]
        by_cases c : p b = true
        · rw [if_pos c, if_pos (hpq b c)]
          simp only [List.length_cons]
          omega
        · rw [if_neg c]
          split
          · simp only [List.length_cons]; omega
          · exact ih
    rw [List.filter_cons, List.filter_cons]
    rcases List.mem_cons.mp hx with q1 | q1
    · subst q1
      rw [if_neg (by rw [h1]; exact Bool.false_ne_true), if_pos h2]
      have := le l
      simp only [List.length_cons]
      omega
    · have ih := filter_lt hpq q1 h1 h2
      by_cases c : p a = true
      · rw [if_pos c, if_pos (hpq a c)]
        simp only [List.length_cons]
        omega
      · rw [if_neg c]
        split
        · simp only [List.length_cons]; omega
        · exact ih
theorem filter_less {α : Type} {q : α → Bool} {l : List α} {x : α} (hx : x ∈ l) (h : q x = false) : (l.filter q).length < l.length := by
  have := filter_lt (p := q) (q := fun _ => true) (l := l) (x := x) (fun _ _ => rfl) hx h rfl
  rw [List.filter_eq_self.mpr (fun _ _ => rfl)] at this
  exact this
open Classical in
theorem cnt_lt {L : List Tie} {S : List Nat} {i j d d' : Nat} (h : Least (WkS L S i j) (some d')) (hd : d' < d) : cntN L S i d' < cntN L S i d := by
  unfold cntN
  refine filter_lt (x := j) (fun y hy => ?_) h.1.mem ?_ ?_
  · obtain ⟨e, a, b⟩ := of_decide_eq_true hy
    exact decide_eq_true ⟨e, a, by omega⟩
  · exact decide_eq_false fun ⟨e, a, b⟩ => by have := h.2 e a; omega
  · exact decide_eq_true ⟨d', h.1, hd⟩
open Classical in
theorem cnt_le {L : List Tie} {S : List Nat} {i x d : Nat} (h : Least (WkS L S i x) (some d)) : cntN L S i d ≤ S.length := by
  unfold cntN
  have := filter_less (q := fun y => decide (∃ e, WkS L S i y e ∧ e < d)) h.1.mem (decide_eq_false fun ⟨e, a, b⟩ => by have := h.2 e a; omega)
  simp only [List.length_cons] at this
  omega
theorem wk_small {L : List Tie} {S : List Nat} {i : Nat} (hL : ∀ t ∈ L, 1 ≤ t.2 ∧ t.2 ≤ 1000000) : ∀ {d x : Nat}, Least (WkS L S i x) (some d) → d ≤ 1000000 * cntN L S i d := by
  intro d
  induction d using Nat.strongRecOn with
  | _ d ih =>
    intro x h
    rcases wk_pred hL h with ⟨_, e⟩ | ⟨j, d', l, _, a, e, _, l1, l2⟩
    · omega
    · have h1 := ih d' (by omega) a
      have h2 := cnt_lt a (show d' < d by omega)
      omega
theorem wk_least {L : List Tie} {S : List Nat} {i x d : Nat} (h : WkS L S i x d) : ∃ e, Least (WkS L S i x) (some e) ∧ e ≤ d := by
  obtain ⟨e, a, b⟩ := least_of h
  exact ⟨e, least_at a, b⟩
theorem lw_small {L : List Tie} {S : List Nat} {i j d : Nat} (hL : ∀ t ∈ L, 1 ≤ t.2 ∧ t.2 ≤ 1000000) (h : leastN (Lw L S i j) = some d) : d ≤ 1000000 * (S.length + 1) := by
  obtain ⟨⟨k, e, l, a, b, c⟩, lo⟩ := least_at h
  obtain ⟨e', a', _⟩ := wk_least a
  have h1 := lo (e' + l) ⟨k, e', l, a'.1, b, rfl⟩
  have h2 := wk_small hL a'
  have h3 := cnt_le a'
  have h4 := (hL _ (look_ok b)).2
  have h5 : 1000000 * cntN L S i e' ≤ 1000000 * S.length := Nat.mul_le_mul_left _ h3
  have h6 : 1000000 * (S.length + 1) = 1000000 * S.length + 1000000 := by omega
  omega

def strL (L : List Nat) : Str := ⟨L.toArray⟩
theorem tl_strL (L : List Nat) : tl (strL L) = L := rfl
theorem len_strL (L : List Nat) : (strL L).length = L.length := len_tl _
theorem join_lw (L : List Nat) : Str.join (Str.ofString "") (L.map fun ch => (⟨#[ch]⟩ : Str)) = strL L := by
  refine str_eq ?_
  show tl _ = L
  rw [tl_join, List.map_map, show tl (Str.ofString "") = [] from by decide +kernel]
  show joinL [] (L.map fun ch => [ch]) = _
  induction L with
  | nil => rfl
  | cons c L ih =>
    cases L with
    | nil => rfl
    | cons d L =>
      show [c] ++ [] ++ joinL [] ((d :: L).map fun ch => [ch]) = _
      rw [ih]
      rfl
/-! names -/
theorem let_at : ∀ i : Fin 26, lettersL[i.1]? = some (97 + i.1) := by decide
theorem let_in {c : Nat} (h1 : 97 ≤ c) (h2 : c < 123) : c ∈ lettersL := by
  have e := let_at ⟨c - 97, by omega⟩
  have e2 : 97 + (c - 97) = c := by omega
  rw [show (⟨c - 97, by omega⟩ : Fin 26).1 = c - 97 from rfl, e2] at e
  exact List.mem_of_getElem? e
def W16 : List Str := ["places", "far", "tie", "web", "a", "aa", "ab", "b", "ba", "put", "cut", "row", "rows", "order", "text", "x"]
theorem nodup_range {n : Nat} {g : Nat → Str} (h : ∀ i j, i < j → j < n → g i ≠ g j) : ((List.range n).map g).Nodup := by
  rw [List.nodup_iff_pairwise_ne, List.pairwise_map, List.pairwise_iff_getElem]
  intro i j hi hj hij
  simp only [List.length_range] at hi hj
  rw [List.getElem_range, List.getElem_range]
  exact h i j hij hj
def intK (g : Nat → Str) : D → Option D
  | .int i => some (.str (g i.toNat))
  | _ => none
def n0 (f k : Nat) : Str := W16.getD ((f + 5 * k) % 16) ""
theorem nm_of {L : List Nat} (h1 : 1 ≤ L.length) (h2 : L.length ≤ 6) (h : ∀ c ∈ L, c ∈ lettersL) : nmOk (strL L) = true := by
  unfold nmOk
  rw [len_strL, decide_eq_true h1, decide_eq_true h2]
  show (L.all fun ch => decide (ch ∈ lettersL)) = true
  rw [List.all_eq_true]
  exact fun c hc => decide_eq_true (h c hc)
theorem strL_inj {L M : List Nat} (h : strL L = strL M) : L = M := by
  have e : tl (strL L) = tl (strL M) := by rw [h]
  exact e
def n1 (B : List Nat) (f k : Nat) : Str := strL (B.take (k % 6) ++ [97 + (f + 7 * k) % 26])
def n2 (B : List Nat) (f s a k : Nat) : Str := strL (B.take a ++ [97 + (f + 7 * k) % 26] ++ (B.take s).drop a)
theorem letter_ix {r : Int} (h1 : 0 ≤ r) (h2 : r < 26) : atI (Str.ofString "abcdefghijklmnopqrstuvwxyz").cps.toList r = some (97 + r.toNat) := by
  rw [ltr]
  obtain ⟨k, rfl⟩ := Int.eq_ofNat_of_zero_le h1
  have e := let_at ⟨k, by omega⟩
  exact atI_nat e
theorem ltr16 : (Str.ofString "abcdefghijklmnopqrstuvwxyz").length ≤ 16000000 := by decide +kernel
theorem app_one (L : List Nat) (c : Nat) : strL L ++ (⟨#[c]⟩ : Str) = strL (L ++ [c]) := str_eq (by show tl _ = _; rw [tl_append]; rfl)
theorem app_sL (L M : List Nat) : strL L ++ strL M = strL (L ++ M) := str_eq (by
  show tl _ = tl _
  rw [tl_append, tl_strL, tl_strL, tl_strL])
def flN (f i : Nat) : Nat := 97 + (f + 11 * i) % 26
def NLk (f : Nat) (Ls : List (List Nat)) : Prop := ∀ i L, Ls[i]? = some L → (1 ≤ L.length ∧ L.length ≤ 6 ∧ ∀ c ∈ L, c ∈ lettersL) ∧ ((∃ t, L = flN f i :: t) ∨ (i % 2 = 1 ∧ ∃ M c, Ls[i - 1]? = some M ∧ L = M ++ [c]))
theorem nl_nil (f : Nat) : NLk f [] := fun i L h => by cases h
theorem nl_app {f : Nat} {Ls : List (List Nat)} {T : List Nat} (h : NLk f Ls) (h1 : T.length ≤ 5) (h2 : ∀ c ∈ T, c ∈ lettersL) : NLk f (Ls ++ [flN f Ls.length :: T]) := by
  intro i L hi
  by_cases q : i < Ls.length
  · rw [List.getElem?_append_left q] at hi
    obtain ⟨a, b⟩ := h i L hi
    refine ⟨a, b.imp id ?_⟩
    rintro ⟨o, M, c, hM, e⟩
    exact ⟨o, M, c, by rw [List.getElem?_append_left (by omega)]; exact hM, e⟩
  · have hl := (List.getElem?_eq_some_iff.mp hi).1
    rw [List.length_append, List.length_singleton] at hl
    have e : i = Ls.length := by omega
    subst e
    rw [List.getElem?_append_right (Nat.le_refl _), Nat.sub_self] at hi
    have hL : L = flN f Ls.length :: T := (Option.some.inj hi).symm
    subst hL
    refine ⟨⟨by simp, by rw [List.length_cons]; omega, fun c hc => ?_⟩, .inl ⟨T, rfl⟩⟩
    rcases List.mem_cons.mp hc with z | z
    · rw [z]; unfold flN; exact let_in (by omega) (by omega)
    · exact h2 c z
theorem nl_ext {f c : Nat} {Ls : List (List Nat)} {X M : List Nat} (h : NLk f (Ls ++ [X])) (ho : Ls.length % 2 = 1) (hM : Ls[Ls.length - 1]? = some M) (hl : M.length < 6) (hc : c ∈ lettersL) : NLk f (Ls ++ [M ++ [c]]) := by
  intro i L hi
  by_cases q : i < Ls.length
  · rw [List.getElem?_append_left q] at hi
    obtain ⟨a, b⟩ := h i L (by rw [List.getElem?_append_left q]; exact hi)
    refine ⟨a, b.imp id ?_⟩
    rintro ⟨o, M', c', hM', e⟩
    rw [List.getElem?_append_left (by omega)] at hM'
    exact ⟨o, M', c', by rw [List.getElem?_append_left (by omega)]; exact hM', e⟩
  · have hll := (List.getElem?_eq_some_iff.mp hi).1
    rw [List.length_append, List.length_singleton] at hll
    have e : i = Ls.length := by omega
    subst e
    rw [List.getElem?_append_right (Nat.le_refl _), Nat.sub_self] at hi
    have hL : L = M ++ [c] := (Option.some.inj hi).symm
    subst hL
    have hp := List.getElem?_eq_some_iff.mp hM
    obtain ⟨a, _⟩ := h (Ls.length - 1) M (by rw [List.getElem?_append_left (by omega)]; exact hM)
    refine ⟨⟨by rw [List.length_append, List.length_singleton]; omega, by rw [List.length_append, List.length_singleton]; omega, fun d hd => ?_⟩, .inr ⟨ho, M, c, by rw [List.getElem?_append_left (by omega)]; exact hM, rfl⟩⟩
    rcases List.mem_append.mp hd with z | z
    · exact a.2.2 d z
    · rw [List.mem_singleton.mp z]; exact hc
theorem nl_head {f : Nat} {Ls : List (List Nat)} (h : NLk f Ls) {i : Nat} {L : List Nat} (hi : Ls[i]? = some L) : (∃ t, L = flN f i :: t) ∨ (i % 2 = 1 ∧ ∃ t c, Ls[i - 1]? = some (flN f (i - 1) :: t) ∧ L = flN f (i - 1) :: t ++ [c]) := by
  refine (h i L hi).2.imp id ?_
  rintro ⟨o, M, c, hM, e⟩
  rcases (h (i - 1) M hM).2 with ⟨t, e2⟩ | ⟨o2, _⟩
  · exact ⟨o, t, c, by rw [← e2]; exact hM, by rw [← e2]; exact e⟩
  · omega
theorem nl_ok {f : Nat} {Ls : List (List Nat)} (h : NLk f Ls) (hl : Ls.length ≤ 12) : Nms Ls.length (Ls.map strL) := by
  refine ⟨by rw [List.length_map], ?_, fun x hx => ?_⟩
  · rw [List.nodup_iff_pairwise_ne, List.pairwise_map, List.pairwise_iff_getElem]
    intro i j hi hj hij e
    have e := strL_inj e
    have a := nl_head h (List.getElem?_eq_getElem hi)
    have b := nl_head h (List.getElem?_eq_getElem hj)
    have fl : ∀ {u v : Nat}, u < 12 → v < 12 → flN f u = flN f v → u = v := fun {u v} hu hv e => by unfold flN at e; omega
    rcases a with ⟨t, ea⟩ | ⟨oa, t, c, ma, ea⟩
    · rcases b with ⟨t2, eb⟩ | ⟨ob, t2, c2, mb, eb⟩
      · rw [ea, eb] at e
        have := fl (by omega) (by omega) (List.cons.inj e).1
        omega
      · have e0 := e
        rw [ea, eb, List.cons_append] at e
        have := fl (u := i) (v := j - 1) (by omega) (by omega) (List.cons.inj e).1
        subst this
        rw [List.getElem?_eq_getElem hi] at mb
        have mb := Option.some.inj mb
        rw [mb, eb] at e0
        have := congrArg List.length e0
        rw [List.length_append, List.length_singleton] at this
        omega
    · rcases b with ⟨t2, eb⟩ | ⟨ob, t2, c2, mb, eb⟩
      · rw [ea, eb, List.cons_append] at e
        have := fl (u := i - 1) (v := j) (by omega) (by omega) (List.cons.inj e).1
        omega
      · rw [ea, eb, List.cons_append, List.cons_append] at e
        have := fl (u := i - 1) (v := j - 1) (by omega) (by omega) (List.cons.inj e).1
        omega
  · obtain ⟨L, hL, e⟩ := List.mem_map.mp hx
    obtain ⟨i, hi, e2⟩ := List.mem_iff_getElem.mp hL
    obtain ⟨⟨a, b, c⟩, _⟩ := h i L (by rw [List.getElem?_eq_getElem hi, e2])
    rw [← e]
    exact nm_of a b c
def lsD (Ls : List (List Nat)) : List D := Ls.map fun L => .str (strL L)
theorem ixN_nat {n j : Nat} (h : j < n) : ixN n (j : Int) = some j := by
  unfold ixN
  rw [if_pos (by omega), if_pos (by omega), Int.toNat_natCast]
theorem ws_l_names : WsC (Fx := XF) S_l_names t_l_names [.no, .no, .no, .no, .no, .no, .no] := by
  rintro K cn as Φ fx ⟨b, x, n, M, rfl, hb, hn, hm1, hm2, h⟩
  unfold t_l_names
  walk_at "d0"
  walk_at "d"
  refine use_take hb (by omega) (by omega) (by omega) fun r1 x1 g1 g2 hb1 => ?_
  walk_at "d"
  refine use_take hb1 (by omega) (by omega) (by omega) fun r2 x2 g3 g4 hb2 => ?_
  obtain ⟨f, rfl⟩ := Int.eq_ofNat_of_zero_le g3
  walk_at "d"
  rename_i bn
  refine w_for (wi_range1 ?_)
  walk_at "d"
  refine ⟨_, rfl, by omega, by omega, ?_⟩
  refine ⟨fun j δ' => ∃ (x3 : D) (Ls : List (List Nat)) (s6 s7 : Sl), BoxD (n + 2 + 7 * j) x3 ∧ NLk f Ls ∧ Ls.length = j ∧ δ' = [.own b x3, .d (.int (M : Nat)), .d (.str (Str.ofString "abcdefghijklmnopqrstuvwxyz")), .d (.bl (decide (r1 = 0))), .d (.int (f : Nat)), .own bn (.lst (lsD Ls)), s6, s7, .no], ⟨x2, [], _, _, hb2, nl_nil f, rfl, rfl⟩, fun j d δ' hd ⟨x3, Ls, s6, s7, hb3, hL, hLl, e⟩ => ?_, fun δ' ⟨x3, Ls, s6, s7, hb3, hL, hLl, e⟩ => ?_⟩
  · subst e
    obtain ⟨hj, rfl⟩ := rangeD_get hd
    rw [Int.zero_add]
    walk_at "d"
    refine we_lc (wi_range1 ?_)
    walk_at "d"
    refine use_take hb3 (by omega) (by omega) (by omega) fun r3 x4 g5 g6 hb4 => ?_
    walk_at "d"
    refine ⟨_, rfl, by omega, by omega, ?_⟩
    refine ⟨by rw [rangeD_len]; omega, fun i acc δ' => ∃ x5, BoxD (n + 2 + 7 * j + 1 + i) x5 ∧ ∃ T : List Nat, T.length = i ∧ (∀ c ∈ T, c ∈ lettersL) ∧ acc = lw T ∧ δ' = [.own b x5, .d (.int (M : Nat)), .d (.str (Str.ofString "abcdefghijklmnopqrstuvwxyz")), .d (.bl (decide (r1 = 0))), .d (.int (f : Nat)), .own bn (.lst (lsD Ls)), .d (.int (j : Nat)), s7, .no], ⟨x4, hb4, [], rfl, fun c hc => (by cases hc), rfl, rfl⟩, ⟨trivial, trivial⟩, ?_, ?_⟩
    · rintro i d acc ε hd hal ⟨x5, hb5, T, hT, hTl, rfl, rfl⟩
      obtain ⟨hi, rfl⟩ := rangeD_get hd
      refine ⟨⟨trivial, trivial⟩, wgc_name (by simp) rfl ?_⟩
      walk_at "d"
      refine use_take hb5 (by omega) (by omega) (by omega) fun r4 x6 g7 g8 hb6 => ?_
      walk_at "d"
      refine dIxC_s ltr16 (letter_ix g7 g8) ?_
      walk_at "d"
      refine ⟨x6, hb6, T ++ [97 + r4.toNat], by rw [List.length_append, hT]; rfl, fun c hc => ?_, lw_snoc T _, rfl⟩
      rcases List.mem_append.mp hc with q | q
      · exact hTl c q
      · rw [List.mem_singleton.mp q]; exact let_in (by omega) (by omega)
    rintro acc δ' hal ⟨x5, hb5, T, hT, hTl, rfl, rfl⟩ a
    rw [rangeD_len] at hT hb5
    have hT5 : T.length ≤ 5 := by omega
    have hb6 := hb5.mono (m := n + 2 + 7 * j + 6) (by omega)
    clear hb5 hal
    walk_at "d"
    refine ex_join (lw_strs T) (by rw [sum_ones, List.length_map, show (Str.ofString "").length = 0 from by decide +kernel]; omega) ?_
    rw [join_lw]
    walk_at "d"
    have e2 : ((f : Nat) + 11 * (j : Int)) % 26 = (((f + 11 * j) % 26 : Nat) : Int) := by omega
    rw [e2]
    refine dIxC_s ltr16 (letter_ix (by omega) (by omega)) ?_
    walk_at "d"
    refine dAdd_s (by rw [len_strL]; show 1 + _ ≤ _; omega) ?_
    have e3 : (⟨#[97 + ((((f + 11 * j) % 26 : Nat) : Int)).toNat]⟩ : Str) ++ strL T = strL (flN f Ls.length :: T) := by
      rw [hLl, Int.toNat_natCast]
      exact app_sL [97 + (f + 11 * j) % 26] T
    rw [e3]
    have hL2 := nl_app hL hT5 hTl
    have hlsl : (lsD Ls).length = j := by unfold lsD; rw [List.length_map, hLl]
    walk_at "d"
    have elsD : lsD Ls ++ [D.str (strL (flN f Ls.length :: T))] = lsD (Ls ++ [flN f Ls.length :: T]) := by unfold lsD; rw [List.map_append]; rfl
    rw [elsD]
    have fin : ∃ (x3 : D) (Ls' : List (List Nat)) (s6 s7 : Sl), BoxD (n + 2 + 7 * (j + 1)) x3 ∧ NLk f Ls' ∧ Ls'.length = j + 1 ∧ [Sl.own b x5, .d (.int (M : Nat)), .d (.str (Str.ofString "abcdefghijklmnopqrstuvwxyz")), .d (.bl (decide (r1 = 0))), .d (.int (f : Nat)), .own bn (.lst (lsD (Ls ++ [flN f Ls.length :: T]))), .d (.int (j : Nat)), .d (.str (strL T)), .no] = [.own b x3, .d (.int (M : Nat)), .d (.str (Str.ofString "abcdefghijklmnopqrstuvwxyz")), .d (.bl (decide (r1 = 0))), .d (.int (f : Nat)), .own bn (.lst (lsD Ls')), s6, s7, .no] := ⟨x5, _, _, _, hb6.mono (by omega), hL2, by rw [List.length_append, hLl]; rfl, rfl⟩
    refine br_d (fun q1 => ?_) (fun q1 => ?_)
    · walk_at "d"
      refine br_d (fun q2 => ?_) (fun q2 => ?_)
      · walk_at "d"
        have hj1 : j - 1 < Ls.length := by omega
        obtain ⟨M2, hM2⟩ : ∃ M2, Ls[j - 1]? = some M2 := ⟨_, List.getElem?_eq_getElem hj1⟩
        have hM3 : (lsD (Ls ++ [flN f Ls.length :: T]))[j - 1]? = some (.str (strL M2)) := by unfold lsD; rw [List.getElem?_map, List.getElem?_append_left hj1, hM2]; rfl
        have hM4 := ((hL2 (j - 1) M2 (by rw [List.getElem?_append_left hj1]; exact hM2)).1).2.1
        rw [show (j : Int) - 1 = ((j - 1 : Nat) : Int) by omega]
        refine dIxC_l (atI_nat hM3) ?_
        have hs16 : (strL M2).length ≤ 16000000 := by rw [len_strL]; omega
        walk_at "d"
        rw [len_strL]
        refine br_d (fun q3 => ?_) (fun q3 => ?_)
        · walk_at "d"
          rw [show (j : Int) - 1 = ((j - 1 : Nat) : Int) by omega]
          refine dIxC_l (atI_nat hM3) ?_
          walk_at "d"
          refine use_take hb6 (by omega) (by omega) (by omega) fun r4 x6 g7 g8 hb7 => ?_
          walk_at "d"
          refine dIxC_s ltr16 (letter_ix g7 g8) ?_
          walk_at "d"
          refine dAdd_s (by rw [len_strL]; show _ + 1 ≤ _; omega) ?_
          rw [app_one]
          walk_at "d"
          walk_at "k"
          refine ex_setBL rfl (ixN_nat (by unfold lsD; rw [List.length_map, List.length_append, hLl]; exact Nat.lt_succ_self _)) ?_
          intro δ3 e
          subst e
          have hL3 := nl_ext hL2 (by omega) (by rw [hLl]; exact hM2) (by omega) (let_in (c := 97 + r4.toNat) (by omega) (by omega))
          have e9 : (lsD (Ls ++ [flN f Ls.length :: T])).set j (.str (strL (M2 ++ [97 + r4.toNat]))) = lsD (Ls ++ [M2 ++ [97 + r4.toNat]]) := by
            unfold lsD
            rw [List.map_append, List.map_append, List.set_append_right _ _ (by rw [List.length_map]; omega), List.length_map, hLl, Nat.sub_self]
            rfl
          rw [e9]
          exact ⟨x6, _, _, _, hb7.mono (by omega), hL3, by rw [List.length_append, hLl]; rfl, rfl⟩
        · walk_at "x"
          exact fin
      · walk_at "x"
        exact fin
    · walk_at "x"
      exact fin
  · subst e
    walk_at "d"
    rw [rangeD_len] at hLl hb3
    have hM : Ls.length = M := by omega
    have hns := nl_ok hL (by omega)
    rw [hM] at hns
    exact ⟨⟨rfl, trivial⟩, Nat.le_of_ble_eq_true rfl, _, rfl, by
      have z := h bn _ x3 hns (hb3.mono (by omega))
      rw [List.map_map] at z
      exact z⟩

section
variable {P : R → List Sl → Prop} {b : Addr} {x : D} {n m : Nat}
theorem use_namesT (hb : BoxD n x) (hn : n + 100 < 1000000) (h1 : 1 ≤ m) (h2 : m ≤ 12) (q : ∀ b2 ns x', Nms m ns → BoxD (n + 100) x' → P (.own b2 (.lst (ns.map .str))) [.own b x', .d (.int (m : Nat))]) :
    ∀ Ψ : R → List Sl → Prop, (∀ r as', ownOut r → P r as' → Ψ r as') → S_l_names [.own b x, .d (.int (m : Nat))] Ψ := fun Ψ k => ⟨b, x, n, m, rfl, hb, hn, h1, h2, fun b2 ns x' h3 h4 => k _ _ trivial (q b2 ns x' h3 h4)⟩
theorem use_turned (hb : BoxD n x) (hn : n + 20 < 1000000) (h2 : m ≤ 13) (q : ∀ b2 (π : List Nat) x', π.Perm (List.range m) → BoxD (n + 20) x' → P (.own b2 (.lst (π.map fun i => .int (i : Nat)))) [.own b x', .d (.int (m : Nat))]) :
    ∀ Ψ : R → List Sl → Prop, (∀ r as', ownOut r → P r as' → Ψ r as') → S_l_turned [.own b x, .d (.int (m : Nat))] Ψ := fun Ψ k => ⟨b, x, n, m, rfl, hb, hn, h2, fun b2 π x' h3 h4 => k _ _ trivial (q b2 π x' h3 h4)⟩
end
theorem erase_perm {α : Type} : ∀ {l : List α} {n : Nat} (h : n < l.length), (l[n] :: l.eraseIdx n).Perm l
  | a :: l, 0, _ => List.Perm.refl _
  | a :: l, n + 1, h => by
    have h' : n < l.length := by simpa using h
    show (l[n] :: a :: l.eraseIdx n).Perm (a :: l)
    exact (List.Perm.swap a l[n] (l.eraseIdx n)).trans ((erase_perm h').cons a)
theorem ne_natL {l : List Nat} {k : R → Prop} (t : l = [] → k (.d (.bl false))) (n : l ≠ [] → k (.d (.bl true))) : dEqF not (.lst (l.map fun i => D.int (i : Nat))) (.lst []) k := by
  have a : pure0s (l.map fun i => D.int (i : Nat)) = true := pure0s_map (f := fun i : Nat => D.int (i : Nat)) fun x hx => rfl
  have b : dpts (l.map fun i => D.int (i : Nat)) ≤ 0 := dpts_map fun _ _ => Nat.le_refl _
  refine dEq_p (by simp [pure0, a]) (by simp [pure0, pure0s]) (by unfold dpt; omega) (by simp [dpt, dpts]) (fun e => t ?_) (fun e => n fun z => e (by rw [z]; rfl))
  exact List.map_eq_nil_iff.mp (D.lst.inj e)
theorem ws_l_turned : WsC (Fx := XF) S_l_turned t_l_turned [.no, .no] := by
  rintro K cn as Φ fx ⟨b, x, n, m, rfl, hb, hn, h2, h⟩
  unfold t_l_turned
  walk_at "d0"
  walk_at "d"
  refine we_listRg ?_
  walk_at "d"
  refine ⟨by omega, by omega, fun b1 => ?_⟩
  have e0 : rangeD 0 ((m : Nat) : Int).toNat = (List.range m).map fun i => D.int (i : Nat) := by
    unfold rangeD
    rw [Int.toNat_natCast]
    refine List.map_congr_left fun i _ => ?_
    rw [Int.zero_add]
  rw [e0]
  walk_at "d"
  rename_i b2
  refine w_while (fun k δ' => ∃ (A M : List Nat) (x1 : D), δ' = [.own b x1, .d (.int (m : Nat)), .own b1 (.lst (A.map fun i => .int (i : Nat))), .own b2 (.lst (M.map fun i => .int (i : Nat)))] ∧ BoxD (n + M.length) x1 ∧ (M ++ A).Perm (List.range m) ∧ k = A.length) _ ⟨List.range m, [], x, rfl, hb, List.Perm.refl _, rfl⟩ (fun k δ' ⟨A, M, x1, e, hb1, hp, ek⟩ => ?_)
  subst e
  have hlen := hp.length_eq
  rw [List.length_append, List.length_range] at hlen
  walk_at "d"
  refine ne_natL (fun hA => ?_) (fun hA => ?_)
  · subst hA
    walk_at "d"
    rw [List.append_nil] at hp
    exact ⟨⟨rfl, trivial⟩, Nat.le_of_ble_eq_true rfl, _, rfl, h b2 M x1 hp (hb1.mono (by omega))⟩
  · have hA0 : 0 < A.length := List.length_pos_iff.mpr hA
    walk_at "d"
    refine use_take hb1 (by omega) (by rw [List.length_map]; omega) (by rw [List.length_map]; omega) fun r1 x2 g1 g2 hb2 => ?_
    obtain ⟨w, rfl⟩ := Int.eq_ofNat_of_zero_le g1
    rw [List.length_map] at g2
    have hwl : w < A.length := by omega
    have hAw : A[w]? = some A[w] := List.getElem?_eq_getElem hwl
    walk_at "d"
    refine ex_popAt rfl (by rw [List.length_map]; omega) (x := .int (A[w] : Nat)) (by rw [List.getElem?_map, hAw]; rfl) ?_
    intro δ3 e
    have e1 : (A.map fun i => D.int (i : Nat)).eraseIdx w = (A.eraseIdx w).map fun i => D.int (i : Nat) := by simp [List.eraseIdx_eq_take_drop_succ]
    have hperm : (A[w] :: A.eraseIdx w).Perm A := erase_perm hwl
    rw [e1] at e
    have hel : (A.eraseIdx w).length = A.length - 1 := by rw [List.length_eraseIdx_of_lt hwl]
    generalize A[w] = t at hperm ⊢
    generalize A.eraseIdx w = A2 at e hperm hel
    subst e
    walk_at "k"
    have hMm : (M.map fun i => D.int (i : Nat)).length < 100000 := by rw [List.length_map]; omega
    walk_at "d"
    have e4 : (M.map fun i => D.int (i : Nat)) ++ [D.int (t : Nat)] = (M ++ [t]).map fun i => D.int (i : Nat) := by rw [List.map_append]; rfl
    rw [e4]
    refine ⟨A2.length, by omega, A2, M ++ [t], x2, rfl, hb2.mono (by rw [List.length_append, List.length_singleton]; omega), ?_, rfl⟩
    rw [List.append_assoc]
    exact (List.Perm.append_left _ hperm).trans hp

theorem use_length {P : R → List Sl → Prop} {b : Addr} {x : D} {n : Nat} {w : Int} (hb : BoxD n x) (hn : n + 1 < 1000000) (h1 : 0 ≤ w) (h2 : w < 4) (q : ∀ (l : Nat) x', 1 ≤ l → l ≤ 1000000 → BoxD (n + 1) x' → P (.d (.int (l : Nat))) [.own b x', .d (.int w)]) :
    ∀ Ψ : R → List Sl → Prop, (∀ r as', ownOut r → P r as' → Ψ r as') → S_l_length [.own b x, .d (.int w)] Ψ := fun Ψ k => ⟨b, x, n, w, rfl, hb, hn, h1, h2, fun l x' h3 h4 h5 => k _ _ trivial (q l x' h3 h4 h5)⟩
theorem use_istied {P : R → List Sl → Prop} {b : Addr} {x : D} {n : Nat} {w k j r : Int} (hb : BoxD n x) (hn : n + 1 < 1000000) (q : ∀ (v : Bool) x', BoxD (n + 1) x' → P (.d (.bl v)) [.own b x', .d (.int w), .d (.int k), .d (.int j), .d (.int r)]) :
    ∀ Ψ : R → List Sl → Prop, (∀ r as', ownOut r → P r as' → Ψ r as') → S_l_is_tied [.own b x, .d (.int w), .d (.int k), .d (.int j), .d (.int r)] Ψ := fun Ψ kk => ⟨b, x, n, w, k, j, r, rfl, hb, hn, fun v x' h5 => kk _ _ trivial (q v x' h5)⟩
theorem use_named {P : R → List Sl → Prop} {b : Addr} {x : D} {n m : Nat} {T : List Tri} (hb : BoxD n x) (hn : n + 200 < 1000000) (h1 : 1 ≤ m) (h2 : m ≤ 12) (h3 : T.length ≤ 40) (h4 : ∀ q ∈ T, q.1 < m ∧ q.2.1 < m) (q : ∀ (ns : List Str) (π : List Nat) (U : List Tri) x', Nms m ns → π.Perm (List.range m) → TurnT π T U → BoxD (n + 200) x' → P (.d (.tup [.lst (ns.map .str), .lst (U.map (triD ns))])) [.own b x', .d (.lst (T.map numD)), .d (.int (m : Nat))]) :
    ∀ Ψ : R → List Sl → Prop, (∀ r as', ownOut r → P r as' → Ψ r as') → S_l_named [.own b x, .d (.lst (T.map numD)), .d (.int (m : Nat))] Ψ := fun Ψ kk => ⟨b, x, n, m, T, rfl, hb, hn, h1, h2, h3, h4, fun ns π U x' a1 a2 a3 a4 => kk _ _ trivial (q ns π U x' a1 a2 a3 a4)⟩
theorem use_drawn {P : R → List Sl → Prop} {b : Addr} {x : D} {n m : Nat} (hb : BoxD n x) (hn : n + 1000 < 1000000) (h1 : 1 ≤ m) (h2 : m ≤ 12) (q : ∀ (ns : List Str) (U : List Tri) x', NmOk ns → ns.length ≤ m → TriOk ns.length U → U.length ≤ 40 → BoxD (n + 1000) x' → P (.d (.tup [.lst (ns.map .str), .lst (U.map (triD ns))])) [.own b x', .d (.int (m : Nat))]) :
    ∀ Ψ : R → List Sl → Prop, (∀ r as', ownOut r → P r as' → Ψ r as') → S_l_drawn [.own b x, .d (.int (m : Nat))] Ψ := fun Ψ kk => ⟨b, x, n, m, rfl, hb, hn, h1, h2, fun ns U x' a1 a2 a3 a4 a5 => kk _ _ trivial (q ns U x' a1 a2 a3 a4 a5)⟩
theorem ws_l_is_tied : WsC (Fx := XF) S_l_is_tied t_l_is_tied [] := by
  rintro K cn as Φ fx ⟨b, x, n, w, k, j, r, rfl, hb, hn, h⟩
  unfold t_l_is_tied
  walk_at "d0"
  walk_at "d"
  refine br_d (fun q => ?_) (fun q => ?_)
  · walk_at "d"
    exact ⟨⟨rfl, trivial⟩, h _ _ (hb.mono (by omega))⟩
  walk_at "x"
  walk_at "d"
  refine br_d (fun q => ?_) (fun q => ?_)
  · walk_at "d"
    exact ⟨⟨rfl, trivial⟩, h _ _ (hb.mono (by omega))⟩
  walk_at "x"
  walk_at "d"
  refine br_d (fun q => ?_) (fun q => ?_)
  · walk_at "d"
    refine br_d (fun q => ?_) (fun q => ?_)
    · exact ⟨⟨rfl, trivial⟩, h _ _ (hb.mono (by omega))⟩
    walk_at "d"
    refine use_take hb (by omega) (by omega) (by omega) fun r1 x1 g1 g2 hb1 => ?_
    walk_at "d"
    exact ⟨⟨rfl, trivial⟩, h _ _ hb1⟩
  walk_at "x"
  walk_at "d"
  refine br_d (fun q => ?_) (fun q => ?_)
  · exact ⟨⟨rfl, trivial⟩, h _ _ (hb.mono (by omega))⟩
  walk_at "d"
  refine use_take hb (by omega) (by omega) (by omega) fun r1 x1 g1 g2 hb1 => ?_
  walk_at "d"
  exact ⟨⟨rfl, trivial⟩, h _ _ hb1⟩
theorem ws_l_length : WsC (Fx := XF) S_l_length t_l_length [] := by
  rintro K cn as Φ fx ⟨b, x, n, w, rfl, hb, hn, h1, h2, h⟩
  unfold t_l_length
  walk_at "d0"
  walk_at "d"
  refine br_d (fun q => ?_) (fun q => ?_)
  · walk_at "d"
    refine use_take hb (by omega) (by omega) (by omega) fun r1 x1 g1 g2 hb1 => ?_
    walk_at "d"
    obtain ⟨l, hl⟩ := Int.eq_ofNat_of_zero_le (show 0 ≤ 1000000 - r1 by omega)
    rw [hl]
    exact ⟨⟨rfl, trivial⟩, h l x1 (by omega) (by omega) hb1⟩
  walk_at "x"
  walk_at "d"
  have hi : ∃ m : Int, atI [D.int 3, D.int 9, D.int 1000000] w = some (.int m) ∧ 0 < m ∧ m ≤ 1000000 := by
    have : w = 0 ∨ w = 1 ∨ w = 2 := by omega
    rcases this with e | e | e <;> subst e
    · exact ⟨3, rfl, by omega, by omega⟩
    · exact ⟨9, rfl, by omega, by omega⟩
    · exact ⟨1000000, rfl, by omega, by omega⟩
  obtain ⟨m, e, m1, m2⟩ := hi
  refine dIxC_l e ?_
  walk_at "d"
  refine use_take hb (by omega) m1 (by omega) fun r1 x1 g1 g2 hb1 => ?_
  walk_at "d"
  obtain ⟨l, hl⟩ := Int.eq_ofNat_of_zero_le (show 0 ≤ 1 + r1 by omega)
  rw [hl]
  exact ⟨⟨rfl, trivial⟩, h l x1 (by omega) (by omega) hb1⟩
theorem ws_l_named : WsC (Fx := XF) S_l_named t_l_named [.no, .no, .no, .no, .no, .no, .no] := by
  rintro K cn as Φ fx ⟨b, x, n, m, T, rfl, hb, hn, h1, h2, hT, hTl, h⟩
  unfold t_l_named
  walk_at "d0"
  walk_at "d"
  refine use_namesT hb (by omega) h1 h2 fun b2 ns x1 hns hb1 => ?_
  walk_at "q"
  refine w_frz 3 rfl ?_
  walk_at "k"
  walk_at "d"
  refine use_turned hb1 (by omega) (by omega) fun b3 π x2 hπ hb2 => ?_
  walk_at "q"
  refine w_frz 4 rfl ?_
  walk_at "k"
  walk_at "d"
  rename_i b5
  have hπl : π.length = m := by rw [hπ.length_eq, List.length_range]
  have hπ1 : ∀ {k : Nat}, k < m → (π.map fun i => D.int (i : Nat))[k]? = some (.int (π.getD k 0 : Nat)) ∧ π.getD k 0 < m := fun {k} hk => by
    have e : π[k]? = some (π.getD k 0) := by rw [List.getD_eq_getElem?_getD, List.getElem?_eq_getElem (by omega)]; rfl
    exact ⟨by rw [List.getElem?_map, e]; rfl, List.mem_range.mp (hπ.mem_iff.mp (List.mem_of_getElem? e))⟩
  have hnl := hns.len
  have hn1 : ∀ {k : Nat}, k < m → (ns.map D.str)[k]? = some (.str (nmAt ns k)) := fun {k} hk => by rw [List.getElem?_map, nmAt_get (by omega)]; rfl
  refine w_for (wi_any ?_)
  walk_at "d"
  refine ⟨_, _, rfl, rfl, fun j δ' => ∃ (x3 : D) (U : List Tri) (s6 s7 s8 s9 : Sl), BoxD (n + 120 + j) x3 ∧ TurnT π (T.take j) U ∧ δ' = [.own b x3, .d (.lst (T.map numD)), .d (.int (m : Nat)), .d (.lst (ns.map .str)), .d (.lst (π.map fun i => .int (i : Nat))), .own b5 (.lst (U.map (triD ns))), s6, s7, s8, s9], ⟨x2, [], _, _, _, _, hb2, ⟨by rw [List.take_zero], fun k q hk => by rw [List.take_zero] at hk; cases hk⟩, rfl⟩, fun j d δ' hd ⟨x3, U, s6, s7, s8, s9, hb3, hU, e⟩ => ?_, fun δ' ⟨x3, U, s6, s7, s8, s9, hb3, hU, e⟩ => ?_⟩
  · subst e
    rw [List.getElem?_map] at hd
    cases eq : T[j]? with
    | none => rw [eq] at hd; cases hd
    | some q =>
      rw [eq] at hd
      have hd := (Option.some.inj hd).symm
      subst hd
      obtain ⟨q1, q2⟩ := hTl q (List.mem_of_getElem? eq)
      obtain ⟨a1, a2⟩ := hπ1 q1
      obtain ⟨a3, a4⟩ := hπ1 q2
      have hjT := (List.getElem?_eq_some_iff.mp eq).1
      have hUl := hU.len
      rw [List.length_take] at hUl
      have hUm : (U.map (triD ns)).length < 100000 := by rw [List.length_map]; omega
      have fin : ∀ r : Tri, r.2.2 = q.2.2 → ((r.1 = π.getD q.1 0 ∧ r.2.1 = π.getD q.2.1 0) ∨ (r.1 = π.getD q.2.1 0 ∧ r.2.1 = π.getD q.1 0)) → TurnT π (T.take (j + 1)) (U ++ [r]) := fun r hr1 hr2 => by
        rw [List.take_add_one, eq]
        refine ⟨by rw [List.length_append, List.length_append, hU.len]; rfl, fun k p hk => ?_⟩
        by_cases hkj : k < (T.take j).length
        · rw [List.getElem?_append_left hkj] at hk
          obtain ⟨u, hu, z⟩ := hU.at_ k p hk
          exact ⟨u, by rw [List.getElem?_append_left (by rw [hU.len]; exact hkj)]; exact hu, z⟩
        · have hkl := (List.getElem?_eq_some_iff.mp hk).1
          rw [List.length_append] at hkl
          have ek : k = (T.take j).length := by
            have : (some q).toList.length = 1 := rfl
            omega
          subst ek
          rw [List.getElem?_append_right (Nat.le_refl _), Nat.sub_self] at hk
          have hp : q = p := Option.some.inj hk
          subst hp
          exact ⟨r, by rw [← hU.len, List.getElem?_append_right (Nat.le_refl _), Nat.sub_self]; rfl, hr1, hr2⟩
      generalize π.getD q.1 0 = p1 at a1 a2 fin
      generalize π.getD q.2.1 0 = p2 at a3 a4 fin
      unfold numD
      walk_at "d"
      refine dIxC_l (atI_nat a1) ?_
      walk_at "d"
      refine dIxC_l (atI_nat (hn1 a2)) ?_
      walk_at "d"
      refine dIxC_l (atI_nat a3) ?_
      walk_at "d"
      refine dIxC_l (atI_nat (hn1 a4)) ?_
      walk_at "d"
      refine dIxC_l (atI_nat a3) ?_
      walk_at "d"
      refine dIxC_l (atI_nat (hn1 a4)) ?_
      walk_at "d"
      refine dIxC_l (atI_nat a1) ?_
      walk_at "d"
      refine dIxC_l (atI_nat (hn1 a2)) ?_
      walk_at "d"
      refine use_take hb3 (by omega) (by omega) (by omega) fun r1 x4 g1 g2 hb4 => ?_
      obtain ⟨w, rfl⟩ := Int.eq_ofNat_of_zero_le g1
      walk_at "d"
      have hw : w = 0 ∨ w = 1 := by omega
      rcases hw with rfl | rfl
      · refine dIxC_l (x := .tup [.str (nmAt ns p1), .str (nmAt ns p2)]) (atI_nat (j := 0) rfl) ?_
        walk_at "d"
        have e4 : U.map (triD ns) ++ [D.tup [.str (nmAt ns p1), .str (nmAt ns p2), .int (q.2.2 : Nat)]] = (U ++ [(p1, p2, q.2.2)]).map (triD ns) := by rw [List.map_append]; rfl
        rw [e4]
        exact ⟨x4, _, _, _, _, _, hb4.mono (by omega), fin (p1, p2, q.2.2) rfl (.inl ⟨rfl, rfl⟩), rfl⟩
      · refine dIxC_l (x := .tup [.str (nmAt ns p2), .str (nmAt ns p1)]) (atI_nat (j := 1) rfl) ?_
        walk_at "d"
        have e4 : U.map (triD ns) ++ [D.tup [.str (nmAt ns p2), .str (nmAt ns p1), .int (q.2.2 : Nat)]] = (U ++ [(p2, p1, q.2.2)]).map (triD ns) := by rw [List.map_append]; rfl
        rw [e4]
        exact ⟨x4, _, _, _, _, _, hb4.mono (by omega), fin (p2, p1, q.2.2) rfl (.inr ⟨rfl, rfl⟩), rfl⟩
  · subst e
    rw [List.length_map] at hU hb3
    rw [List.take_length] at hU
    refine w_frz 5 rfl ?_
    walk_at "k"
    walk_at "d"
    exact ⟨⟨rfl, trivial⟩, h ns π U x3 hns hπ hU (hb3.mono (by omega))⟩

local macro_rules | `(tactic| walk_at "D1") => `(tactic| first
  | walk_at "d1"
  | (with_reducible refine' we_callX ?_)
  | (with_reducible refine' we_callX0 ?_)
  | (with_reducible refine' ex_cx1 ?_)
  | (with_reducible refine' ex_cx2 ?_)
  | (with_reducible refine' ex_cx3 ?_)
  | (with_reducible refine' ex_cx4 ?_))
local macro_rules | `(tactic| walk_at "D") => `(tactic| repeat walk_at "D1")

theorem perm_inj {π : List Nat} {m : Nat} (h : π.Perm (List.range m)) {i j : Nat} (hi : i < m) (hj : j < m) (e : π.getD i 0 = π.getD j 0) : i = j := by
  have hl : π.length = m := by rw [h.length_eq, List.length_range]
  have hn : π.Nodup := h.nodup_iff.mpr List.nodup_range
  rw [List.getD_eq_getElem?_getD, List.getD_eq_getElem?_getD, List.getElem?_eq_getElem (by omega), List.getElem?_eq_getElem (by omega)] at e
  have e : π[i] = π[j] := e
  refine Classical.byContradiction fun z => ?_
  have hp := List.pairwise_iff_getElem.mp (List.nodup_iff_pairwise_ne.mp hn)
  rcases Nat.lt_or_gt_of_ne z with y | y
  · exact hp i j (by omega) (by omega) y e
  · exact hp j i (by omega) (by omega) y e.symm
theorem perm_lt {π : List Nat} {m : Nat} (h : π.Perm (List.range m)) {i : Nat} (hi : i < m) : π.getD i 0 < m := by
  have hl : π.length = m := by rw [h.length_eq, List.length_range]
  rw [List.getD_eq_getElem?_getD, List.getElem?_eq_getElem (by omega)]
  exact List.mem_range.mp (h.mem_iff.mp (List.getElem_mem (by omega)))

structure DrT (J K : Nat) (T : List Tri) : Prop where
  ok : ∀ q ∈ T, q.1 < q.2.1 ∧ 1 ≤ q.2.2 ∧ q.2.2 ≤ 1000000 ∧ (q.2.1 < J ∨ (q.2.1 = J ∧ q.1 < K))
  nd : (T.map fun q => (triT q).1).Nodup
  le : T.length ≤ 40
theorem DrT.skip {J K : Nat} {T : List Tri} (h : DrT J K T) : DrT J (K + 1) T := ⟨fun q hq => by have := h.ok q hq; omega, h.nd, h.le⟩
theorem DrT.next {J : Nat} {T : List Tri} (h : DrT J J T) : DrT (J + 1) 0 T := ⟨fun q hq => by have := h.ok q hq; omega, h.nd, h.le⟩
theorem DrT.snoc {J K l : Nat} {T : List Tri} (h : DrT J K T) (hk : K < J) (h1 : 1 ≤ l) (h2 : l ≤ 1000000) (h3 : T.length < 40) : DrT J (K + 1) (T ++ [(K, J, l)]) := by
  refine ⟨fun q hq => ?_, ?_, by rw [List.length_append, List.length_singleton]; omega⟩
  · rcases List.mem_append.mp hq with z | z
    · have := h.ok q z; omega
    · rw [List.mem_singleton.mp z]; dsimp only; omega
  · rw [List.map_append, List.nodup_append]
    refine ⟨h.nd, by simp, fun p hp r hr e => ?_⟩
    obtain ⟨q, hq, rfl⟩ := List.mem_map.mp hp
    have hr := List.mem_singleton.mp hr
    subst hr
    have a := h.ok q hq
    unfold triT mm at e
    rw [Prod.mk.injEq] at e
    dsimp only at e
    omega
theorem DrT.sub {J K : Nat} {T T' : List Tri} (h : DrT J K T) (hs : T'.Sublist T) : DrT J K T' := ⟨fun q hq => h.ok q (hs.subset hq), (hs.map _).nodup h.nd, Nat.le_trans hs.length_le h.le⟩
theorem ne_numL {l : List Tri} {k : R → Prop} (t : l = [] → k (.d (.bl false))) (n : l ≠ [] → k (.d (.bl true))) : dEqF not (.lst (l.map numD)) (.lst []) k := by
  have a : pure0s (l.map numD) = true := pure0s_map (f := numD) fun x hx => rfl
  have b : dpts (l.map numD) ≤ 2 := dpts_map fun _ _ => by simp [numD, dpt, dpts]
  refine dEq_p (by simp [pure0, a]) (by simp [pure0, pure0s]) (by unfold dpt; omega) (by simp [dpt, dpts]) (fun e => t ?_) (fun e => n fun z => e (by rw [z]; rfl))
  exact List.map_eq_nil_iff.mp (D.lst.inj e)
theorem tri_turnT {m : Nat} {π : List Nat} {T U : List Tri} (hT : TriOk m T) (hp : π.Perm (List.range m)) (hU : TurnT π T U) : TriOk m U := by
  have hat : ∀ r ∈ U, ∃ k, ∃ q : Tri, T[k]? = some q ∧ U[k]? = some r ∧ r.2.2 = q.2.2 ∧ ((r.1 = π.getD q.1 0 ∧ r.2.1 = π.getD q.2.1 0) ∨ (r.1 = π.getD q.2.1 0 ∧ r.2.1 = π.getD q.1 0)) := fun r hr => by
    obtain ⟨k, hk, ek⟩ := List.mem_iff_getElem.mp hr
    have hkT : k < T.length := by rw [← hU.len]; exact hk
    obtain ⟨r', hr', a, b⟩ := hU.at_ k T[k] (List.getElem?_eq_getElem hkT)
    have hr2 := hr'
    rw [List.getElem?_eq_getElem hk, ek] at hr'
    cases hr'
    exact ⟨k, T[k], List.getElem?_eq_getElem hkT, hr2, a, b⟩
  refine ⟨fun r hr => ?_, ?_⟩
  · obtain ⟨k, q, hq, _, a, b⟩ := hat r hr
    have tl := hT.ok q (List.mem_of_getElem? hq)
    have p1 := perm_lt hp (i := q.1) (by omega)
    have p2 := perm_lt hp (i := q.2.1) (by omega)
    have ne : π.getD q.1 0 ≠ π.getD q.2.1 0 := fun z => by have := perm_inj hp (by omega) (by omega) z; omega
    rcases b with ⟨x, y⟩ | ⟨x, y⟩
    · exact ⟨by omega, by omega, by omega, by omega, by omega⟩
    · exact ⟨by omega, by omega, by omega, by omega, by omega⟩
  · rw [List.nodup_iff_pairwise_ne, List.pairwise_map, List.pairwise_iff_getElem]
    intro i j hi hj hij e
    have hiT : i < T.length := by rw [← hU.len]; exact hi
    have hjT : j < T.length := by rw [← hU.len]; exact hj
    obtain ⟨r1, e1, _, b1⟩ := hU.at_ i T[i] (List.getElem?_eq_getElem hiT)
    obtain ⟨r2, e2, _, b2⟩ := hU.at_ j T[j] (List.getElem?_eq_getElem hjT)
    rw [List.getElem?_eq_getElem hi] at e1
    rw [List.getElem?_eq_getElem hj] at e2
    cases e1
    cases e2
    have o1 := hT.ok T[i] (List.getElem_mem hiT)
    have o2 := hT.ok T[j] (List.getElem_mem hjT)
    have hnd := List.pairwise_iff_getElem.mp (List.pairwise_map.mp (List.nodup_iff_pairwise_ne.mp hT.nd)) i j hiT hjT hij
    have e3 : (U[i].1 = U[j].1 ∧ U[i].2.1 = U[j].2.1) ∨ (U[i].1 = U[j].2.1 ∧ U[i].2.1 = U[j].1) := by
      have e : mm U[i].1 U[i].2.1 = mm U[j].1 U[j].2.1 := e
      unfold mm at e
      rw [Prod.mk.injEq] at e
      omega
    have inj := fun {a b : Nat} (ha : a < m) (hb : b < m) (e : π.getD a 0 = π.getD b 0) => perm_inj hp ha hb e
    have ai : T[i].1 < m := by omega
    have bi : T[i].2.1 < m := by omega
    have aj : T[j].1 < m := by omega
    have bj : T[j].2.1 < m := by omega
    have fin : (T[i].1 = T[j].1 ∧ T[i].2.1 = T[j].2.1) ∨ (T[i].1 = T[j].2.1 ∧ T[i].2.1 = T[j].1) := by
      rcases b1 with ⟨x1, y1⟩ | ⟨x1, y1⟩ <;> rcases b2 with ⟨x2, y2⟩ | ⟨x2, y2⟩ <;> rcases e3 with ⟨u, v⟩ | ⟨u, v⟩ <;> rw [x1, x2] at * <;> rw [y1, y2] at *
      all_goals first
        | exact .inl ⟨inj ai aj u, inj bi bj v⟩
        | exact .inr ⟨inj ai bj u, inj bi aj v⟩
        | exact .inl ⟨inj ai aj v, inj bi bj u⟩
        | exact .inr ⟨inj ai bj v, inj bi aj u⟩
    refine hnd ?_
    show mm T[i].1 T[i].2.1 = mm T[j].1 T[j].2.1
    unfold mm
    rw [Prod.mk.injEq]
    omega
theorem ws_l_drawn : WsC (Fx := XF) S_l_drawn t_l_drawn [.no, .no, .no, .no, .no, .no, .no, .no] := by
  rintro K cn as Φ fx ⟨b, x, n, m, rfl, hb, hn, h1, h2, h⟩
  unfold t_l_drawn
  walk_at "d0"
  walk_at "d"
  refine use_take hb (by omega) (by omega) (by omega) fun r1 x1 g1 g2 hb1 => ?_
  walk_at "d"
  refine use_take hb1 (by omega) (by omega) (by omega) fun r2 x2 g3 g4 hb2 => ?_
  walk_at "d"
  refine use_take hb2 (by omega) (by omega) (by omega) fun r3 x3 g5 g6 hb3 => ?_
  walk_at "d"
  refine use_take hb3 (by omega) (by omega) (by omega) fun r4 x4 g7 g8 hb4 => ?_
  have hr3 : 0 ≤ r3 / 2 ∧ r3 / 2 ≤ 1 := by omega
  generalize r3 / 2 = r3' at hr3
  walk_at "d"
  refine use_take hb4 (by omega) (by omega) (by omega) fun r5 x5 g9 g10 hb5 => ?_
  obtain ⟨less, hless, hl2⟩ : ∃ l : Nat, r3' * r4 = (l : Int) ∧ l ≤ 2 := by
    have h3 : r3' = 0 ∨ r3' = 1 := by omega
    rcases h3 with e | e <;> subst e
    · exact ⟨0, by omega, by omega⟩
    · exact ⟨r4.toNat, by omega, by omega⟩
  rw [hless]
  walk_at "d"
  obtain ⟨w, hw⟩ := Int.eq_ofNat_of_zero_le (show 0 ≤ 1 + r5 by omega)
  rw [hw]
  walk_at "d"
  rename_i bt
  refine w_for (wi_range2 ?_)
  walk_at "d"
  refine ⟨1, (w : Nat), rfl, by omega, ?_⟩
  refine ⟨fun j δ' => ∃ (x6 : D) (T : List Tri) (s7 s8 s9 : Sl), BoxD (n + 5 + 30 * j) x6 ∧ DrT (j + 1) 0 T ∧ δ' = [.own b x6, .d (.int (m : Nat)), .d (.int r1), .d (.int r2), .d (.int (less : Nat)), .d (.int (w : Nat)), .own bt (.lst (T.map numD)), s7, s8, s9], ⟨x5, [], _, _, _, hb5, ⟨fun q hq => (by cases hq), List.nodup_nil, by decide⟩, rfl⟩, fun j d δ' hd ⟨x6, T, s7, s8, s9, hb6, hT, e⟩ => ?_, fun δ' ⟨x6, T, s7, s8, s9, hb6, hT, e⟩ => ?_⟩
  · subst e
    obtain ⟨hj, rfl⟩ := rangeD_get hd
    have hj12 : j < 12 := by omega
    rw [show (1 : Int) + (j : Int) = ((j + 1 : Nat) : Int) by omega]
    walk_at "d"
    refine use_take hb6 (by omega) (by omega) (by omega) fun r6 x7 g11 g12 hb7 => ?_
    walk_at "q"
    refine w_for (wi_range1 ?_)
    walk_at "d"
    refine ⟨_, rfl, by omega, by omega, ?_⟩
    refine ⟨fun k δ' => ∃ (x8 : D) (T : List Tri) (s9 : Sl), BoxD (n + 5 + 30 * j + 1 + 2 * k) x8 ∧ DrT (j + 1) k T ∧ δ' = [.own b x8, .d (.int (m : Nat)), .d (.int r1), .d (.int r2), .d (.int (less : Nat)), .d (.int (w : Nat)), .own bt (.lst (T.map numD)), .d (.int ((j + 1 : Nat) : Int)), .d (.int r6), s9], ⟨x7, T, _, hb7, hT, rfl⟩, fun k d δ' hd ⟨x8, T, s9, hb8, hT, e⟩ => ?_, fun δ' ⟨x8, T, s9, hb8, hT, e⟩ => ?_⟩
    · subst e
      obtain ⟨hk, rfl⟩ := rangeD_get hd
      rw [Int.zero_add]
      have hTl := hT.le
      walk_at "d"
      refine br_d (fun q => ?_) (fun q => ?_)
      · rw [List.length_map] at q
        walk_at "d"
        refine use_istied hb8 (by omega) fun v x9 hb9 => ?_
        walk_at "d"
        refine ⟨fun _ => ?_, fun _ => ?_⟩
        · have hTm : (T.map numD).length < 100000 := by rw [List.length_map]; omega
          walk_at "d"
          refine use_length hb9 (by omega) (by omega) (by omega) fun l x10 l1 l2 hb10 => ?_
          walk_at "d"
          have e4 : T.map numD ++ [D.tup [.int (k : Nat), .int ((j + 1 : Nat) : Int), .int (l : Nat)]] = (T ++ [(k, j + 1, l)]).map numD := by rw [List.map_append]; rfl
          rw [e4]
          exact ⟨x10, _, _, hb10.mono (by omega), hT.snoc (by omega) l1 l2 (by omega), rfl⟩
        · walk_at "x"
          exact ⟨x9, T, _, hb9.mono (by omega), hT.skip, rfl⟩
      · walk_at "x"
        exact ⟨x8, T, _, hb8.mono (by omega), hT.skip, rfl⟩
    · subst e
      rw [rangeD_len] at hT hb8
      rw [show (((j + 1 : Nat) : Int)).toNat = j + 1 by omega] at hT hb8
      walk_at "d"
      exact ⟨x8, T, _, _, _, hb8.mono (by omega), hT.next, rfl⟩
  · subst e
    rw [rangeD_len] at hT hb6
    rw [show ((w : Int) - 1).toNat + 1 = w by omega] at hT
    refine w_seq ?_
    refine w_for (wi_range1 ?_)
    walk_at "d"
    refine ⟨_, rfl, by omega, by omega, ?_⟩
    refine ⟨fun k δ' => ∃ (x8 : D) (T : List Tri) (s9 : Sl), BoxD (n + 400 + k) x8 ∧ DrT w 0 T ∧ δ' = [.own b x8, .d (.int (m : Nat)), .d (.int r1), .d (.int r2), .d (.int (less : Nat)), .d (.int (w : Nat)), .own bt (.lst (T.map numD)), s7, s8, s9], ⟨x6, T, _, hb6.mono (by omega), hT, rfl⟩, fun k d δ' hd ⟨x8, T, s9, hb8, hT, e⟩ => ?_, fun δ' ⟨x8, T, s9, hb8, hT, e⟩ => ?_⟩
    · subst e
      obtain ⟨hk, rfl⟩ := rangeD_get hd
      rw [Int.zero_add]
      have hTl := hT.le
      walk_at "d"
      refine ne_numL (fun hA => ?_) (fun hA => ?_)
      · walk_at "d"
        exact ⟨x8, T, _, hb8.mono (by omega), hT, rfl⟩
      · have hA0 : 0 < T.length := List.length_pos_iff.mpr hA
        walk_at "d"
        refine use_take hb8 (by omega) (by rw [List.length_map]; omega) (by rw [List.length_map]; omega) fun r7 x9 g11 g12 hb9 => ?_
        obtain ⟨v, rfl⟩ := Int.eq_ofNat_of_zero_le g11
        rw [List.length_map] at g12
        have hTv : T[v]? = some T[v] := List.getElem?_eq_getElem (by omega)
        walk_at "d"
        refine ex_popAt rfl (by rw [List.length_map]; omega) (x := numD T[v]) (by rw [List.getElem?_map, hTv]; rfl) ?_
        intro δ3 e
        have e1 : (T.map numD).eraseIdx v = (T.eraseIdx v).map numD := by simp [List.eraseIdx_eq_take_drop_succ]
        rw [e1] at e
        subst e
        walk_at "k"
        walk_at "d"
        exact ⟨x9, _, _, hb9.mono (by omega), hT.sub (List.eraseIdx_sublist _ _), rfl⟩
    · subst e
      rw [rangeD_len] at hb8
      rw [show ((less : Int)).toNat = less by omega] at hb8
      have hTl := hT.le
      have hTw : TriOk w T := ⟨fun q hq => by have := hT.ok q hq; omega, hT.nd⟩
      refine w_frz 6 rfl ?_
      walk_at "k"
      walk_at "d"
      refine use_named hb8 (by omega) (by omega) (by omega) hTl (fun q hq => ⟨(hTw.ok q hq).1, (hTw.ok q hq).2.1⟩) fun ns π U x9 hns hπ hU hb9 => ?_
      have hnl := hns.len
      subst hnl
      exact ⟨⟨rfl, trivial⟩, h ns U x9 ⟨by omega, by omega, hns.nd, hns.ok⟩ (by omega) (tri_turnT hTw hπ hU) (by rw [hU.len]; exact hTl) (hb9.mono (by omega))⟩
theorem ws_l_order : WsC (Fx := XF) S_l_order t_l_order [.no] := by
  rintro K cn as Φ fx ⟨b, x, n, ns, rfl, hb, hn, hl, h⟩
  unfold t_l_order
  walk_at "d0"
  walk_at "d"
  refine we_lcP (wi_any ?_)
  walk_at "d"
  rw [List.length_map]
  refine use_turned hb (by omega) (by omega) fun b2 π x1 hπ hb1 => ?_
  walk_at "k"
  refine ⟨_, _, rfl, rfl, ⟨⟨trivial, trivial⟩, ?_, fun d => match d with
    | .int i => some (.str (nmAt ns i.toNat))
    | _ => none, fun i d hd => ?_, fun b3 => ?_⟩⟩
  · rw [List.length_map, hπ.length_eq, List.length_range]
    omega
  · rw [List.getElem?_map] at hd
    cases e : π[i]? with
    | none => rw [e] at hd; cases hd
    | some k =>
      rw [e] at hd
      cases hd
      have hk := List.mem_range.mp (hπ.mem_iff.mp (List.mem_of_getElem? e))
      refine wgc_name (by simp) rfl ?_
      walk_at "d"
      refine dIxC_l (x := .str (nmAt ns k)) (atI_nat (by rw [List.getElem?_map, nmAt_get hk]; rfl)) ?_
      walk_at "d"
      exact ⟨_, rfl, rfl⟩
  · have e : (π.map fun i => D.int (i : Nat)).filterMap (fun d => match d with
      | .int i => some (.str (nmAt ns i.toNat))
      | _ => none) = (π.map (nmAt ns)).map D.str := by
      rw [List.filterMap_map, List.map_map, ← List.filterMap_eq_map]
      rfl
    rw [e]
    exact ⟨⟨rfl, trivial⟩, h b3 π x1 hπ hb1⟩

local macro_rules | `(tactic| walk_at "D1") => `(tactic| first
  | walk_at "d1"
  | (with_reducible refine' we_fld ?_)
  | ((with_reducible refine' ex_fld ?h1 ?h2 ?h3 ?h4 ?q); (case h1 => rfl); (case h2 => exact XF.cls_Web (by assumption)); (case h4 => first | exact look_sp | exact look_nm | exact look_ln); (case h3 => first | exact XF.na_Web_spots (by assumption) | exact XF.na_Web_names (by assumption) | exact XF.na_Web_lengths (by assumption)))
  | (with_reducible refine' we_meth ?_)
  | (with_reducible refine' we_methX ?_)
  | (with_reducible refine' we_methX0 ?_)
  | (with_reducible refine' we_callX ?_)
  | (with_reducible refine' we_callX0 ?_)
  | (with_reducible refine' ex_cx1 ?_)
  | (with_reducible refine' ex_cx2 ?_)
  | (with_reducible refine' ex_cx3 ?_)
  | (with_reducible refine' ex_cx4 ?_)
  | (with_reducible refine' web_m (by decide +kernel) (by decide +kernel) (by decide +kernel) ?_)
  | ((with_reducible refine' ex_callM ?h1 ?h2 ?q); (case h1 => repeat first | exact toAs_nil | apply toAs_d | apply toAs_b rfl); (case h2 => first | exact List.nodup_nil | exact List.nodup_singleton _ | simp [owned])))
local macro_rules | `(tactic| walk_at "D") => `(tactic| repeat walk_at "D1")

theorem view_in {ns : List Str} {x : Str} {k : R → Prop} (h : k (.d (.bl (!decide (x ∈ ns))))) : dInC not (.str x) (.lst (ns.map .str)) k := dInC_lN rfl (flat_strs ns) (by rw [inD_strs]; exact h)
section
variable {P : R → List Sl → Prop} {cn : Cn} {ns : List Str} {L : List Tie}
theorem use_pls (q : ∀ b, P (.own b (.lst (ns.map .str))) [.d (webD (cn.ad CWeb) ns L)]) :
    ∀ Ψ : R → List Sl → Prop, (∀ r as', ownOut r → P r as' → Ψ r as') → S_Web_places cn [.d (webD (cn.ad CWeb) ns L)] Ψ := fun Ψ k => ⟨ns, L, rfl, fun b => k _ _ trivial (q b)⟩
end
theorem ws_need_place (cn0 : Cn) : WsXC (Fx := fun K cn => XF K cn ∧ cn = cn0) (S_need_place cn0) t_need_place [] := by
  rintro K cn Wx as Φ Y ⟨fx, rfl⟩ ⟨ns, L, x, rfl, hn, ⟨hx1, hx2⟩, h⟩
  unfold t_need_place
  walk_at "d0"
  walk_at "D"
  cases x with
  | str s =>
    dsimp only [isStrD]
    walk_at "D"
    refine use_pls fun b => ?_
    walk_at "k"
    walk_at "D"
    refine view_in ?_
    walk_at "D"
    rw [show spotN ns (.str s) = posN s ns from rfl] at h
    refine br_not (br_d (fun q => ?_) (fun q => ?_))
    · cases e : posN s ns with
      | none => exact absurd q (posN_none.mp e)
      | some i =>
        rw [e] at h
        walk_at "x"
        exact ⟨trivial, h⟩
    · rw [posN_none.mpr q] at h
      walk_at "d"
      refine w_raiseN fx.all_NoPlace fx.fl_NoPlace ?_
      walk_at "d"
      exact ⟨_, rfl, h, trivial, rfl⟩
  | _ =>
    walk_at "ds"
    walk_at "d"
    refine w_raiseN fx.all_NoPlace fx.fl_NoPlace ?_
    walk_at "d"
    exact ⟨_, rfl, h, trivial, rfl⟩

/-! dicts by two names -/
theorem getT_put (kvs : List (List Key × D)) (k k' : List Key) (v : D) : getT (putT kvs k v) k' = if k' = k then some v else getT kvs k' := by
  have find_app : ∀ (l : List (List Key × D)) (q : List Key × D), ((l ++ [q]).find? fun kv => decide (kv.1 = k')).map (·.2) = match (l.find? fun kv => decide (kv.1 = k')).map (·.2) with
      | some d => some d
      | none => if q.1 = k' then some q.2 else none := fun l q => by
    rw [List.find?_append]
    cases l.find? fun kv => decide (kv.1 = k') with
    | some d => rfl
    | none =>
      rw [Option.none_or, List.find?_singleton]
      by_cases c : q.1 = k'
      · rw [if_pos (decide_eq_true c), if_pos c]; rfl
      · rw [if_neg (by rw [decide_eq_false c]; exact Bool.false_ne_true), if_neg c]; rfl
  unfold putT
  split
  · rename_i h
    have key : ∀ l : List (List Key × D), ((l.map fun kv => if kv.1 = k then (kv.1, v) else kv).find? fun kv => decide (kv.1 = k')).map (·.2) = if k' = k ∧ (l.any fun kv => decide (kv.1 = k)) = true then some v else (l.find? fun kv => decide (kv.1 = k')).map (·.2) := fun l => by
      induction l with
      | nil => simp
      | cons q l ih =>
        rw [List.map_cons, List.find?_cons, List.find?_cons, List.any_cons]
        by_cases a : q.1 = k
        · rw [if_pos a]
          by_cases b : q.1 = k'
          · rw [if_pos ⟨b ▸ a, by rw [decide_eq_true a]; rfl⟩, decide_eq_true b]
            rfl
          · rw [decide_eq_false b, if_neg (fun z => b (a.trans z.1.symm))]
            dsimp only
            rw [ih, if_neg (fun z => b (a.trans z.1.symm))]
        · rw [if_neg a]
          by_cases b : q.1 = k'
          · rw [decide_eq_true b, if_neg (fun z => a (b.trans z.1))]
          · rw [decide_eq_false b]
            dsimp only
            rw [ih, decide_eq_false a, Bool.false_or]
    unfold getT
    rw [key]
    by_cases c : k' = k
    · rw [if_pos ⟨c, h⟩, if_pos c]
    · rw [if_neg (fun z => c z.1), if_neg c]
  · rename_i h
    unfold getT
    rw [find_app]
    by_cases c : k' = k
    · subst c
      rw [if_pos rfl]
      have : (kvs.find? fun kv => decide (kv.1 = k')) = none := by
        rw [List.find?_eq_none]
        intro q hq z
        exact h (List.any_eq_true.mpr ⟨q, hq, z⟩)
      rw [this]
      simp
    · rw [if_neg c]
      cases e : (kvs.find? fun kv => decide (kv.1 = k')).map (·.2) with
      | some d => rfl
      | none => dsimp only; rw [if_neg (fun z => c z.symm)]
theorem tscK_put {α : Type} [DecidableEq α] {v : D} (hv : tsc v) : ∀ {kvs : List (α × D)}, tscK kvs → ∀ (k : α), tscK (kvs.map fun kv => if kv.1 = k then (kv.1, v) else kv)
  | [], _, _ => trivial
  | q :: kvs, h, k => by
    rw [List.map_cons]
    unfold tscK at h ⊢
    refine ⟨?_, tscK_put hv h.2 k⟩
    split
    · exact hv
    · exact h.1
theorem tscK_app {α : Type} {v : D} (hv : tsc v) {k : α} : ∀ {kvs : List (α × D)}, tscK kvs → tscK (kvs ++ [(k, v)])
  | [], _ => ⟨hv, trivial⟩
  | q :: kvs, h => by
    rw [List.cons_append]
    unfold tscK at h ⊢
    exact ⟨h.1, tscK_app hv h.2⟩
theorem tscK_putT {v : D} (hv : tsc v) {kvs : List (List Key × D)} (h : tscK kvs) (k : List Key) : tscK (putT kvs k v) := by
  unfold putT
  split
  · exact tscK_put hv h k
  · exact tscK_app hv h
theorem tsc_lk (ns : List Str) (q : Nat × Option Nat) : tsc (lkD ns q) := by
  obtain ⟨d, v⟩ := q
  cases v <;> (unfold lkD tsc tscs; exact ⟨trivial, by unfold tscs; exact ⟨trivial, by unfold tscs; trivial⟩⟩)
theorem kT2_inj {ns : List Str} (hn : ns.Nodup) {i j a b : Nat} (hi : i < ns.length) (hj : j < ns.length) (ha : a < ns.length) (hb : b < ns.length) : kT2 ns i j = kT2 ns a b ↔ i = a ∧ j = b := by
  constructor
  · intro e
    unfold kT2 at e
    injection e with e1 e2
    injection e1 with e1
    injection e2 with e2 _
    injection e2 with e2
    exact ⟨nm_inj hn hi ha e1, nm_inj hn hj hb e2⟩
  · rintro ⟨rfl, rfl⟩; rfl
/-- a dict by two names, as a function -/
def TabK (ns : List Str) (M : Nat → Nat → Option D) (kvs : List (List Key × D)) : Prop := ∀ i j, i < ns.length → j < ns.length → getT kvs (kT2 ns i j) = M i j
def upd2 {α : Type} (M : Nat → Nat → Option α) (i j : Nat) (v : α) : Nat → Nat → Option α := fun a b => if a = i ∧ b = j then some v else M a b
theorem TabK.put {ns : List Str} {M : Nat → Nat → Option D} {kvs : List (List Key × D)} (h : TabK ns M kvs) (hn : ns.Nodup) {i j : Nat} (hi : i < ns.length) (hj : j < ns.length) (v : D) : TabK ns (upd2 M i j v) (putT kvs (kT2 ns i j) v) := by
  intro a b ha hb
  rw [getT_put]
  unfold upd2
  by_cases c : a = i ∧ b = j
  · rw [if_pos c, if_pos ((kT2_inj hn ha hb hi hj).mpr c)]
  · rw [if_neg c, if_neg (fun z => c ((kT2_inj hn ha hb hi hj).mp z)), h a b ha hb]
theorem TabK.cong {ns : List Str} {M N : Nat → Nat → Option D} {kvs : List (List Key × D)} (h : TabK ns M kvs) (e : ∀ i j, i < ns.length → j < ns.length → M i j = N i j) : TabK ns N kvs := fun i j hi hj => (h i j hi hj).trans (e i j hi hj)
theorem key_2 {ns : List Str} {i j : Nat} : dKeyT (.tup [.str (nmAt ns i), .str (nmAt ns j)]) = some (kT2 ns i j) := rfl
theorem getD_putD (kvs : List (Key × D)) (k k' : Key) (v : D) : DL.getD (putD kvs k v) k' = if k' = k then some v else DL.getD kvs k' := by
  have find_app : ∀ (l : List (Key × D)) (q : Key × D), ((l ++ [q]).find? fun kv => decide (kv.1 = k')).map (·.2) = match (l.find? fun kv => decide (kv.1 = k')).map (·.2) with
      | some d => some d
      | none => if q.1 = k' then some q.2 else none := fun l q => by
    rw [List.find?_append]
    cases l.find? fun kv => decide (kv.1 = k') with
    | some d => rfl
    | none =>
      rw [Option.none_or, List.find?_singleton]
      by_cases c : q.1 = k'
      · rw [if_pos (decide_eq_true c), if_pos c]; rfl
      · rw [if_neg (by rw [decide_eq_false c]; exact Bool.false_ne_true), if_neg c]; rfl
  unfold putD
  split
  · rename_i h
    have key : ∀ l : List (Key × D), ((l.map fun kv => if kv.1 = k then (kv.1, v) else kv).find? fun kv => decide (kv.1 = k')).map (·.2) = if k' = k ∧ (l.any fun kv => decide (kv.1 = k)) = true then some v else (l.find? fun kv => decide (kv.1 = k')).map (·.2) := fun l => by
      induction l with
      | nil => simp
      | cons q l ih =>
        rw [List.map_cons, List.find?_cons, List.find?_cons, List.any_cons]
        by_cases a : q.1 = k
        · rw [if_pos a]
          by_cases b : q.1 = k'
          · rw [if_pos ⟨b ▸ a, by rw [decide_eq_true a]; rfl⟩, decide_eq_true b]
            rfl
          · rw [decide_eq_false b, if_neg (fun z => b (a.trans z.1.symm))]
            dsimp only
            rw [ih, if_neg (fun z => b (a.trans z.1.symm))]
        · rw [if_neg a]
          by_cases b : q.1 = k'
          · rw [decide_eq_true b, if_neg (fun z => a (b.trans z.1))]
          · rw [decide_eq_false b]
            dsimp only
            rw [ih, decide_eq_false a, Bool.false_or]
    unfold DL.getD
    rw [key]
    by_cases c : k' = k
    · rw [if_pos ⟨c, h⟩, if_pos c]
    · rw [if_neg (fun z => c z.1), if_neg c]
  · rename_i h
    unfold DL.getD
    rw [find_app]
    by_cases c : k' = k
    · subst c
      rw [if_pos rfl]
      have : (kvs.find? fun kv => decide (kv.1 = k')) = none := by
        rw [List.find?_eq_none]
        intro q hq z
        exact h (List.any_eq_true.mpr ⟨q, hq, z⟩)
      rw [this]
      simp
    · rw [if_neg c]
      cases e : (kvs.find? fun kv => decide (kv.1 = k')).map (·.2) with
      | some d => rfl
      | none => dsimp only; rw [if_neg (fun z => c z.symm)]
/-- a dict by names, as a function -/
def TabD (ns : List Str) (M : Nat → Option D) (kvs : List (Key × D)) : Prop := ∀ i, i < ns.length → DL.getD kvs (.inr (nmAt ns i)) = M i
def upd1 {α : Type} (M : Nat → Option α) (i : Nat) (v : α) : Nat → Option α := fun a => if a = i then some v else M a
theorem TabD.put {ns : List Str} {M : Nat → Option D} {kvs : List (Key × D)} (h : TabD ns M kvs) (hn : ns.Nodup) {i : Nat} (hi : i < ns.length) (v : D) : TabD ns (upd1 M i v) (putD kvs (.inr (nmAt ns i)) v) := by
  intro a ha
  rw [getD_putD]
  unfold upd1
  by_cases c : a = i
  · rw [if_pos c, if_pos (by rw [c])]
  · rw [if_neg c, if_neg (fun z => c (nm_inj hn ha hi (Sum.inr.inj z))), h a ha]
theorem TabD.cong {ns : List Str} {M N : Nat → Option D} {kvs : List (Key × D)} (h : TabD ns M kvs) (e : ∀ i, i < ns.length → M i = N i) : TabD ns N kvs := fun i hi => (h i hi).trans (e i hi)
/-! what stands in heights -/
theorem ne_ch : (("climbed" : Str) == ("high_web" : Str)) = false := by decide +kernel
theorem ne_lh : (("links" : Str) == ("high_web" : Str)) = false := by decide +kernel
theorem ne_lc : (("links" : Str) == ("climbed" : Str)) = false := by decide +kernel
theorem ne_hc : ¬ ("high_web" : Str) = ("climbed" : Str) := by decide +kernel
theorem ne_hl : ¬ ("high_web" : Str) = ("links" : Str) := by decide +kernel
theorem ne_cl : ¬ ("climbed" : Str) = ("links" : Str) := by decide +kernel
theorem put_h1 {x : D} : putFD ("high_web" : Str) x [] = [(("high_web" : Str), x)] := rfl
theorem put_h2 {x y : D} : putFD ("climbed" : Str) y [(("high_web" : Str), x)] = [(("high_web" : Str), x), (("climbed" : Str), y)] := by
  unfold putFD
  rw [if_neg ne_hc]
  rfl
theorem put_h3 {x y z : D} : putFD ("links" : Str) z [(("high_web" : Str), x), (("climbed" : Str), y)] = [(("high_web" : Str), x), (("climbed" : Str), y), (("links" : Str), z)] := by
  unfold putFD
  rw [if_neg ne_hl]
  unfold putFD
  rw [if_neg ne_cl]
  rfl
theorem look_h1 {x y z : D} : ([(("high_web" : Str), x), (("climbed" : Str), y), (("links" : Str), z)] : List (Str × D)).lookup ("high_web" : Str) = some x := by simp [List.lookup]
theorem look_h2 {x y z : D} : ([(("high_web" : Str), x), (("climbed" : Str), y), (("links" : Str), z)] : List (Str × D)).lookup ("climbed" : Str) = some y := by
  unfold List.lookup
  rw [ne_ch]
  simp [List.lookup]
theorem look_h3 {x y z : D} : ([(("high_web" : Str), x), (("climbed" : Str), y), (("links" : Str), z)] : List (Str × D)).lookup ("links" : Str) = some z := by
  unfold List.lookup
  rw [ne_lh]
  unfold List.lookup
  dsimp only
  rw [ne_lc]
  simp [List.lookup]
theorem look_hn {x y z : D} {m : Str} (h1 : (m == ("high_web" : Str)) = false) (h2 : (m == ("climbed" : Str)) = false) (h3 : (m == ("links" : Str)) = false) : ([(("high_web" : Str), x), (("climbed" : Str), y), (("links" : Str), z)] : List (Str × D)).lookup m = none := by
  unfold List.lookup
  rw [h1]
  unfold List.lookup
  dsimp only
  rw [h2]
  simp [List.lookup, h3]
theorem high_m {δ : List Sl} {C C' : Addr} {ns : List Str} {L : List Tie} {ord : List Nat} {kvs : List (List Key × D)} {m : Str} {P : Prop} (h1 : (m == ("high_web" : Str)) = false) (h2 : (m == ("climbed" : Str)) = false) (h3 : (m == ("links" : Str)) = false) (q : P) :
    (∃ fs, view δ (frz (.d (highD C C' ns L ord kvs))) = some (.obj C fs) ∧ fs.lookup m = none) ∧ P := ⟨⟨_, rfl, look_hn h1 h2 h3⟩, q⟩

local macro_rules | `(tactic| walk_at "D1") => `(tactic| first
  | walk_at "d1"
  | (with_reducible refine' we_fld ?_)
  | ((with_reducible refine' ex_fld ?h1 ?h2 ?h3 ?h4 ?q); (case h1 => rfl); (case h2 => exact XF.cls_Web (by assumption)); (case h4 => first | exact look_sp | exact look_nm | exact look_ln); (case h3 => first | exact XF.na_Web_spots (by assumption) | exact XF.na_Web_names (by assumption) | exact XF.na_Web_lengths (by assumption)))
  | ((with_reducible refine' ex_fld ?h1 ?h2 ?h3 ?h4 ?q); (case h1 => rfl); (case h2 => exact XF.cls_Heights (by assumption)); (case h4 => first | exact look_h1 | exact look_h2 | exact look_h3); (case h3 => first | exact XF.na_Heights_high_web (by assumption) | exact XF.na_Heights_climbed (by assumption) | exact XF.na_Heights_links (by assumption)))
  | (with_reducible refine' we_meth ?_)
  | (with_reducible refine' we_methX ?_)
  | (with_reducible refine' we_methX0 ?_)
  | (with_reducible refine' we_callX ?_)
  | (with_reducible refine' we_callX0 ?_)
  | (with_reducible refine' ex_cx1 ?_)
  | (with_reducible refine' ex_cx2 ?_)
  | (with_reducible refine' ex_cx3 ?_)
  | (with_reducible refine' ex_cx4 ?_)
  | (with_reducible refine' web_m (by decide +kernel) (by decide +kernel) (by decide +kernel) ?_)
  | (with_reducible refine' high_m (by decide +kernel) (by decide +kernel) (by decide +kernel) ?_)
  | ((with_reducible refine' ex_callM ?h1 ?h2 ?q); (case h1 => repeat first | exact toAs_nil | apply toAs_d | apply toAs_b rfl); (case h2 => first | exact List.nodup_nil | exact List.nodup_singleton _ | simp [owned])))
local macro_rules | `(tactic| walk_at "D") => `(tactic| repeat walk_at "D1")

section
variable {P : R → List Sl → Prop} {cn : Cn} {ns : List Str} {L : List Tie}
theorem use_manyH (q : P (.d (.int (ns.length : Nat))) [.d (webD (cn.ad CWeb) ns L)]) :
    ∀ Ψ : R → List Sl → Prop, (∀ r as', ownOut r → P r as' → Ψ r as') → S_Web_many cn [.d (webD (cn.ad CWeb) ns L)] Ψ := fun Ψ k => ⟨ns, L, rfl, k _ _ trivial q⟩
theorem use_tiesH (hw : WbOk ns L) (q : ∀ b, P (.own b (.lst (tiesD ns L))) [.d (webD (cn.ad CWeb) ns L)]) :
    ∀ Ψ : R → List Sl → Prop, (∀ r as', ownOut r → P r as' → Ψ r as') → S_Web_ties cn [.d (webD (cn.ad CWeb) ns L)] Ψ := fun Ψ k => ⟨ns, L, rfl, hw, fun b => k _ _ trivial (q b)⟩
theorem use_linked (hw : WbOk ns L) (q : ∀ b kvs, kvs.length ≤ 100 → tscK kvs → TabK ns (fun i j => (L.lookup (mm i j)).map fun l => lkD ns (l, none)) kvs → P (.own b (.dcT kvs)) [.d (webD (cn.ad CWeb) ns L)]) :
    ∀ Ψ : R → List Sl → Prop, (∀ r as', ownOut r → P r as' → Ψ r as') → S_linked cn [.d (webD (cn.ad CWeb) ns L)] Ψ := fun Ψ k => ⟨ns, L, rfl, hw, fun b kvs h1 h2 h3 => k _ _ trivial (q b kvs h1 h2 h3)⟩
end
theorem ws_need_order (cn0 : Cn) : WsXC (Fx := fun K cn => XF K cn ∧ cn = cn0) (S_need_order cn0) t_need_order [.no] := by
  rintro K cn Wx as Φ Y ⟨fx, rfl⟩ ⟨ns, L, t, ord, s, rfl, hn, hp, hs, h⟩
  have hl : (ord.map (nmAt ns)).length = ns.length := by rw [List.length_map, hp.length_eq, List.length_range]
  have hin : ∀ i, i < ns.length → nmAt ns i ∈ ord.map (nmAt ns) := fun i hi => List.mem_map_of_mem (hp.mem_iff.mpr (List.mem_range.mpr hi))
  unfold t_need_order
  walk_at "d0"
  rcases hs with _ | bo <;> cases t
  all_goals
    simp only [nsD, if_true, Bool.false_eq_true, if_false]
    walk_at "D"
    refine use_manyH ?_
    walk_at "D"
    rw [List.length_map, hl]
    refine br_not (br_yes rfl ?_)
    walk_at "x"
    walk_at "k"
    refine w_for (wi_any ?_)
    walk_at "D"
    refine use_pls fun b2 => ?_
    walk_at "k"
    refine ⟨_, _, rfl, rfl, fun j δ' => ∃ s2, δ' = [_, _, s2], ⟨_, rfl⟩, fun j d δ' hd ⟨s2, e⟩ => ?_, fun δ' ⟨s2, e⟩ => ?_⟩
    · subst e
      obtain ⟨x, rfl, hx⟩ := strs_get hd
      have hx2 : x ∈ ord.map (nmAt ns) := by
        have hj := (List.getElem?_eq_some_iff.mp hx).1
        have := hin j hj
        rw [nmAt_get hj] at hx
        cases hx
        exact this
      walk_at "D"
      first | refine in_nsN (t := false) (ns := ord.map (nmAt ns)) ?_ | refine in_nsN (t := true) (ns := ord.map (nmAt ns)) ?_
      walk_at "d"
      refine br_not (br_yes hx2 ?_)
      walk_at "x"
      exact ⟨_, rfl⟩
    · subst e
      exact ⟨(by first | trivial | exact ⟨rfl, trivial⟩ | exact ⟨trivial, rfl⟩), h⟩
theorem ws_linked (cn0 : Cn) : WsC (Fx := fun K cn => XF K cn ∧ cn = cn0) (S_linked cn0) t_linked [.no, .no, .no, .no] := by
  rintro K cn as Φ ⟨fx, rfl⟩ ⟨ns, L, rfl, hw, h⟩
  have hn12 := hw.nm.l2
  have hnd := hw.nm.nd
  have hle := hw.le
  have hsl := (sortT_perm L).length_eq
  have hsn : ((sortT L).map Prod.fst).Nodup := ((sortT_perm L).map _).nodup_iff.mpr hw.nd
  unfold t_linked
  walk_at "d0"
  walk_at "d"
  rename_i bk
  refine w_for (wi_any ?_)
  walk_at "D"
  refine use_tiesH hw fun b2 => ?_
  walk_at "k"
  refine ⟨_, _, rfl, rfl, fun j δ' => ∃ (kvs : List (List Key × D)) (s2 s3 s4 : Sl), δ' = [.d (webD (cn.ad CWeb) ns L), .own bk (.dcT kvs), s2, s3, s4] ∧ kvs.length ≤ 2 * j ∧ tscK kvs ∧ TabK ns (fun a b => (((sortT L).take j).lookup (mm a b)).map fun l => lkD ns (l, none)) kvs, ⟨[], _, _, _, rfl, Nat.le_refl _, trivial, fun i j _ _ => rfl⟩, fun j d δ' hd ⟨kvs, s2, s3, s4, e, hl, hc, ht⟩ => ?_, fun δ' ⟨kvs, s2, s3, s4, e, hl, hc, ht⟩ => ?_⟩
  · subst e
    unfold tiesD at hd
    rw [List.getElem?_map] at hd
    cases eq : (sortT L)[j]? with
    | none => rw [eq] at hd; cases hd
    | some t =>
      rw [eq] at hd
      cases hd
      have hj := (List.getElem?_eq_some_iff.mp eq).1
      have m := (sortT_perm L).mem_iff.mp (List.mem_of_getElem? eq)
      have o := hw.ok t m
      have hi : t.1.1 < ns.length := by omega
      have hno : ((sortT L).take j).lookup t.1 = none := by
        rw [List.lookup_eq_none_iff]
        intro q hq
        rw [bne_iff_ne]
        intro z
        obtain ⟨k, hk, ek⟩ := List.mem_iff_getElem.mp hq
        rw [List.length_take] at hk
        rw [List.getElem_take] at ek
        have hp := List.pairwise_iff_getElem.mp (List.nodup_iff_pairwise_ne.mp hsn) k j (by rw [List.length_map]; omega) (by rw [List.length_map]; omega) (by omega)
        rw [List.getElem_map, List.getElem_map, ek] at hp
        have : (sortT L)[j] = t := (List.getElem?_eq_some_iff.mp eq).2
        rw [this] at hp
        exact hp z.symm
      have hput := (ht.put hnd hi o.2.1 (lkD ns (t.2, none))).put hnd o.2.1 hi (lkD ns (t.2, none))
      have hl1 := putT_len kvs (kT2 ns t.1.1 t.1.2) (lkD ns (t.2, none))
      have hl2 := putT_len (putT kvs (kT2 ns t.1.1 t.1.2) (lkD ns (t.2, none))) (kT2 ns t.1.2 t.1.1) (lkD ns (t.2, none))
      unfold tieD
      walk_at "t"
      refine wg_setT ?_
      walk_at "d"
      refine ⟨_, kT2 ns t.1.1 t.1.2, kvs, rfl, rfl, rfl, by omega, fun δ3 e => ?_⟩
      subst e
      walk_at "k"
      walk_at "t"
      refine wg_setT ?_
      walk_at "d"
      refine ⟨_, kT2 ns t.1.2 t.1.1, _, rfl, rfl, rfl, by show (putT kvs (kT2 ns t.1.1 t.1.2) (lkD ns (t.2, none))).length < 100000; omega, fun δ3 e => ?_⟩
      subst e
      walk_at "k"
      refine ⟨putT (putT kvs (kT2 ns t.1.1 t.1.2) (lkD ns (t.2, none))) (kT2 ns t.1.2 t.1.1) (lkD ns (t.2, none)), _, _, _, rfl, by omega, tscK_putT (tsc_lk _ _) (tscK_putT (tsc_lk _ _) hc _) _, hput.cong fun a b ha hb => ?_⟩
      rw [List.take_add_one, eq, List.lookup_append]
      have ek : ∀ p : Nat × Nat, (Option.toList (some t)).lookup p = if p = t.1 then some t.2 else none := fun p => by
        show List.lookup p [t] = _
        rw [List.lookup_cons]
        by_cases c : p = t.1
        · rw [if_pos c, beq_iff_eq.mpr c]
        · rw [if_neg c, show (p == t.1) = false by simpa using c]; rfl
      rw [ek]
      unfold upd2
      by_cases c1 : a = t.1.2 ∧ b = t.1.1
      · rw [if_pos c1]
        have em : mm a b = t.1 := by unfold mm; rw [c1.1, c1.2, Nat.min_eq_right (by omega), Nat.max_eq_left (by omega)]
        rw [em, hno, if_pos rfl]
        rfl
      · rw [if_neg c1]
        by_cases c2 : a = t.1.1 ∧ b = t.1.2
        · rw [if_pos c2]
          have em : mm a b = t.1 := by unfold mm; rw [c2.1, c2.2, Nat.min_eq_left (by omega), Nat.max_eq_right (by omega)]
          rw [em, hno, if_pos rfl]
          rfl
        · rw [if_neg c2]
          have em : mm a b ≠ t.1 := fun z => by
            unfold mm at z
            have z1 : min a b = t.1.1 := by rw [← z]
            have z2 : max a b = t.1.2 := by rw [← z]
            omega
          rw [if_neg em, Option.or_none]
  · subst e
    unfold tiesD at ht hl
    rw [List.length_map] at ht hl
    rw [List.take_length] at ht
    walk_at "d"
    exact ⟨trivial, Nat.le_of_ble_eq_true rfl, _, rfl, h bk kvs (by omega) hc fun i j hi hj => by
      have z := ht i j hi hj
      dsimp only at z
      rw [look_perm (sortT_perm L) hw.nd] at z
      exact z⟩

theorem cut_to {xs : List D} {j : Nat} : DL.cutD xs none (some ((j : Nat) : Int)) = xs.take j := by
  unfold DL.cutD
  rw [HT.sIx_none, HT.sIx_nat, Nat.sub_zero, List.drop_zero]
  by_cases h : j ≤ xs.length
  · rw [show min j xs.length = j by omega]
  · rw [show min j xs.length = xs.length by omega, List.take_length, List.take_of_length_le (by omega)]
theorem cut_from {xs : List D} {j : Nat} : DL.cutD xs (some ((j : Nat) : Int)) none = xs.drop j := by
  unfold DL.cutD
  rw [HT.sIx_none, HT.sIx_nat]
  by_cases h : j ≤ xs.length
  · rw [show min j xs.length = j by omega, List.take_of_length_le (by rw [List.length_drop]; omega)]
  · rw [show min j xs.length = xs.length by omega, Nat.sub_self, List.take_zero, List.drop_eq_nil_of_le (by omega)]
/-! places in an order -/
theorem idx_get : ∀ {l : List Nat} {x : Nat}, x ∈ l → l[l.idxOf x]? = some x
  | a :: l, x, h => by
    by_cases c : a = x
    · subst c
      rw [List.idxOf_cons_self]
      rfl
    · rw [List.idxOf_cons, show (a == x) = false by simpa using c]
      exact idx_get (l := l) ((List.mem_cons.mp h).resolve_left fun z => c z.symm)
theorem idx_lt {l : List Nat} {x : Nat} (h : x ∈ l) : l.idxOf x < l.length := (List.getElem?_eq_some_iff.mp (idx_get h)).1
theorem idx_at {l : List Nat} (hn : l.Nodup) {t v : Nat} (h : l[t]? = some v) : l.idxOf v = t := by
  have hm : v ∈ l := List.mem_of_getElem? h
  exact (List.getElem?_inj (idx_lt hm) hn).mp ((idx_get hm).trans h.symm)
theorem idx_inj {l : List Nat} {x y : Nat} (hx : x ∈ l) (hy : y ∈ l) (e : l.idxOf x = l.idxOf y) : x = y := by
  have a := idx_get hx
  rw [e, idx_get hy] at a
  exact (Option.some.inj a).symm
theorem idx_take {l : List Nat} (hn : l.Nodup) {x k : Nat} : x ∈ l.take k ↔ x ∈ l ∧ l.idxOf x < k := by
  constructor
  · intro h
    have hm := List.mem_of_mem_take h
    refine ⟨hm, ?_⟩
    obtain ⟨i, hi, e⟩ := List.mem_iff_getElem.mp h
    rw [List.length_take] at hi
    rw [List.getElem_take] at e
    have : l[i]? = some x := by rw [List.getElem?_eq_getElem (by omega), e]
    rw [idx_at hn this]
    omega
  · rintro ⟨h, hk⟩
    have a := idx_get h
    have : (l.take k)[l.idxOf x]? = some x := by rw [List.getElem?_take_of_lt hk, a]
    exact List.mem_of_getElem? this
theorem idx_drop {l : List Nat} (hn : l.Nodup) {x k : Nat} : x ∈ l.drop k ↔ x ∈ l ∧ k ≤ l.idxOf x := by
  constructor
  · intro h
    have hm := List.mem_of_mem_drop h
    refine ⟨hm, ?_⟩
    obtain ⟨i, e⟩ := List.mem_iff_getElem?.mp h
    rw [List.getElem?_drop] at e
    rw [idx_at hn e]
    omega
  · rintro ⟨h, hk⟩
    have a := idx_get h
    refine List.mem_of_getElem? (i := l.idxOf x - k) ?_
    rw [List.getElem?_drop, show k + (l.idxOf x - k) = l.idxOf x by omega, a]
/-! bridges as they are found -/
open Classical in
noncomputable def bgT (L : List Tie) (ord : List Nat) (t i j : Nat) : Option Nat := if i = j then none else leastN (Lw L (ord.take (min t (min (ord.idxOf i) (ord.idxOf j)))) i j)
abbrev Brg := Nat → Nat → Option (Nat × Option Nat)
structure BrS (L : List Tie) (ord : List Nat) (n t : Nat) (M : Brg) : Prop where
  v : ∀ i j, i < n → j < n → (M i j).map Prod.fst = bgT L ord t i j
  w : ∀ i j d v, i < n → j < n → M i j = some (d, v) → (v = none ↔ L.lookup (mm i j) = some d) ∧ ∀ p, v = some p → p < n ∧ p ∈ lowN ord i j ∧ ∃ d1 d2, bgN L ord p i = some d1 ∧ bgN L ord p j = some d2 ∧ d1 + d2 = d
theorem lw_nil {L : List Tie} {i j d : Nat} : Lw L [] i j d ↔ L.lookup (mm i j) = some d := by
  constructor
  · rintro ⟨k, e, l, a, b, c⟩
    cases a with
    | refl => rw [b, c]; simp
    | step _ hk _ => cases hk
  · exact Lw.one
theorem brs_0 {L : List Tie} {ord : List Nat} {n : Nat} (hL : ∀ t ∈ L, t.1.1 < t.1.2) : BrS L ord n 0 fun i j => (L.lookup (mm i j)).map fun l => (l, none) := by
  refine ⟨fun i j hi hj => ?_, fun i j d v hi hj h => ?_⟩
  · unfold bgT
    by_cases c : i = j
    · rw [if_pos c]
      subst c
      cases e : L.lookup (mm i i) with
      | none => rfl
      | some l =>
        have := hL _ (look_ok e)
        unfold mm at this
        dsimp only at this
        omega
    · rw [if_neg c, Nat.zero_min, List.take_zero, Option.map_map]
      symm
      refine least_eq ?_
      cases e : L.lookup (mm i j) with
      | none => intro d hd; rw [lw_nil, e] at hd; cases hd
      | some l =>
        refine ⟨lw_nil.mpr e, fun x hx => ?_⟩
        rw [lw_nil, e] at hx
        cases hx
        exact Nat.le_refl _
  · cases e : L.lookup (mm i j) with
    | none => rw [e] at h; cases h
    | some l =>
      rw [e] at h
      cases h
      exact ⟨⟨fun _ => rfl, fun _ => rfl⟩, fun p hp => by cases hp⟩
def rlxM (M : Brg) (v i j : Nat) : Option (Nat × Option Nat) := match M v i, M v j with
  | some a, some b => if i ≠ j ∧ (∀ d, M i j = some d → a.1 + b.1 < d.1) then some (a.1 + b.1, some v) else M i j
  | _, _ => M i j
theorem rlxM_fst {M : Brg} {v i j : Nat} (h : i ≠ j) : (rlxM M v i j).map Prod.fst = rlx ((M i j).map Prod.fst) ((M v i).map Prod.fst) ((M v j).map Prod.fst) := by
  unfold rlxM rlx
  cases M v i with
  | none => rfl
  | some a =>
    cases M v j with
    | none => rfl
    | some b =>
      dsimp only [Option.map_some]
      cases M i j with
      | none => rw [if_pos ⟨h, fun d hd => by cases hd⟩]; rfl
      | some d =>
        dsimp only [Option.map_some]
        by_cases c : a.1 + b.1 < d.1
        · rw [if_pos ⟨h, fun d' hd => by cases hd; exact c⟩, if_pos c]; rfl
        · rw [if_neg (fun z => c (z.2 d rfl)), if_neg c]; rfl
theorem brs_next {L : List Tie} {ord : List Nat} {n t v : Nat} {M M' : Brg} {A : List Nat} (hp : ord.Perm (List.range n)) (hv : ord[t]? = some v) (h : BrS L ord n t M)
    (hA : ∀ j, j ∈ A ↔ j ∈ ord.drop (t + 1) ∧ (M v j).isSome = true) (hM : ∀ i j, i < n → j < n → M' i j = if i ∈ A ∧ j ∈ A then rlxM M v i j else M i j) : BrS L ord n (t + 1) M' := by
  have hn : ord.Nodup := hp.nodup_iff.mpr List.nodup_range
  have hm : ∀ i, i < n → i ∈ ord := fun i hi => hp.mem_iff.mpr (List.mem_range.mpr hi)
  have iv := idx_at hn hv
  have vn : v < n := List.mem_range.mp (hp.mem_iff.mp (List.mem_of_getElem? hv))
  have hT : ∀ k, k ∈ ord.take (t + 1) ↔ k ∈ ord.take t ∨ k = v := fun k => by
    rw [List.take_add_one, hv]
    simp
  have hd : ∀ j, j < n → (j ∈ ord.drop (t + 1) ↔ t < ord.idxOf j) := fun j hj => by
    rw [idx_drop hn]
    exact ⟨fun z => z.2, fun z => ⟨hm j hj, z⟩⟩
  -- from v
  have fv : ∀ j, j < n → t < ord.idxOf j → (M v j).map Prod.fst = leastN (Lw L (ord.take t) v j) := fun j hj hlt => by
    rw [h.v v j vn hj]
    unfold bgT
    rw [if_neg (fun z => by rw [← z, iv] at hlt; omega), iv, show min t (min t (ord.idxOf j)) = t by omega]
  have fN : ∀ j, j < n → t < ord.idxOf j → bgN L ord v j = leastN (Lw L (ord.take t) v j) := fun j hj hlt => by
    unfold bgN lowN
    rw [if_neg (fun z => by rw [← z, iv] at hlt; omega), iv, show min t (ord.idxOf j) = t by omega]
  have old : ∀ i j, i < n → j < n → ¬ (i ∈ A ∧ j ∈ A) → bgT L ord (t + 1) i j = bgT L ord t i j := fun i j hi hj hno => by
    unfold bgT
    by_cases c : i = j
    · rw [if_pos c, if_pos c]
    · rw [if_neg c, if_neg c]
      by_cases q : t < ord.idxOf i ∧ t < ord.idxOf j
      · rw [show min (t + 1) (min (ord.idxOf i) (ord.idxOf j)) = t + 1 by omega, show min t (min (ord.idxOf i) (ord.idxOf j)) = t by omega, least_rlx hT, ← fv i hi q.1, ← fv j hj q.2]
        have : M v i = none ∨ M v j = none := by
          cases e1 : M v i with
          | none => exact .inl rfl
          | some a =>
            cases e2 : M v j with
            | none => exact .inr rfl
            | some b => exact absurd ⟨(hA i).mpr ⟨(hd i hi).mpr q.1, by rw [e1]; rfl⟩, (hA j).mpr ⟨(hd j hj).mpr q.2, by rw [e2]; rfl⟩⟩ hno
        unfold rlx
        rcases this with e | e
        · rw [e]; rfl
        · rw [e]
          cases M v i <;> rfl
      · rw [show min (t + 1) (min (ord.idxOf i) (ord.idxOf j)) = min t (min (ord.idxOf i) (ord.idxOf j)) by omega]
  refine ⟨fun i j hi hj => ?_, fun i j d w hi hj e => ?_⟩
  · rw [hM i j hi hj]
    by_cases c : i ∈ A ∧ j ∈ A
    · rw [if_pos c]
      have q1 := (hd i hi).mp ((hA i).mp c.1).1
      have q2 := (hd j hj).mp ((hA j).mp c.2).1
      by_cases z : i = j
      · subst z
        have e0 := h.v i i hi hi
        unfold bgT at e0 ⊢
        rw [if_pos rfl] at e0 ⊢
        unfold rlxM
        cases M v i with
        | none => exact e0
        | some a => dsimp only; rw [if_neg (fun z => z.1 rfl)]; exact e0
      · rw [rlxM_fst z, h.v i j hi hj, fv i hi q1, fv j hj q2]
        unfold bgT
        rw [if_neg z, if_neg z, show min (t + 1) (min (ord.idxOf i) (ord.idxOf j)) = t + 1 by omega, show min t (min (ord.idxOf i) (ord.idxOf j)) = t by omega, least_rlx hT]
    · rw [if_neg c, h.v i j hi hj, old i j hi hj c]
  · rw [hM i j hi hj] at e
    by_cases c : i ∈ A ∧ j ∈ A
    · rw [if_pos c] at e
      have q1 := (hd i hi).mp ((hA i).mp c.1).1
      have q2 := (hd j hj).mp ((hA j).mp c.2).1
      unfold rlxM at e
      cases e1 : M v i with
      | none => rw [e1] at e; exact h.w i j d w hi hj e
      | some a =>
        cases e2 : M v j with
        | none => rw [e1, e2] at e; exact h.w i j d w hi hj e
        | some b =>
          rw [e1, e2] at e
          dsimp only at e
          by_cases q : i ≠ j ∧ (∀ d, M i j = some d → a.1 + b.1 < d.1)
          · rw [if_pos q] at e
            cases e
            refine ⟨⟨fun z => (by cases z), fun z => ?_⟩, fun p hp => ?_⟩
            · exfalso
              have e3 := h.v i j hi hj
              unfold bgT at e3
              rw [if_neg q.1] at e3
              obtain ⟨x, hx, hle⟩ := least_of (P := Lw L (ord.take (min t (min (ord.idxOf i) (ord.idxOf j)))) i j) (Lw.one z)
              rw [hx] at e3
              cases e4 : M i j with
              | none => rw [e4] at e3; cases e3
              | some y =>
                rw [e4] at e3
                have := q.2 y e4
                have : y.1 = x := Option.some.inj e3
                omega
            · cases hp
              refine ⟨vn, ?_, a.1, b.1, ?_, ?_, rfl⟩
              · unfold lowN
                rw [idx_take hn, iv]
                exact ⟨List.mem_of_getElem? hv, by omega⟩
              · rw [fN i hi q1, ← fv i hi q1, e1]; rfl
              · rw [fN j hj q2, ← fv j hj q2, e2]; rfl
          · rw [if_neg q] at e
            exact h.w i j d w hi hj e
    · rw [if_neg c] at e
      exact h.w i j d w hi hj e
theorem brs_end {ns : List Str} {L : List Tie} {ord : List Nat} {M : Brg} {kvs : List (List Key × D)} (hw : WbOk ns L) (hp : ord.Perm (List.range ns.length)) (h : BrS L ord ns.length ns.length M) (hk : TabK ns (fun i j => (M i j).map (lkD ns)) kvs) : LkOk ns L ord kvs := by
  have hl : ord.length = ns.length := by rw [hp.length_eq, List.length_range]
  have hm : ∀ i, i < ns.length → i ∈ ord := fun i hi => hp.mem_iff.mpr (List.mem_range.mpr hi)
  refine ⟨fun i j hi hj => ⟨M i j, hk i j hi hj, ?_, fun d v e => ?_⟩⟩
  · rw [h.v i j hi hj]
    unfold bgT bgN lowN
    have := idx_lt (hm i hi)
    rw [show min ns.length (min (ord.idxOf i) (ord.idxOf j)) = min (ord.idxOf i) (ord.idxOf j) by omega]
  · have a := h.w i j d v hi hj e
    refine ⟨?_, a.1, a.2⟩
    have b := h.v i j hi hj
    rw [e] at b
    unfold bgT at b
    by_cases c : i = j
    · rw [if_pos c] at b; cases b
    · rw [if_neg c] at b
      have s := lw_small (fun t ht => ⟨(hw.ok t ht).2.2.1, (hw.ok t ht).2.2.2⟩) b.symm
      have n12 := hw.nm.l2
      rw [List.length_take] at s
      have : 1000000 * (min (min ns.length (min (ord.idxOf i) (ord.idxOf j))) ord.length + 1) ≤ 1000000 * 13 := Nat.mul_le_mul_left _ (by omega)
      dsimp only at s
      omega
/-- a part of the pairs of one place -/
def PM (M : Brg) (v : Nat) (A : List Nat) (a b : Nat) : Brg := fun i j => if (i ∈ A.take a ∧ j ∈ A) ∨ (A[a]? = some i ∧ j ∈ A.take b) then rlxM M v i j else M i j
theorem pm_0 {M : Brg} {v : Nat} {A : List Nat} : PM M v A 0 0 = M := by
  funext i j
  unfold PM
  rw [if_neg]
  rintro (⟨z, _⟩ | ⟨_, z⟩) <;> simp at z
theorem pm_row {M : Brg} {v : Nat} {A : List Nat} {a : Nat} (h : a < A.length) : PM M v A a A.length = PM M v A (a + 1) 0 := by
  funext i j
  unfold PM
  have e : ((i ∈ A.take a ∧ j ∈ A) ∨ (A[a]? = some i ∧ j ∈ A.take A.length)) ↔ ((i ∈ A.take (a + 1) ∧ j ∈ A) ∨ (A[a + 1]? = some i ∧ j ∈ A.take 0)) := by
    rw [List.take_length, List.take_zero, List.take_add_one, List.mem_append, Option.mem_toList]
    simp only [List.not_mem_nil, and_false, or_false]
    constructor
    · rintro (z | z)
      · exact ⟨.inl z.1, z.2⟩
      · exact ⟨.inr z.1, z.2⟩
    · rintro ⟨z | z, y⟩
      · exact .inl ⟨z, y⟩
      · exact .inr ⟨z, y⟩
  by_cases c : (i ∈ A.take a ∧ j ∈ A) ∨ (A[a]? = some i ∧ j ∈ A.take A.length)
  · rw [if_pos c, if_pos (e.mp c)]
  · rw [if_neg c, if_neg (fun z => c (e.mpr z))]
theorem pm_end {M : Brg} {v : Nat} {A : List Nat} (i j : Nat) : PM M v A A.length 0 i j = if i ∈ A ∧ j ∈ A then rlxM M v i j else M i j := by
  unfold PM
  rw [List.take_length, List.take_zero]
  simp
theorem pm_step {M : Brg} {v : Nat} {A : List Nat} {a b x y : Nat} (hx : A[a]? = some x) (hy : A[b]? = some y) (i j : Nat) : PM M v A a (b + 1) i j = if i = x ∧ j = y then rlxM M v x y else PM M v A a b i j := by
  unfold PM
  rw [List.take_add_one, hy, hx]
  by_cases c : i = x ∧ j = y
  · rw [if_pos c, c.1, c.2, if_pos]
    exact .inr ⟨rfl, by simp⟩
  · rw [if_neg c]
    have e : ((i ∈ A.take a ∧ j ∈ A) ∨ (some x = some i ∧ j ∈ A.take b ++ (some y).toList)) ↔ ((i ∈ A.take a ∧ j ∈ A) ∨ (some x = some i ∧ j ∈ A.take b)) := by
      constructor
      · rintro (z | ⟨z1, z2⟩)
        · exact .inl z
        · rcases List.mem_append.mp z2 with q | q
          · exact .inr ⟨z1, q⟩
          · simp at q
            exact absurd ⟨(Option.some.inj z1).symm, q⟩ c
      · rintro (z | ⟨z1, z2⟩)
        · exact .inl z
        · exact .inr ⟨z1, List.mem_append_left _ z2⟩
    by_cases q : (i ∈ A.take a ∧ j ∈ A) ∨ (some x = some i ∧ j ∈ A.take b)
    · rw [if_pos q, if_pos (e.mpr q)]
    · rw [if_neg q, if_neg (fun z => q (e.mp z))]
theorem nd_not_take {A : List Nat} (hn : A.Nodup) {a x : Nat} (hx : A[a]? = some x) : x ∉ A.take a := by
  intro h
  obtain ⟨i, hi, e⟩ := List.mem_iff_getElem.mp h
  rw [List.length_take] at hi
  rw [List.getElem_take] at e
  have h1 : A[i]? = some x := by rw [List.getElem?_eq_getElem (by omega), e]
  have := (List.getElem?_inj (show i < A.length by omega) hn).mp (h1.trans hx.symm)
  omega
theorem pm_here {M : Brg} {v : Nat} {A : List Nat} (hn : A.Nodup) {a b x y : Nat} (hx : A[a]? = some x) (hy : A[b]? = some y) : PM M v A a b x y = M x y := by
  unfold PM
  rw [if_neg]
  rintro (⟨z, _⟩ | ⟨_, z⟩)
  · exact nd_not_take hn hx z
  · exact nd_not_take hn hy z
theorem pm_v {M : Brg} {v : Nat} {A : List Nat} (hv : v ∉ A) {a b y : Nat} : PM M v A a b v y = M v y := by
  unfold PM
  rw [if_neg]
  rintro (⟨z, _⟩ | ⟨z, _⟩)
  · exact hv (List.mem_of_mem_take z)
  · exact hv (List.mem_of_getElem? z)

theorem nm_ord_get {ns : List Str} {ord : List Nat} {i : Nat} {d : D} (h : ((ord.map (nmAt ns)).map D.str)[i]? = some d) : ∃ k, d = .str (nmAt ns k) ∧ ord[i]? = some k := by
  rw [List.map_map, List.getElem?_map] at h
  cases e : ord[i]? with
  | none => rw [e] at h; cases h
  | some k => rw [e] at h; cases h; exact ⟨k, rfl, rfl⟩
def ifS (p : Str → Bool) : D → Option D
  | .str s => if p s = true then some (.str s) else none
  | _ => none
theorem ifS_map {f : Nat → Str} {p : Str → Bool} : ∀ l : List Nat, ((l.map f).map D.str).filterMap (ifS p) = ((l.filter fun k => p (f k)).map f).map D.str
  | [] => rfl
  | k :: l => by
    have e : ifS p (.str (f k)) = if p (f k) = true then some (.str (f k)) else none := rfl
    rw [List.map_cons, List.map_cons, List.filterMap_cons, List.filter_cons, ifS_map l, e]
    by_cases c : p (f k) = true
    · rw [if_pos c, if_pos c]; rfl
    · rw [if_neg c, if_neg c]
theorem ix_lk0 {ns : List Str} {q : Nat × Option Nat} {k : R → Prop} (h : k (.d (.int (q.1 : Nat)))) : dIxC (lkD ns q) (.int 0) k := dIxC_u (xs := [.int (q.1 : Nat), inD' ns q.2]) rfl h
theorem ws_bridged (cn0 : Cn) : WsC (Fx := fun K cn => XF K cn ∧ cn = cn0) (S_bridged cn0) t_bridged [.no, .no, .no, .no, .no, .no, .no, .no] := by
  rintro K cn as Φ ⟨fx, rfl⟩ ⟨ns, L, tt, ord, rfl, hw, hp, h⟩
  have hn12 := hw.nm.l2
  have hnd := hw.nm.nd
  have hon : ord.Nodup := hp.nodup_iff.mpr List.nodup_range
  have hol : ord.length = ns.length := by rw [hp.length_eq, List.length_range]
  have hlt : ∀ k ∈ ord, k < ns.length := fun k hk => List.mem_range.mp (hp.mem_iff.mp hk)
  unfold t_bridged
  walk_at "d0"
  walk_at "d"
  refine use_linked hw fun bk kvs0 hl0 hc0 ht0 => ?_
  walk_at "q"
  refine w_seq ?_
  refine w_for (wi_enX (t := tt) ?_)
  walk_at "d"
  refine ⟨_, rfl, fun t δ' => ∃ (kvs : List (List Key × D)) (M : Brg) (s3 s4 s5 s7 s8 s9 : Sl), δ' = [.d (webD (cn.ad CWeb) ns L), .d (seqX tt ((ord.map (nmAt ns)).map .str)), .own bk (.dcT kvs), s3, s4, s5, .no, s7, s8, s9] ∧ kvs.length ≤ 100 + 144 * t ∧ tscK kvs ∧ TabK ns (fun i j => (M i j).map (lkD ns)) kvs ∧ BrS L ord ns.length t M, ⟨kvs0, _, _, _, _, _, _, _, rfl, hl0, hc0, ht0.cong fun i j _ _ => by rw [Option.map_map]; rfl, brs_0 fun t ht => (hw.ok t ht).1⟩, fun t d δ' hd ⟨kvs, M, s3, s4, s5, s7, s8, s9, e, hl, hc, ht, hb⟩ => ?_, fun δ' ⟨kvs, M, s3, s4, s5, s7, s8, s9, e, hl, hc, ht, hb⟩ => ?_⟩
  · subst e
    obtain ⟨x, rfl, hx⟩ := enum_strs hd
    rw [List.getElem?_map] at hx
    cases hv : ord[t]? with
    | none => rw [hv] at hx; cases hx
    | some v =>
      rw [hv] at hx
      cases hx
      have htl := (List.getElem?_eq_some_iff.mp hv).1
      have vn := hlt v (List.mem_of_getElem? hv)
      walk_at "d"
      refine we_lcP (wi_slX (t := tt) ?_)
      walk_at "d"
      refine ⟨(ord.map (nmAt ns)).map .str, rfl, fun z => (by
        have z1 := z.1
        rw [show (t : Int) + 1 = ((t + 1 : Nat) : Int) by omega, HT.sIx_nat, List.length_map, List.length_map] at z1
        omega), ?_⟩
      rw [show (t : Int) + 1 = ((t + 1 : Nat) : Int) by omega, cut_from, ← List.map_drop, ← List.map_drop]
      obtain ⟨A, hA⟩ : ∃ A, A = (ord.drop (t + 1)).filter fun j => (getT kvs (kT2 ns v j)).isSome := ⟨_, rfl⟩
      have hAd : ∀ j ∈ A, j ∈ ord.drop (t + 1) := fun j hj => by rw [hA] at hj; exact (List.mem_filter.mp hj).1
      have hAn : ∀ j ∈ A, j < ns.length := fun j hj => hlt j (List.mem_of_mem_drop (hAd j hj))
      have hAM : ∀ j, j ∈ A ↔ j ∈ ord.drop (t + 1) ∧ (M v j).isSome = true := fun j => by
        rw [hA, List.mem_filter]
        constructor
        · rintro ⟨z1, z2⟩
          refine ⟨z1, ?_⟩
          rw [ht v j vn (hlt j (List.mem_of_mem_drop z1))] at z2
          dsimp only at z2
          cases q : M v j with
          | none => rw [q] at z2; cases z2
          | some y => rfl
        · rintro ⟨z1, z2⟩
          refine ⟨z1, ?_⟩
          rw [ht v j vn (hlt j (List.mem_of_mem_drop z1))]
          dsimp only
          cases q : M v j with
          | none => rw [q] at z2; cases z2
          | some y => rfl
      have hAnd : A.Nodup := by rw [hA]; exact (List.filter_sublist.trans (List.drop_sublist _ _)).nodup hon
      have hvA : v ∉ A := fun z => by
        have := (idx_drop hon).mp (hAd v z)
        rw [idx_at hon hv] at this
        omega
      have hAl : A.length ≤ 12 := by rw [hA]; exact Nat.le_trans (List.length_filter_le _ _) (by rw [List.length_drop]; omega)
      refine ⟨⟨trivial, trivial⟩, by rw [List.length_map, List.length_map, List.length_drop]; omega, ifS fun s => (getT kvs [.inr (nmAt ns v), .inr s]).isSome, fun i d hd => ?_, fun ba => ?_⟩
      · obtain ⟨k, rfl, hk⟩ : ∃ k, d = .str (nmAt ns k) ∧ (ord.drop (t + 1))[i]? = some k := by
          rw [List.map_map, List.getElem?_map] at hd
          cases e : (ord.drop (t + 1))[i]? with
          | none => rw [e] at hd; cases hd
          | some k => rw [e] at hd; cases hd; exact ⟨k, rfl, rfl⟩
        refine wgc_name (by simp) rfl ?_
        walk_at "d"
        refine dInC_tI (key_2 (ns := ns) (i := v) (j := k)) ?_
        walk_at "d"
        refine ⟨fun h1 => ?_, fun h1 => ?_⟩
        · walk_at "d"
          first | exact ⟨_, rfl, if_pos h1⟩ | exact if_pos h1
        · exact if_neg (by show ¬ (getT kvs (kT2 ns v k)).isSome = true; rw [h1]; exact Bool.false_ne_true)
      rw [ifS_map, show ((ord.drop (t + 1)).filter fun k => (getT kvs [.inr (nmAt ns v), .inr (nmAt ns k)]).isSome) = A from hA.symm]
      clear hA
      walk_at "q"
      refine w_frz 5 rfl ?_
      walk_at "k"
      have hMs : ∀ x, x ∈ A → ∃ y, M v x = some y := fun x hx => Option.isSome_iff_exists.mp ((hAM x).mp hx).2
      refine w_for (wi_any ?_)
      walk_at "d"
      refine ⟨_, _, rfl, rfl, fun a δ' => ∃ (kvs : List (List Key × D)) (s7 s8 s9 : Sl), δ' = [.d (webD (cn.ad CWeb) ns L), .d (seqX tt ((ord.map (nmAt ns)).map .str)), .own bk (.dcT kvs), .d (.int (t : Nat)), .d (.str (nmAt ns v)), .d (.lst ((A.map (nmAt ns)).map .str)), .no, s7, s8, s9] ∧ kvs.length ≤ 100 + 144 * t + 12 * a ∧ tscK kvs ∧ TabK ns (fun i j => (PM M v A a 0 i j).map (lkD ns)) kvs, ⟨kvs, _, _, _, rfl, by omega, hc, by rw [pm_0]; exact ht⟩, fun a d δ' hd ⟨kvs, s7, s8, s9, e, hl, hc, ht⟩ => ?_, fun δ' ⟨kvs, s7, s8, s9, e, hl, hc, ht⟩ => ?_⟩
      · subst e
        obtain ⟨x, rfl, hx⟩ := nm_ord_get hd
        have hal := (List.getElem?_eq_some_iff.mp hx).1
        have hxA := List.mem_of_getElem? hx
        have xn := hAn x hxA
        obtain ⟨⟨d1, w1⟩, hm1⟩ := hMs x hxA
        walk_at "d"
        refine w_for (wi_any ?_)
        walk_at "d"
        refine ⟨_, _, rfl, rfl, fun b δ' => ∃ (kvs : List (List Key × D)) (s8 s9 : Sl), δ' = [.d (webD (cn.ad CWeb) ns L), .d (seqX tt ((ord.map (nmAt ns)).map .str)), .own bk (.dcT kvs), .d (.int (t : Nat)), .d (.str (nmAt ns v)), .d (.lst ((A.map (nmAt ns)).map .str)), .no, .d (.str (nmAt ns x)), s8, s9] ∧ kvs.length ≤ 100 + 144 * t + 12 * a + b ∧ tscK kvs ∧ TabK ns (fun i j => (PM M v A a b i j).map (lkD ns)) kvs, ⟨kvs, _, _, rfl, by omega, hc, ht⟩, fun b d δ' hd ⟨kvs, s8, s9, e, hl, hc, ht⟩ => ?_, fun δ' ⟨kvs, s8, s9, e, hl, hc, ht⟩ => ?_⟩
        · subst e
          obtain ⟨y, rfl, hy⟩ := nm_ord_get hd
          have hbl := (List.getElem?_eq_some_iff.mp hy).1
          have hyA := List.mem_of_getElem? hy
          have yn := hAn y hyA
          obtain ⟨⟨d2, w2⟩, hm2⟩ := hMs y hyA
          walk_at "d"
          refine dIxC_t (key_2 (ns := ns) (i := v) (j := x)) (by rw [ht v x vn xn]; dsimp only; rw [pm_v hvA, hm1]; rfl) ?_
          walk_at "d"
          refine ix_lk0 ?_
          walk_at "d"
          refine dIxC_t (key_2 (ns := ns) (i := v) (j := y)) (by rw [ht v y vn yn]; dsimp only; rw [pm_v hvA, hm2]; rfl) ?_
          walk_at "d"
          refine ix_lk0 ?_
          walk_at "d"
          rw [show ((d1 : Nat) : Int) + ((d2 : Nat) : Int) = ((d1 + d2 : Nat) : Int) from rfl]
          have hT : getT kvs (kT2 ns x y) = (M x y).map (lkD ns) := by rw [ht x y xn yn]; dsimp only; rw [pm_here hAnd hx hy]
          have keep : rlxM M v x y = M x y → TabK ns (fun i j => (PM M v A a (b + 1) i j).map (lkD ns)) kvs := fun e => ht.cong fun i j _ _ => by
            rw [pm_step hx hy i j, e]
            by_cases c : i = x ∧ j = y
            · rw [if_pos c, c.1, c.2, pm_here hAnd hx hy]
            · rw [if_neg c]
          have put : rlxM M v x y = some (d1 + d2, some v) → TabK ns (fun i j => (PM M v A a (b + 1) i j).map (lkD ns)) (putT kvs (kT2 ns x y) (lkD ns (d1 + d2, some v))) := fun e => (ht.put hnd xn yn (lkD ns (d1 + d2, some v))).cong fun i j _ _ => by
            unfold upd2
            rw [pm_step hx hy i j, e]
            by_cases c : i = x ∧ j = y
            · rw [if_pos c, if_pos c]; rfl
            · rw [if_neg c, if_neg c]
          have hpl := putT_len kvs (kT2 ns x y) (lkD ns (d1 + d2, some v))
          have rl : x ≠ y → (∀ d, M x y = some d → d1 + d2 < d.1) → rlxM M v x y = some (d1 + d2, some v) := fun h1 h2 => by
            unfold rlxM
            rw [hm1, hm2]
            exact if_pos ⟨h1, h2⟩
          have rl2 : ¬ (x ≠ y ∧ ∀ d, M x y = some d → d1 + d2 < d.1) → rlxM M v x y = M x y := fun h1 => by
            unfold rlxM
            rw [hm1, hm2]
            exact if_neg h1
          refine br_n (fun q => ?_) (fun q => ?_)
          · have hxy : x ≠ y := fun z => q (by rw [z])
            walk_at "d"
            refine dInC_tN (key_2 (ns := ns) (i := x) (j := y)) ?_
            rw [hT]
            cases hm3 : M x y with
            | none =>
              refine ⟨true, rfl, br_t ?_⟩
              walk_at "t"
              refine wg_setT ?_
              walk_at "d"
              refine ⟨_, kT2 ns x y, kvs, rfl, rfl, rfl, by omega, fun δ3 e => ?_⟩
              subst e
              walk_at "k"
              exact ⟨putT kvs (kT2 ns x y) (lkD ns (d1 + d2, some v)), _, _, rfl, Nat.le_trans hpl (by omega), tscK_putT (tsc_lk _ _) hc _, put (rl hxy fun d hd => by rw [hm3] at hd; cases hd)⟩
            | some d0 =>
              refine ⟨false, rfl, br_f ?_⟩
              walk_at "d"
              refine dIxC_t (key_2 (ns := ns) (i := x) (j := y)) (by rw [hT, hm3]; rfl) ?_
              walk_at "d"
              refine ix_lk0 ?_
              walk_at "d"
              refine br_d (fun q2 => ?_) (fun q2 => ?_)
              · walk_at "t"
                refine wg_setT ?_
                walk_at "d"
                refine ⟨_, kT2 ns x y, kvs, rfl, rfl, rfl, by omega, fun δ3 e => ?_⟩
                subst e
                walk_at "k"
                exact ⟨putT kvs (kT2 ns x y) (lkD ns (d1 + d2, some v)), _, _, rfl, Nat.le_trans hpl (by omega), tscK_putT (tsc_lk _ _) hc _, put (rl hxy fun d hd => by rw [hm3] at hd; cases hd; omega)⟩
              · walk_at "x"
                exact ⟨kvs, _, _, rfl, by omega, hc, keep (rl2 fun z => q2 (by have := z.2 d0 hm3; omega))⟩
          · have hxy : x = y := nm_inj hnd xn yn q
            walk_at "x"
            exact ⟨kvs, _, _, rfl, by omega, hc, keep (rl2 fun z => z.1 hxy)⟩
        · subst e
          rw [List.length_map, List.length_map] at hl ht
          walk_at "d"
          exact ⟨kvs, _, _, _, rfl, by omega, hc, by rw [← pm_row hal]; exact ht⟩
      · subst e
        rw [List.length_map, List.length_map] at hl ht
        walk_at "d"
        exact ⟨kvs, PM M v A A.length 0, _, _, _, _, _, _, rfl, by omega, hc, ht, brs_next hp hv hb hAM fun i j hi hj => pm_end i j⟩
  · subst e
    rw [show (enumD ((ord.map (nmAt ns)).map D.str)).length = ns.length by unfold enumD; rw [List.length_map, List.length_range, List.length_map, List.length_map, hol]] at hb
    walk_at "d"
    exact ⟨trivial, Nat.le_of_ble_eq_true rfl, _, rfl, h bk kvs (brs_end hw hp hb ht) hc⟩

section
variable {P : R → List Sl → Prop} {Y : Nat → D → Prop} {cn : Cn} {ns : List Str} {L : List Tie} {ord : List Nat} {kvs : List (List Key × D)}
theorem use_bridged (hw : WbOk ns L) (hp : ord.Perm (List.range ns.length)) {t : Bool} (q : ∀ b kvs, LkOk ns L ord kvs → tscK kvs → P (.own b (.dcT kvs)) [.d (webD (cn.ad CWeb) ns L), .d (seqX t ((ord.map (nmAt ns)).map .str))]) :
    ∀ Ψ : R → List Sl → Prop, (∀ r as', ownOut r → P r as' → Ψ r as') → S_bridged cn [.d (webD (cn.ad CWeb) ns L), .d (seqX t ((ord.map (nmAt ns)).map .str))] Ψ := fun Ψ k => ⟨ns, L, t, ord, rfl, hw, hp, fun b kvs h1 h2 => k _ _ trivial (q b kvs h1 h2)⟩
theorem use_norder {t : Bool} {s : Sl} (hn : NmOk ns) (hp : ord.Perm (List.range ns.length)) (hs : Arg (nsD t (ord.map (nmAt ns))) s) (q : P (.d .non) [.d (webD (cn.ad CWeb) ns L), s]) : S_need_order cn [.d (webD (cn.ad CWeb) ns L), s] P Y := ⟨ns, L, t, ord, s, rfl, hn, hp, hs, q⟩
end
theorem ws_Heights___init__ (cn0 : Cn) : WsXC (Fx := fun K cn => XF K cn ∧ cn = cn0) (S_Heights___init__ cn0) t_Heights___init__ [] := by
  rintro K cn Wx as Φ Y ⟨fx, rfl⟩ ⟨a, ns, L, t, ord, s, rfl, hw, hp, hs, h⟩
  unfold t_Heights___init__
  walk_at "d0"
  rcases hs with _ | bo <;> cases t
  all_goals
    simp only [seqX]
    walk_at "d"
    refine we_callXO ?_
    walk_at "d"
    refine ⟨_, (by first | exact toAs_d (toAs_d toAs_nil) | exact toAs_d (toAs_b rfl toAs_nil)), (by first | exact List.nodup_nil | (show [_].Nodup; simp)), fun P Y' k1 k2 => ?_⟩
    first | refine use_norder (t := false) hw.nm hp (by constructor) (k1 _ _ trivial ?_) | refine use_norder (t := true) hw.nm hp (by constructor) (k1 _ _ trivial ?_)
    try walk_at "k"
    walk_at "d"
    refine w_setF ?_
    walk_at "d"
    refine ⟨0, a, cn.ad CHeights, [], rfl, rfl, fx.cls_Heights, fx.na_Heights_high_web, Nat.le_of_ble_eq_true rfl, fun δ3 e => ?_⟩
    rw [put_h1] at e
    subst e
    try walk_at "k"
    walk_at "d"
    refine w_setF ?_
    walk_at "d"
    refine ⟨_, rfl, .inl ⟨(ord.map (nmAt ns)).map .str, rfl, fun b2 => ?_⟩⟩
    walk_at "d"
    refine ⟨0, a, cn.ad CHeights, _, rfl, rfl, fx.cls_Heights, fx.na_Heights_climbed, Nat.le_of_ble_eq_true rfl, fun δ3 e => ?_⟩
    rw [put_h2] at e
    subst e
    try walk_at "k"
    walk_at "d"
    refine w_setF ?_
    try refine we_lend 2 _ rfl rfl ?_
    walk_at "d"
    first | refine use_bridged (t := false) hw hp fun b3 kvs hk hc => ?_ | refine use_bridged (t := true) hw hp fun b3 kvs hk hc => ?_
    try refine ⟨hc, ?_⟩
    walk_at "d"
    refine ⟨0, a, cn.ad CHeights, _, rfl, rfl, fx.cls_Heights, fx.na_Heights_links, Nat.le_of_ble_eq_true rfl, fun δ3 e => ?_⟩
    rw [put_h3] at e
    subst e
    exact ⟨by first | exact ⟨rfl, trivial⟩ | exact ⟨rfl, rfl, trivial⟩ | exact ⟨rfl, rfl, rfl, trivial⟩, h kvs ⟨hw, hp, hk⟩⟩
theorem ws_Heights_order (cn0 : Cn) : WsC (Fx := fun K cn => XF K cn ∧ cn = cn0) (S_Heights_order cn0) t_Heights_order [] := by
  rintro K cn as Φ ⟨fx, rfl⟩ ⟨ns, L, ord, kvs, rfl, h⟩
  unfold t_Heights_order
  walk_at "d0"
  walk_at "D"
  refine ⟨_, rfl, .inl ⟨_, rfl, fun b => ?_⟩⟩
  walk_at "D"
  exact ⟨trivial, h b⟩
theorem atD_ord {ns : List Str} (hn : ns.Nodup) {h : Nat} (hh : h < ns.length) : ∀ w : List Nat, (∀ k ∈ w, k < ns.length) → h ∈ w → atD (.str (nmAt ns h)) ((w.map (nmAt ns)).map D.str) = some (w.idxOf h)
  | k :: w, hw, hm => by
    have e1 : eqF (D.str (nmAt ns k)) (.str (nmAt ns h)) = decide (nmAt ns k = nmAt ns h) := rfl
    show (if eqF (D.str (nmAt ns k)) (.str (nmAt ns h)) = true then some 0 else (atD (.str (nmAt ns h)) ((w.map (nmAt ns)).map D.str)).map (· + 1)) = _
    rw [e1, List.idxOf_cons]
    by_cases q : k = h
    · subst q
      rw [if_pos (decide_eq_true rfl)]
      simp
    · have q2 : nmAt ns k ≠ nmAt ns h := fun z => q (nm_inj hn (hw k List.mem_cons_self) hh z)
      rw [if_neg (by rw [decide_eq_false q2]; exact Bool.false_ne_true), atD_ord hn hh w (fun u hu => hw u (List.mem_cons_of_mem _ hu)) ((List.mem_cons.mp hm).resolve_left fun z => q z.symm)]
      rw [show (k == h) = false from beq_eq_false_iff_ne.mpr q]
      rfl
theorem LkOk.isSome {ns : List Str} {L : List Tie} {ord : List Nat} {kvs : List (List Key × D)} (h : LkOk ns L ord kvs) {i j : Nat} (hi : i < ns.length) (hj : j < ns.length) : (getT kvs (kT2 ns i j)).isSome = (bgN L ord i j).isSome := by
  obtain ⟨o, e1, e2, _⟩ := h.at_ i j hi hj
  rw [e1, ← e2]
  cases o <;> rfl
theorem LkOk.get {ns : List Str} {L : List Tie} {ord : List Nat} {kvs : List (List Key × D)} (h : LkOk ns L ord kvs) {i j d : Nat} (hi : i < ns.length) (hj : j < ns.length) (e : bgN L ord i j = some d) : ∃ v, getT kvs (kT2 ns i j) = some (lkD ns (d, v)) := by
  obtain ⟨o, e1, e2, _⟩ := h.at_ i j hi hj
  cases o with
  | none => rw [e] at e2; cases e2
  | some q =>
    obtain ⟨d', v⟩ := q
    rw [e] at e2
    cases e2
    exact ⟨v, e1⟩
theorem HgOk.lt {ns : List Str} {L : List Tie} {ord : List Nat} {kvs : List (List Key × D)} (h : HgOk ns L ord kvs) : ∀ k ∈ ord, k < ns.length := fun k hk => List.mem_range.mp (h.p.mem_iff.mp hk)
theorem HgOk.mem {ns : List Str} {L : List Tie} {ord : List Nat} {kvs : List (List Key × D)} (h : HgOk ns L ord kvs) {i : Nat} (hi : i < ns.length) : i ∈ ord := h.p.mem_iff.mpr (List.mem_range.mpr hi)
theorem HgOk.nd {ns : List Str} {L : List Tie} {ord : List Nat} {kvs : List (List Key × D)} (h : HgOk ns L ord kvs) : ord.Nodup := h.p.nodup_iff.mpr List.nodup_range
theorem HgOk.len {ns : List Str} {L : List Tie} {ord : List Nat} {kvs : List (List Key × D)} (h : HgOk ns L ord kvs) : ord.length = ns.length := by rw [h.p.length_eq, List.length_range]
theorem up_mem {L : List Tie} {ord : List Nat} (hn : ord.Nodup) {i j : Nat} : j ∈ upN L ord i ↔ j ∈ ord ∧ ord.idxOf i < ord.idxOf j ∧ (bgN L ord i j).isSome = true := by
  unfold upN
  rw [List.mem_filter, idx_drop hn]
  exact ⟨fun ⟨⟨a, b⟩, c⟩ => ⟨a, by omega, c⟩, fun ⟨a, b, c⟩ => ⟨⟨a, by omega⟩, c⟩⟩
theorem up_len {L : List Tie} {ord : List Nat} {i : Nat} : (upN L ord i).length ≤ ord.length := by
  unfold upN
  exact Nat.le_trans (List.length_filter_le _ _) (by rw [List.length_drop]; omega)
theorem ws_Heights_above (cn0 : Cn) : WsC (Fx := fun K cn => XF K cn ∧ cn = cn0) (S_Heights_above cn0) t_Heights_above [.no, .no] := by
  rintro K cn as Φ ⟨fx, rfl⟩ ⟨ns, L, ord, kvs, i, rfl, hg, hi, h⟩
  have hn12 := hg.w.nm.l2
  have hol := hg.len
  unfold t_Heights_above
  walk_at "d0"
  walk_at "D"
  refine ⟨_, _, _, rfl, rfl, rfl, flat_strs _, atD_ord hg.w.nm.nd hi ord hg.lt (hg.mem hi), ?_⟩
  walk_at "d"
  refine we_lcP (wi_any ?_)
  walk_at "D"
  rw [show ((ord.idxOf i : Nat) : Int) + 1 = ((ord.idxOf i + 1 : Nat) : Int) by omega, cut_from, ← List.map_drop, ← List.map_drop]
  refine ⟨_, _, rfl, rfl, ⟨trivial, trivial⟩, by rw [List.length_map, List.length_map, List.length_drop]; omega, ifS fun s => (getT kvs [.inr (nmAt ns i), .inr s]).isSome, fun j d hd => ?_, fun b => ?_⟩
  · obtain ⟨k, rfl, hk⟩ : ∃ k, d = .str (nmAt ns k) ∧ (ord.drop (ord.idxOf i + 1))[j]? = some k := by
      rw [List.map_map, List.getElem?_map] at hd
      cases e : (ord.drop (ord.idxOf i + 1))[j]? with
      | none => rw [e] at hd; cases hd
      | some k => rw [e] at hd; cases hd; exact ⟨k, rfl, rfl⟩
    refine wgc_name (by simp) rfl ?_
    walk_at "D"
    refine dInC_tI (key_2 (ns := ns) (i := i) (j := k)) ?_
    walk_at "d"
    refine ⟨fun h1 => ?_, fun h1 => ?_⟩
    · walk_at "d"
      first | exact ⟨_, rfl, if_pos h1⟩ | exact if_pos h1
    · exact if_neg (by show ¬ (getT kvs (kT2 ns i k)).isSome = true; rw [h1]; exact Bool.false_ne_true)
  · rw [ifS_map]
    have e : ((ord.drop (ord.idxOf i + 1)).filter fun k => (getT kvs [.inr (nmAt ns i), .inr (nmAt ns k)]).isSome) = upN L ord i := by
      unfold upN
      exact List.filter_congr fun k hk => hg.k.isSome hi (hg.lt k (List.mem_of_mem_drop hk))
    rw [e]
    exact ⟨trivial, h b⟩
section
variable {P : R → List Sl → Prop} {Y : Nat → D → Prop} {cn : Cn} {ns : List Str} {L : List Tie} {ord : List Nat} {kvs : List (List Key × D)}
theorem use_above {i : Nat} (hg : HgOk ns L ord kvs) (hi : i < ns.length) (q : ∀ b, P (.own b (.lst (((upN L ord i).map (nmAt ns)).map .str))) [.d (highD (cn.ad CHeights) (cn.ad CWeb) ns L ord kvs), .d (.str (nmAt ns i))]) :
    ∀ Ψ : R → List Sl → Prop, (∀ r as', ownOut r → P r as' → Ψ r as') → S_Heights_above cn [.d (highD (cn.ad CHeights) (cn.ad CWeb) ns L ord kvs), .d (.str (nmAt ns i))] Ψ := fun Ψ k => ⟨ns, L, ord, kvs, i, rfl, hg, hi, fun b => k _ _ trivial (q b)⟩
theorem use_heights {a : Addr} {s : Sl} (hw : WbOk ns L) (hp : ord.Perm (List.range ns.length)) {t : Bool} (hs : Arg (seqX t ((ord.map (nmAt ns)).map .str)) s) (q : ∀ kvs, HgOk ns L ord kvs → P (.d .non) [.own a (highD (cn.ad CHeights) (cn.ad CWeb) ns L ord kvs), .d (webD (cn.ad CWeb) ns L), s]) : S_Heights___init__ cn [.own a (.obj (cn.ad CHeights) []), .d (webD (cn.ad CWeb) ns L), s] P Y := ⟨a, ns, L, t, ord, s, rfl, hw, hp, hs, q⟩
end

/-! going round over the ties -/
/-- one tie, from its first place to its second one -/
structure BfS (L : List Tie) (S : List Nat) (i : Nat) (R : List (Nat × Nat)) : Prop where
  nd : (R.map Prod.fst).Nodup
  wk : ∀ x d, R.lookup x = some d → WkS L S i x d
  s0 : R.lookup i = some 0
/-- what is not farther than the first k is final -/
def Done (L : List Tie) (S : List Nat) (i k : Nat) (R : List (Nat × Nat)) : Prop := ∀ x d, Least (WkS L S i x) (some d) → cntN L S i d ≤ k → R.lookup x = some d
/-- of these ties, all that start at what is final are drawn along -/
def Along (L : List Tie) (S : List Nat) (i k : Nat) (V : List Tri) (R : List (Nat × Nat)) : Prop := ∀ q ∈ V, q.2.1 ∈ S → ∀ d, Least (WkS L S i q.1) (some d) → cntN L S i d ≤ k → ∃ e, R.lookup q.2.1 = some e ∧ e ≤ d + q.2.2
theorem bfs_start {L : List Tie} {S : List Nat} {i : Nat} : BfS L S i [(i, 0)] := by
  refine ⟨by simp, fun x d h => ?_, by simp [List.lookup]⟩
  rw [List.lookup_cons] at h
  by_cases c : x = i
  · subst c
    simp at h
    subst h
    exact .refl
  · rw [show (x == i) = false by simpa using c] at h
    cases h
theorem wk_zero {L : List Tie} {S : List Nat} {i x : Nat} (hL : ∀ t ∈ L, 1 ≤ t.2 ∧ t.2 ≤ 1000000) (h : WkS L S i x 0) : x = i := by
  obtain ⟨e, a, b⟩ := wk_least h
  have e0 : e = 0 := by omega
  subst e0
  rcases wk_pred hL a with ⟨z, _⟩ | ⟨j, d', l, _, _, c, _, d, _⟩
  · exact z
  · omega
theorem cnt_zero {L : List Tie} {S : List Nat} {i x d : Nat} (h : Least (WkS L S i x) (some d)) (hc : cntN L S i d ≤ 0) : d = 0 := by
  refine Classical.byContradiction fun z => ?_
  have a : Least (WkS L S i i) (some 0) := ⟨.refl, fun _ _ => Nat.zero_le _⟩
  have := cnt_lt a (show 0 < d by omega)
  omega
theorem done_0 {L : List Tie} {S : List Nat} {i : Nat} (hL : ∀ t ∈ L, 1 ≤ t.2 ∧ t.2 ≤ 1000000) : Done L S i 0 [(i, 0)] := fun x d h hc => by
  have e := cnt_zero h hc
  subst e
  have := wk_zero hL h.1
  subst this
  simp [List.lookup]
/-- ties both ways -/
def bothT (U : List Tri) : List Tri := U ++ U.map fun q => (q.2.1, q.1, q.2.2)
theorem both_look {n : Nat} {U : List Tri} (hU : TriOk n U) {q : Tri} (hq : q ∈ bothT U) : (U.map triT).lookup (mm q.1 q.2.1) = some q.2.2 := by
  have hn : ((U.map triT).map Prod.fst).Nodup := by rw [List.map_map]; exact hU.nd
  rcases List.mem_append.mp hq with h | h
  · exact look_mem hn (t := triT q) (List.mem_map_of_mem h)
  · obtain ⟨r, hr, rfl⟩ := List.mem_map.mp h
    dsimp only
    rw [mm_comm3]
    exact look_mem hn (t := triT r) (List.mem_map_of_mem hr)
theorem both_of {U : List Tri} {i j l : Nat} (h : (U.map triT).lookup (mm i j) = some l) : (i, j, l) ∈ bothT U := by
  obtain ⟨q, hq, e⟩ := List.mem_map.mp (look_ok h)
  unfold triT at e
  rw [Prod.mk.injEq] at e
  obtain ⟨e1, e2⟩ := e
  unfold mm at e1
  rw [Prod.mk.injEq] at e1
  obtain ⟨a, b, c⟩ := q
  dsimp only at e1 e2
  subst e2
  have : (a = i ∧ b = j) ∨ (a = j ∧ b = i) := by omega
  rcases this with ⟨rfl, rfl⟩ | ⟨rfl, rfl⟩
  · exact List.mem_append_left _ hq
  · exact List.mem_append_right _ (List.mem_map.mpr ⟨_, hq, rfl⟩)
theorem both_lt {n : Nat} {U : List Tri} (hU : TriOk n U) {q : Tri} (hq : q ∈ bothT U) : q.1 < n ∧ q.2.1 < n ∧ 1 ≤ q.2.2 ∧ q.2.2 ≤ 1000000 := by
  rcases List.mem_append.mp hq with h | h
  · have := hU.ok q h; omega
  · obtain ⟨r, hr, rfl⟩ := List.mem_map.mp h
    have := hU.ok r hr
    dsimp only
    omega
theorem both_len (U : List Tri) : (bothT U).length = 2 * U.length := by unfold bothT; rw [List.length_append, List.length_map]; omega
/-- the tie is drawn along -/
theorem bf_put {L : List Tie} {S : List Nat} {i k a b l d : Nat} {V : List Tri} {R : List (Nat × Nat)} (hl : L.lookup (mm a b) = some l) (h1 : BfS L S i R) (h2 : Done L S i k R) (h3 : Along L S i k V R) (ha : R.lookup a = some d) (hb : b ∈ S) (hlt : ∀ e, R.lookup b = some e → d + l < e) :
    BfS L S i (putR R b (d + l)) ∧ Done L S i k (putR R b (d + l)) ∧ Along L S i k (V ++ [(a, b, l)]) (putR R b (d + l)) := by
  have hw : WkS L S i b (d + l) := .step (h1.wk a d ha) hb hl
  refine ⟨⟨putR_nd _ _ h1.nd, fun x e hx => ?_, ?_⟩, fun x e he hc => ?_, fun q hq hqS e he hc => ?_⟩
  · rw [putR_look] at hx
    by_cases c : x = b
    · rw [if_pos c] at hx
      cases hx
      rw [c]
      exact hw
    · rw [if_neg c] at hx
      exact h1.wk x e hx
  · rw [putR_look]
    by_cases c : i = b
    · subst c
      have := hlt 0 h1.s0
      omega
    · rw [if_neg c]
      exact h1.s0
  · rw [putR_look]
    by_cases c : x = b
    · subst c
      have a1 := hlt e (h2 x e he hc)
      have a2 := he.2 _ hw
      omega
    · rw [if_neg c]
      exact h2 x e he hc
  · rw [putR_look]
    by_cases c : q.2.1 = b
    · rw [if_pos c]
      rcases List.mem_append.mp hq with z | z
      · obtain ⟨e', x1, x2⟩ := h3 q z hqS e he hc
        rw [c] at x1
        have := hlt e' x1
        exact ⟨_, rfl, by omega⟩
      · have e1 := List.mem_singleton.mp z
        subst e1
        have := h2 a e he hc
        rw [ha] at this
        cases this
        exact ⟨_, rfl, Nat.le_refl _⟩
    · rw [if_neg c]
      rcases List.mem_append.mp hq with z | z
      · exact h3 q z hqS e he hc
      · have e1 := List.mem_singleton.mp z
        subst e1
        exact absurd rfl c
theorem bf_lap {L : List Tie} {S : List Nat} {i k : Nat} {V : List Tri} {R : List (Nat × Nat)} (hL : ∀ t ∈ L, 1 ≤ t.2 ∧ t.2 ≤ 1000000) (hV : ∀ a b l, L.lookup (mm a b) = some l → (a, b, l) ∈ V) (h1 : BfS L S i R) (h3 : Along L S i k V R) : Done L S i (k + 1) R := fun x d h hc => by
  rcases wk_pred hL h with ⟨e1, e2⟩ | ⟨j, d', l, hx, a, e, hl, l1, l2⟩
  · rw [e1, e2]
    exact h1.s0
  · have hk : cntN L S i d' ≤ k := by have := cnt_lt a (show d' < d by omega); omega
    obtain ⟨e', x1, x2⟩ := h3 _ (hV j x l hl) hx d' a hk
    have := h.2 e' (h1.wk x e' x1)
    dsimp only at x1 x2
    rw [x1, show e' = d by omega]
theorem bf_end {L : List Tie} {S : List Nat} {i k : Nat} {R : List (Nat × Nat)} (hk : S.length ≤ k) (h1 : BfS L S i R) (h2 : Done L S i k R) (x : Nat) : R.lookup x = leastN (WkS L S i x) := by
  cases e : leastN (WkS L S i x) with
  | none =>
    cases q : R.lookup x with
    | none => rfl
    | some d => exact absurd (h1.wk x d q) (least_no e d)
  | some d =>
    have := least_at e
    exact h2 x d this (Nat.le_trans (cnt_le this) hk)
theorem bfs_lt {L : List Tie} {S : List Nat} {i n : Nat} {R : List (Nat × Nat)} (h : BfS L S i R) (hi : i < n) (hS : ∀ k ∈ S, k < n) : ∀ q ∈ R, q.1 < n := fun q hq => by
  have := (h.wk q.1 q.2 (lookR_of h.nd hq)).mem
  rcases List.mem_cons.mp this with z | z
  · omega
  · exact hS _ z
theorem nd_le2 : ∀ {n : Nat} {S : List Nat}, S.Nodup → (∀ q ∈ S, q < n) → S.length ≤ n
  | 0, S, _, h => by
    cases S with
    | nil => exact Nat.le_refl _
    | cons a S => exact absurd (h a List.mem_cons_self) (Nat.not_lt_zero a)
  | n + 1, S, hn, h => by
    by_cases m : n ∈ S
    · have a := nd_le2 (n := n) (S := S.erase n) (hn.erase n) fun q hq => by
        have b := (hn.mem_erase_iff (a := q) (b := n)).mp hq
        have c := h q b.2
        have d := b.1
        omega
      rw [List.length_erase_of_mem m] at a
      omega
    · have a := nd_le2 (n := n) hn fun q hq => by
        have c := h q hq
        have d : q ≠ n := fun e => m (e ▸ hq)
        omega
      omega
theorem bfs_len {L : List Tie} {S : List Nat} {i n : Nat} {R : List (Nat × Nat)} (h : BfS L S i R) (hi : i < n) (hS : ∀ k ∈ S, k < n) : R.length ≤ n := by
  have := nd_le2 (n := n) h.nd fun q hq => by
    obtain ⟨r, hr, rfl⟩ := List.mem_map.mp hq
    exact bfs_lt h hi hS r hr
  rw [List.length_map] at this
  exact this
def swT (q : Tri) : Tri := (q.2.1, q.1, q.2.2)
def swK : D → Option D
  | .tup [a, b, c] => some (.tup [b, a, c])
  | _ => none
theorem sw_map (ns : List Str) (U : List Tri) : (U.map (triD ns)).filterMap swK = (U.map swT).map (triD ns) := by
  rw [List.filterMap_map, List.map_map, ← List.filterMap_eq_map]
  rfl
theorem both_sw (ns : List Str) (U : List Tri) : U.map (triD ns) ++ (U.map swT).map (triD ns) = (bothT U).map (triD ns) := by
  unfold bothT
  rw [List.map_append]
  rfl
theorem bf_keep2 {L : List Tie} {S : List Nat} {i k a b l : Nat} {V : List Tri} {R : List (Nat × Nat)} (h2 : Done L S i k R) (h3 : Along L S i k V R) (hno : ∀ d, Least (WkS L S i a) (some d) → R.lookup a = some d → b ∈ S → ∃ e, R.lookup b = some e ∧ e ≤ d + l) : Along L S i k (V ++ [(a, b, l)]) R := fun q hq hqS e he hc => by
  rcases List.mem_append.mp hq with z | z
  · exact h3 q z hqS e he hc
  · have e1 := List.mem_singleton.mp z
    subst e1
    exact hno e he (h2 a e he hc) hqS
/-- the least last tie of these -/
def LV (R : List (Nat × Nat)) (V : List Tri) (b d : Nat) : Prop := ∃ q ∈ V, q.2.1 = b ∧ ∃ e, R.lookup q.1 = some e ∧ d = e + q.2.2
theorem lv_nil {R : List (Nat × Nat)} {b : Nat} : leastN (LV R [] b) = none := least_eq fun d ⟨q, hq, _⟩ => by cases hq
theorem lv_no {R : List (Nat × Nat)} {V : List Tri} {q : Tri} {b : Nat} (h : q.2.1 ≠ b ∨ R.lookup q.1 = none) : leastN (LV R (V ++ [q]) b) = leastN (LV R V b) := least_cong fun d => by
  constructor
  · rintro ⟨r, hr, e1, e, e2, e3⟩
    rcases List.mem_append.mp hr with z | z
    · exact ⟨r, z, e1, e, e2, e3⟩
    · have e4 := List.mem_singleton.mp z
      subst e4
      rcases h with h | h
      · exact absurd e1 h
      · rw [h] at e2; cases e2
  · rintro ⟨r, hr, z⟩
    exact ⟨r, List.mem_append_left _ hr, z⟩
theorem lv_yes {R : List (Nat × Nat)} {V : List Tri} {q : Tri} {e : Nat} (h : R.lookup q.1 = some e) : leastN (LV R (V ++ [q]) q.2.1) = some (match leastN (LV R V q.2.1) with
    | none => e + q.2.2
    | some d => if e + q.2.2 < d then e + q.2.2 else d) := by
  refine least_eq ?_
  have cut : ∀ d, LV R (V ++ [q]) q.2.1 d → LV R V q.2.1 d ∨ d = e + q.2.2 := by
    rintro d ⟨r, hr, e1, x, e2, e3⟩
    rcases List.mem_append.mp hr with z | z
    · exact .inl ⟨r, z, e1, x, e2, e3⟩
    · have e4 := List.mem_singleton.mp z
      subst e4
      rw [h] at e2
      cases e2
      exact .inr e3
  have new : LV R (V ++ [q]) q.2.1 (e + q.2.2) := ⟨q, List.mem_append_right _ (List.mem_singleton.mpr rfl), rfl, e, h, rfl⟩
  have old : ∀ d, LV R V q.2.1 d → LV R (V ++ [q]) q.2.1 d := by
    rintro d ⟨r, hr, z⟩
    exact ⟨r, List.mem_append_left _ hr, z⟩
  cases c : leastN (LV R V q.2.1) with
  | none =>
    refine ⟨new, fun x hx => ?_⟩
    rcases cut x hx with z | z
    · exact absurd z (least_no c x)
    · rw [z]; exact Nat.le_refl _
  | some d =>
    obtain ⟨a, b⟩ := least_at c
    show Least _ (some (if e + q.2.2 < d then e + q.2.2 else d))
    have low : ∀ x, LV R (V ++ [q]) q.2.1 x → d ≤ x ∨ x = e + q.2.2 := fun x hx => (cut x hx).imp (b x) id
    by_cases c2 : e + q.2.2 < d
    · rw [if_pos c2]
      exact ⟨new, fun x hx => by rcases low x hx with z | z <;> omega⟩
    · rw [if_neg c2]
      exact ⟨old d a, fun x hx => by rcases low x hx with z | z <;> omega⟩
theorem lv_all {n : Nat} {U : List Tri} (hU : TriOk n U) {S : List Nat} {i b : Nat} {R : List (Nat × Nat)} (hR : ∀ x, R.lookup x = leastN (WkS (U.map triT) S i x)) : leastN (LV R (bothT U) b) = leastN (Lw (U.map triT) S i b) := by
  refine least_eq ?_
  have to : ∀ d, LV R (bothT U) b d → Lw (U.map triT) S i b d := by
    rintro d ⟨q, hq, rfl, e, h1, h2⟩
    rw [hR] at h1
    exact ⟨q.1, e, q.2.2, (least_at h1).1, both_look hU hq, h2⟩
  have fr : ∀ d, Lw (U.map triT) S i b d → ∃ e, LV R (bothT U) b e ∧ e ≤ d := by
    rintro d ⟨k, e, l, h1, h2, h3⟩
    obtain ⟨e', x1, x2⟩ := least_of h1
    exact ⟨e' + l, ⟨(k, b, l), both_of h2, rfl, e', by rw [hR]; exact x1, rfl⟩, by omega⟩
  cases c : leastN (Lw (U.map triT) S i b) with
  | none => exact fun d hd => least_no c d (to d hd)
  | some d =>
    obtain ⟨a1, a2⟩ := least_at c
    obtain ⟨e, b1, b2⟩ := fr d a1
    have := a2 e (to e b1)
    have : e = d := by omega
    subst this
    exact ⟨b1, fun x hx => a2 x (to x hx)⟩
theorem ws_l_bridges : WsC (Fx := XF) S_l_bridges t_l_bridges [.no, .no, .no, .no, .no, .no, .no, .no, .no] := by
  rintro K cn as Φ fx ⟨ns, U, ord, rfl, hnm, hU, hUl, hp, h⟩
  have hn12 := hnm.l2
  have hnd := hnm.nd
  have hon : ord.Nodup := hp.nodup_iff.mpr List.nodup_range
  have hol : ord.length = ns.length := by rw [hp.length_eq, List.length_range]
  have hlt : ∀ k ∈ ord, k < ns.length := fun k hk => List.mem_range.mp (hp.mem_iff.mp hk)
  have hom : ∀ k, k < ns.length → k ∈ ord := fun k hk => hp.mem_iff.mpr (List.mem_range.mpr hk)
  have hL : ∀ t ∈ U.map triT, 1 ≤ t.2 ∧ t.2 ≤ 1000000 := fun t ht => by
    obtain ⟨q, hq, rfl⟩ := List.mem_map.mp ht
    exact ⟨(hU.ok q hq).2.2.2.1, (hU.ok q hq).2.2.2.2⟩
  have hbl : (bothT U).length ≤ 80 := by rw [both_len]; omega
  unfold t_l_bridges
  walk_at "d0"
  walk_at "d"
  rename_i bk
  refine w_for (wi_enum ?_)
  walk_at "d"
  refine ⟨_, rfl, fun t δ' => ∃ (kvs : List (List Key × D)) (s3 s4 s5 s6 s7 s8 s9 s10 : Sl), δ' = [.d (.lst (U.map (triD ns))), .d (.lst ((ord.map (nmAt ns)).map .str)), .own bk (.dcT kvs), s3, s4, s5, s6, s7, s8, s9, s10] ∧ kvs.length ≤ 80 * t ∧ TabK ns (fun i j => if ord.idxOf i < t ∧ ord.idxOf i < ord.idxOf j then (bgN (U.map triT) ord i j).map fun d => .int (d : Nat) else none) kvs, ⟨[], _, _, _, _, _, _, _, _, rfl, Nat.le_refl _, fun i j _ _ => by dsimp only; rw [if_neg (by omega)]; rfl⟩, fun t d δ' hd ⟨kvs, s3, s4, s5, s6, s7, s8, s9, s10, e, hl, ht⟩ => ?_, fun δ' ⟨kvs, s3, s4, s5, s6, s7, s8, s9, s10, e, hl, ht⟩ => ?_⟩
  · subst e
    obtain ⟨x, rfl, hx⟩ := enum_strs hd
    rw [List.getElem?_map] at hx
    cases hv : ord[t]? with
    | none => rw [hv] at hx; cases hx
    | some v =>
      rw [hv] at hx
      cases hx
      have htl := (List.getElem?_eq_some_iff.mp hv).1
      have vn := hlt v (List.mem_of_getElem? hv)
      have iv := idx_at hon hv
      walk_at "d"
      refine we_disp ?_
      refine wp_cons ?_
      walk_at "d"
      refine wp_nil ?_
      refine ⟨[(.inr (nmAt ns v), .int 0)], rfl, Nat.le_of_ble_eq_true rfl, fun ba => ?_⟩
      rw [show mergeD [] [((.inr (nmAt ns v) : Key), D.int 0)] = rKS ns [(v, 0)] from rfl]
      obtain ⟨S, hS⟩ : ∃ S, S = ord.take t := ⟨_, rfl⟩
      have hSn : ∀ k ∈ S, k < ns.length := fun k hk => hlt k (List.mem_of_mem_take (by rw [← hS]; exact hk))
      have hSl : S.length ≤ t := by rw [hS, List.length_take]; omega
      have hinS : ∀ b, b < ns.length → (nmAt ns b ∈ (ord.map (nmAt ns)).take t ↔ b ∈ S) := fun b hb => by
        rw [← List.map_take, ← hS]
        constructor
        · intro z
          obtain ⟨c, hc, e⟩ := List.mem_map.mp z
          rw [← nm_inj hnd (hSn c hc) hb e]
          exact hc
        · exact fun z => List.mem_map_of_mem z
      walk_at "q"
      refine w_seq ?_
      refine w_forget 7 ?_
      walk_at "k"
      refine w_for (wi_range1 ?_)
      walk_at "d"
      refine ⟨_, rfl, by omega, by omega, ?_⟩
      refine ⟨fun k δ' => ∃ (R : List (Nat × Nat)) (s6 s7 s8 s9 s10 : Sl), δ' = [.d (.lst (U.map (triD ns))), .d (.lst ((ord.map (nmAt ns)).map .str)), .own bk (.dcT kvs), .d (.int (t : Nat)), .d (.str (nmAt ns v)), .own ba (.dct (rKS ns R)), s6, s7, s8, s9, s10] ∧ BfS (U.map triT) S v R ∧ Done (U.map triT) S v k R, ⟨[(v, 0)], _, _, _, _, _, rfl, bfs_start, done_0 hL⟩, fun k d δ' hd ⟨R, s6, s7, s8, s9, s10, e, h1, h2⟩ => ?_, fun δ' ⟨R, s6, s7, s8, s9, s10, e, h1, h2⟩ => ?_⟩
      · subst e
        obtain ⟨hk, rfl⟩ := rangeD_get hd
        rw [Int.zero_add]
        walk_at "d"
        refine w_forget 7 ?_
        walk_at "k"
        refine w_for (wi_any ?_)
        walk_at "d"
        refine we_lcP (wi_any ?_)
        walk_at "d"
        refine ⟨_, _, rfl, rfl, ⟨trivial, trivial⟩, by rw [List.length_map]; omega, swK, fun j d hd => ?_, fun b => ?_⟩
        · obtain ⟨q, rfl⟩ : ∃ q, d = triD ns q := by
            rw [List.getElem?_map] at hd
            cases e : U[j]? with
            | none => rw [e] at hd; cases hd
            | some q => rw [e] at hd; cases hd; exact ⟨q, rfl⟩
          rw [show triD ns q = D.tup [.str (nmAt ns q.1), .str (nmAt ns q.2.1), .int (q.2.2 : Nat)] from rfl]
          refine wgc_name (by simp) rfl ?_
          walk_at "d"
          first | exact ⟨_, rfl, rfl⟩ | rfl
        walk_at "d"
        refine dAdd_l (by rw [List.length_map, sw_map, List.length_map, List.length_map]; omega) fun b2 => ?_
        rw [sw_map, both_sw]
        refine ⟨_, _, rfl, rfl, fun j δ' => ∃ (R : List (Nat × Nat)) (s7 s8 s9 s10 : Sl), δ' = [.d (.lst (U.map (triD ns))), .d (.lst ((ord.map (nmAt ns)).map .str)), .own bk (.dcT kvs), .d (.int (t : Nat)), .d (.str (nmAt ns v)), .own ba (.dct (rKS ns R)), .d (.int (k : Nat)), s7, s8, s9, s10] ∧ BfS (U.map triT) S v R ∧ Done (U.map triT) S v k R ∧ Along (U.map triT) S v k ((bothT U).take j) R, ⟨R, _, _, _, _, rfl, h1, h2, fun q hq => by rw [List.take_zero] at hq; cases hq⟩, fun j d δ' hd ⟨R, s7, s8, s9, s10, e, h1, h2, h3⟩ => ?_, fun δ' ⟨R, s7, s8, s9, s10, e, h1, h2, h3⟩ => ?_⟩
        · subst e
          rw [List.getElem?_map] at hd
          cases eq : (bothT U)[j]? with
          | none => rw [eq] at hd; cases hd
          | some q =>
            rw [eq] at hd
            cases hd
            obtain ⟨a, b, l⟩ := q
            have hq := List.mem_of_getElem? eq
            have hlk := both_look hU hq
            obtain ⟨an, bn, l1, l2⟩ := both_lt hU hq
            dsimp only at hlk an bn l1 l2
            have hR := bfs_lt h1 vn hSn
            have hRl := bfs_len h1 vn hSn
            have etk : (bothT U).take (j + 1) = (bothT U).take j ++ [(a, b, l)] := by rw [List.take_add_one, eq]; rfl
            have keep : (∀ d, Least (WkS (U.map triT) S v a) (some d) → R.lookup a = some d → b ∈ S → ∃ e, R.lookup b = some e ∧ e ≤ d + l) → Along (U.map triT) S v k ((bothT U).take (j + 1)) R := fun hno => by rw [etk]; exact bf_keep2 h2 h3 hno
            rw [show triD ns (a, b, l) = D.tup [.str (nmAt ns a), .str (nmAt ns b), .int (l : Nat)] from rfl]
            walk_at "d"
            refine dInC_kI (key := .inr (nmAt ns a)) rfl ?_
            rw [rKS_get hnd hR an]
            cases ea : R.lookup a with
            | none =>
              refine ⟨false, rfl, br_f ?_⟩
              walk_at "x"
              exact ⟨R, _, _, _, _, rfl, h1, h2, keep fun d _ hd => by rw [ea] at hd; cases hd⟩
            | some da =>
              refine ⟨true, rfl, br_t ?_⟩
              walk_at "d"
              rw [cut_to, ← List.map_take]
              refine in_nsI (t := false) (ns := (ord.map (nmAt ns)).take t) ?_
              walk_at "d"
              refine br_d (fun q1 => ?_) (fun q1 => ?_)
              · have hb := (hinS b bn).mp q1
                have gA : DL.getD (rKS ns R) (.inr (nmAt ns a)) = some (.int (da : Nat)) := by rw [rKS_get hnd hR an, ea]; rfl
                have gB := rKS_get hnd hR bn
                walk_at "d"
                refine dIxC_k (key := .inr (nmAt ns a)) rfl gA ?_
                walk_at "d"
                rw [show ((da : Nat) : Int) + ((l : Nat) : Int) = ((da + l : Nat) : Int) from rfl]
                refine ⟨⟨_, view_bor rfl, .inl ⟨_, rfl⟩⟩, ?_⟩
                walk_at "d"
                refine ⟨_, _, _, _, view_bor rfl, rfl, rfl, getV_k (key := .inr (nmAt ns b)) rfl, ?_⟩
                rw [gB]
                have ep := rKS_put hnd hR bn (da + l)
                have go := fun hlow => bf_put (V := (bothT U).take j) hlk h1 h2 h3 ea hb hlow
                rw [← etk] at go
                cases eb : R.lookup b with
                | none =>
                  dsimp only [Option.map, Option.getD]
                  walk_at "d"
                  refine br_d (fun q2 => ?_) (fun q2 => ?_)
                  · walk_at "d"
                    refine dIxC_k (key := .inr (nmAt ns a)) rfl gA ?_
                    walk_at "d"
                    rw [show ((da : Nat) : Int) + ((l : Nat) : Int) = ((da + l : Nat) : Int) from rfl]
                    refine ex_setBD rfl rfl (by rw [rKS_len]; omega) ?_
                    rw [ep]
                    walk_at "d"
                    exact ⟨_, _, _, _, _, rfl, go fun e he => by rw [eb] at he; cases he⟩
                  · walk_at "x"
                    refine ⟨R, _, _, _, _, rfl, h1, h2, keep fun d hd e _ => ?_⟩
                    rw [ea] at e
                    cases e
                    have b1 := wk_small hL hd
                    have b2 := cnt_le hd
                    have b3 : 1000000 * cntN (U.map triT) S v da ≤ 1000000 * 12 := Nat.mul_le_mul_left _ (by omega)
                    omega
                | some db =>
                  dsimp only [Option.map, Option.getD]
                  walk_at "d"
                  refine br_d (fun q2 => ?_) (fun q2 => ?_)
                  · walk_at "d"
                    refine dIxC_k (key := .inr (nmAt ns a)) rfl gA ?_
                    walk_at "d"
                    rw [show ((da : Nat) : Int) + ((l : Nat) : Int) = ((da + l : Nat) : Int) from rfl]
                    refine ex_setBD rfl rfl (by rw [rKS_len]; omega) ?_
                    rw [ep]
                    walk_at "d"
                    exact ⟨_, _, _, _, _, rfl, go fun e he => by rw [eb] at he; cases he; omega⟩
                  · walk_at "x"
                    refine ⟨R, _, _, _, _, rfl, h1, h2, keep fun d hd e _ => ?_⟩
                    rw [ea] at e
                    cases e
                    exact ⟨db, eb, by omega⟩
              · walk_at "x"
                exact ⟨R, _, _, _, _, rfl, h1, h2, keep fun d _ _ hb => absurd ((hinS b bn).mpr hb) q1⟩
        · subst e
          rw [List.length_map, List.take_length] at h3
          walk_at "d"
          exact ⟨R, _, _, _, _, _, rfl, h1, bf_lap hL (fun a b l hl => both_of hl) h1 h3⟩
      · subst e
        rw [rangeD_len, show ((t : Int) + 1).toNat = t + 1 by omega] at h2
        have hR : ∀ x, R.lookup x = leastN (WkS (U.map triT) S v x) := bf_end (by omega) h1 h2
        refine w_forget 7 ?_
        walk_at "k"
        have hw : ∀ x d, R.lookup x = some d → d ≤ 12000000 := fun x d hd => by
          rw [hR] at hd
          have b1 := wk_small hL (least_at hd)
          have b2 := cnt_le (least_at hd)
          have b3 : 1000000 * cntN (U.map triT) S v d ≤ 1000000 * 12 := Nat.mul_le_mul_left _ (by omega)
          omega
        have hRn := bfs_lt h1 vn hSn
        have hdr : ∀ b, b < ns.length → (nmAt ns b ∈ (ord.map (nmAt ns)).drop (t + 1) ↔ t < ord.idxOf b) := fun b hb => by
          rw [← List.map_drop]
          constructor
          · intro z
            obtain ⟨c, hc, e⟩ := List.mem_map.mp z
            rw [← nm_inj hnd (hlt c (List.mem_of_mem_drop hc)) hb e]
            exact ((idx_drop hon).mp hc).2
          · exact fun z => List.mem_map_of_mem ((idx_drop hon).mpr ⟨hom b hb, z⟩)
        refine w_for (wi_any ?_)
        walk_at "d"
        refine we_lcP (wi_any ?_)
        walk_at "d"
        refine ⟨_, _, rfl, rfl, ⟨trivial, trivial⟩, by rw [List.length_map]; omega, swK, fun j d hd => ?_, fun b => ?_⟩
        · obtain ⟨q, rfl⟩ : ∃ q, d = triD ns q := by
            rw [List.getElem?_map] at hd
            cases e : U[j]? with
            | none => rw [e] at hd; cases hd
            | some q => rw [e] at hd; cases hd; exact ⟨q, rfl⟩
          rw [show triD ns q = D.tup [.str (nmAt ns q.1), .str (nmAt ns q.2.1), .int (q.2.2 : Nat)] from rfl]
          refine wgc_name (by simp) rfl ?_
          walk_at "d"
          first | exact ⟨_, rfl, rfl⟩ | rfl
        walk_at "d"
        refine dAdd_l (by rw [List.length_map, sw_map, List.length_map, List.length_map]; omega) fun b2 => ?_
        rw [sw_map, both_sw]
        refine ⟨_, _, rfl, rfl, fun j δ' => ∃ (kvs : List (List Key × D)) (s7 s8 s9 s10 : Sl), δ' = [.d (.lst (U.map (triD ns))), .d (.lst ((ord.map (nmAt ns)).map .str)), .own bk (.dcT kvs), .d (.int (t : Nat)), .d (.str (nmAt ns v)), .own ba (.dct (rKS ns R)), s6, s7, s8, s9, s10] ∧ kvs.length ≤ 80 * t + j ∧ TabK ns (fun i b => if ord.idxOf i < t ∧ ord.idxOf i < ord.idxOf b then (bgN (U.map triT) ord i b).map fun d => .int (d : Nat) else if i = v ∧ t < ord.idxOf b then (leastN (LV R ((bothT U).take j) b)).map fun d => .int (d : Nat) else none) kvs, ⟨kvs, _, _, _, _, rfl, by omega, ht.cong fun i b _ _ => by
          rw [List.take_zero, lv_nil]
          by_cases c : ord.idxOf i < t ∧ ord.idxOf i < ord.idxOf b
          · rw [if_pos c, if_pos c]
          · rw [if_neg c, if_neg c]
            split <;> rfl⟩, fun j d δ' hd ⟨kvs, s7, s8, s9, s10, e, hl, ht⟩ => ?_, fun δ' ⟨kvs, s7, s8, s9, s10, e, hl, ht⟩ => ?_⟩
        · subst e
          rw [List.getElem?_map] at hd
          cases eq : (bothT U)[j]? with
          | none => rw [eq] at hd; cases hd
          | some q =>
            rw [eq] at hd
            cases hd
            obtain ⟨a, b, l⟩ := q
            have hq := List.mem_of_getElem? eq
            have hjl := (List.getElem?_eq_some_iff.mp eq).1
            obtain ⟨an, bn, l1, l2⟩ := both_lt hU hq
            dsimp only at an bn l1 l2
            have etk : (bothT U).take (j + 1) = (bothT U).take j ++ [(a, b, l)] := by rw [List.take_add_one, eq]; rfl
            have keep : (R.lookup a = none ∨ ¬ t < ord.idxOf b) → TabK ns (fun i b => if ord.idxOf i < t ∧ ord.idxOf i < ord.idxOf b then (bgN (U.map triT) ord i b).map fun d => .int (d : Nat) else if i = v ∧ t < ord.idxOf b then (leastN (LV R ((bothT U).take (j + 1)) b)).map fun d => .int (d : Nat) else none) kvs := fun hno => ht.cong fun i b' _ _ => by
              by_cases c : ord.idxOf i < t ∧ ord.idxOf i < ord.idxOf b'
              · rw [if_pos c, if_pos c]
              · rw [if_neg c, if_neg c]
                by_cases c2 : i = v ∧ t < ord.idxOf b'
                · rw [if_pos c2, if_pos c2, etk, lv_no]
                  rcases hno with z | z
                  · exact .inr z
                  · exact .inl fun z2 => z (by dsimp only at z2; rw [z2]; exact c2.2)
                · rw [if_neg c2, if_neg c2]
            rw [show triD ns (a, b, l) = D.tup [.str (nmAt ns a), .str (nmAt ns b), .int (l : Nat)] from rfl]
            walk_at "d"
            refine dInC_kI (key := .inr (nmAt ns a)) rfl ?_
            rw [rKS_get hnd hRn an]
            cases ea : R.lookup a with
            | none =>
              refine ⟨false, rfl, br_f ?_⟩
              walk_at "x"
              exact ⟨kvs, _, _, _, _, rfl, by omega, keep (.inl ea)⟩
            | some da =>
              have da2 := hw a da ea
              refine ⟨true, rfl, br_t ?_⟩
              walk_at "d"
              rw [show (t : Int) + 1 = ((t + 1 : Nat) : Int) from rfl, cut_from, ← List.map_drop]
              refine in_nsI (t := false) (ns := (ord.map (nmAt ns)).drop (t + 1)) ?_
              walk_at "d"
              refine br_d (fun q1 => ?_) (fun q1 => ?_)
              · have hb := (hdr b bn).mp q1
                have gA : DL.getD (rKS ns R) (.inr (nmAt ns a)) = some (.int (da : Nat)) := by rw [rKS_get hnd hRn an, ea]; rfl
                have gB : getT kvs (kT2 ns v b) = (leastN (LV R ((bothT U).take j) b)).map fun d => .int (d : Nat) := by
                  rw [ht v b vn bn]
                  dsimp only
                  rw [if_neg (by omega), if_pos ⟨rfl, hb⟩]
                have new := lv_yes (V := (bothT U).take j) (q := (a, b, l)) ea
                rw [← etk] at new
                dsimp only at new
                have put : ∀ x : Nat, leastN (LV R ((bothT U).take (j + 1)) b) = some x → TabK ns (fun i b => if ord.idxOf i < t ∧ ord.idxOf i < ord.idxOf b then (bgN (U.map triT) ord i b).map fun d => .int (d : Nat) else if i = v ∧ t < ord.idxOf b then (leastN (LV R ((bothT U).take (j + 1)) b)).map fun d => .int (d : Nat) else none) (putT kvs (kT2 ns v b) (.int (x : Nat))) := fun x hx => (ht.put hnd vn bn (.int (x : Nat))).cong fun i b' _ _ => by
                  unfold upd2
                  dsimp only
                  by_cases c3 : i = v ∧ b' = b
                  · rw [if_pos c3, c3.1, c3.2, if_neg (by omega), if_pos ⟨rfl, hb⟩, hx]
                    rfl
                  · rw [if_neg c3]
                    by_cases c : ord.idxOf i < t ∧ ord.idxOf i < ord.idxOf b'
                    · rw [if_pos c, if_pos c]
                    · rw [if_neg c, if_neg c]
                      by_cases c2 : i = v ∧ t < ord.idxOf b'
                      · rw [if_pos c2, if_pos c2, etk, lv_no]
                        exact .inl fun z => c3 ⟨c2.1, z.symm⟩
                      · rw [if_neg c2, if_neg c2]
                have hpl := fun x => putT_len kvs (kT2 ns v b) (.int x)
                walk_at "d"
                refine ⟨⟨_, view_bor rfl, .inr ⟨_, rfl⟩⟩, ?_⟩
                walk_at "d"
                refine ⟨_, _, _, _, view_bor rfl, rfl, rfl, getV_t (key_2 (ns := ns) (i := v) (j := b)), ?_⟩
                rw [gB]
                walk_at "d"
                refine dIxC_k (key := .inr (nmAt ns a)) rfl gA ?_
                walk_at "d"
                rw [show ((da : Nat) : Int) + ((l : Nat) : Int) = ((da + l : Nat) : Int) from rfl]
                have fin : ∀ x : Nat, leastN (LV R ((bothT U).take (j + 1)) b) = some x → ∃ (kvs' : List (List Key × D)) (s7 s8 s9 s10 : Sl), [Sl.d (.lst (U.map (triD ns))), .d (.lst ((ord.map (nmAt ns)).map .str)), .own bk (.dcT (putT kvs (kT2 ns v b) (.int (x : Nat)))), .d (.int (t : Nat)), .d (.str (nmAt ns v)), .own ba (.dct (rKS ns R)), s6, .d (.tup [.str (nmAt ns a), .str (nmAt ns b), .int (l : Nat)]), .d (.str (nmAt ns a)), .d (.str (nmAt ns b)), .d (.int (l : Nat))] = [Sl.d (.lst (U.map (triD ns))), .d (.lst ((ord.map (nmAt ns)).map .str)), .own bk (.dcT kvs'), .d (.int (t : Nat)), .d (.str (nmAt ns v)), .own ba (.dct (rKS ns R)), s6, s7, s8, s9, s10] ∧ kvs'.length ≤ 80 * t + (j + 1) ∧ TabK ns (fun i b => if ord.idxOf i < t ∧ ord.idxOf i < ord.idxOf b then (bgN (U.map triT) ord i b).map fun d => .int (d : Nat) else if i = v ∧ t < ord.idxOf b then (leastN (LV R ((bothT U).take (j + 1)) b)).map fun d => .int (d : Nat) else none) kvs' := fun x hx => ⟨_, _, _, _, _, rfl, Nat.le_trans (hpl _) (by omega), put x hx⟩
                cases e1 : leastN (LV R ((bothT U).take j) b) with
                | none =>
                  rw [e1] at new
                  dsimp only [Option.map, Option.getD] at new ⊢
                  walk_at "t"
                  rw [if_pos (show (((da + l : Nat) : Int)) < 1000000000 by omega)]
                  refine wg_setT ?_
                  walk_at "d"
                  refine ⟨_, kT2 ns v b, kvs, rfl, rfl, rfl, by omega, fun δ3 e => ?_⟩
                  subst e
                  walk_at "k"
                  exact fin _ new
                | some d0 =>
                  rw [e1] at new
                  dsimp only [Option.map, Option.getD] at new ⊢
                  walk_at "t"
                  rw [show (if (((da + l : Nat) : Int)) < ((d0 : Nat) : Int) then ((da + l : Nat) : Int) else ((d0 : Nat) : Int)) = ((if da + l < d0 then da + l else d0 : Nat) : Int) by split <;> split <;> omega]
                  refine wg_setT ?_
                  walk_at "d"
                  refine ⟨_, kT2 ns v b, kvs, rfl, rfl, rfl, by omega, fun δ3 e => ?_⟩
                  subst e
                  walk_at "k"
                  exact fin _ new
              · walk_at "x"
                exact ⟨kvs, _, _, _, _, rfl, by omega, keep (.inr fun z => q1 ((hdr b bn).mpr z))⟩
        · subst e
          rw [List.length_map, List.take_length] at ht
          rw [List.length_map] at hl
          walk_at "d"
          refine ⟨kvs, _, _, _, _, _, _, _, _, rfl, by omega, ht.cong fun i b hi hb => ?_⟩
          rw [lv_all hU hR]
          by_cases c : ord.idxOf i < t ∧ ord.idxOf i < ord.idxOf b
          · rw [if_pos c, if_pos ⟨by omega, c.2⟩]
          · rw [if_neg c]
            by_cases c2 : i = v ∧ t < ord.idxOf b
            · rw [if_pos c2, c2.1, iv, if_pos ⟨by omega, c2.2⟩]
              unfold bgN lowN
              rw [if_neg (fun z => by rw [← z, iv] at c2; omega), iv, show min t (ord.idxOf b) = t by omega, hS]
            · rw [if_neg c2, if_neg]
              rintro ⟨z1, z2⟩
              have : ord.idxOf i = t := by omega
              exact c2 ⟨idx_inj (hom i hi) (List.mem_of_getElem? hv) (by omega), by omega⟩
  · subst e
    rw [show (enumD ((ord.map (nmAt ns)).map D.str)).length = ns.length by unfold enumD; rw [List.length_map, List.length_range, List.length_map, List.length_map, hol]] at ht
    walk_at "d"
    exact ⟨trivial, Nat.le_of_ble_eq_true rfl, _, rfl, h bk kvs fun i j hi hj => by
      have := ht i j hi hj
      dsimp only at this
      rw [this]
      have hx := idx_lt (hom i hi)
      by_cases c : ord.idxOf i < ord.idxOf j
      · rw [if_pos ⟨by omega, c⟩, if_pos c]
      · rw [if_neg (fun z => c z.2), if_neg c]⟩

/-! what may be shown -/
def Sho (w d : Nat) (x : D) : Prop := rOk x ∧ wt x ≤ w ∧ dpt x ≤ d
def Shos (w d : Nat) (xs : List D) : Prop := rOks xs ∧ wts xs ≤ w ∧ dpts xs ≤ d
theorem sho_nm {x : Str} (h : nmOk x = true) : Sho 62 0 (.str x) := by
  obtain ⟨_, h2, h3⟩ := nm_is h
  refine ⟨?_, ?_, Nat.le_refl _⟩
  · unfold rOk
    intro c hc
    have h4 := of_decide_eq_true (List.all_eq_true.mp h3 c hc)
    have h5 : ∀ c ∈ lettersL, c < 123 := by decide
    have := h5 c h4
    omega
  · unfold wt; omega
theorem sho_nat {d : Nat} (h : d ≤ 4096000000) : Sho 1921 0 (.int (d : Nat)) := by
  refine ⟨?_, Nat.le_refl _, Nat.le_refl _⟩
  unfold rOk
  rw [Int.natAbs_natCast]
  by_cases z : d = 0
  · subst z; decide
  · exact Nat.lt_of_lt_of_le ((Nat.log2_lt z).mpr (show d < 2 ^ 32 by omega)) (by decide)
theorem sho_non : Sho 1921 0 .non := ⟨by unfold rOk; trivial, Nat.le_refl _, Nat.le_refl _⟩
theorem shos_nil : Shos 0 0 [] := ⟨by unfold rOks; trivial, by unfold wts; exact Nat.le_refl _, by unfold dpts; exact Nat.le_refl _⟩
theorem shos_cons {x : D} {xs : List D} {w d v e : Nat} (h : Sho w d x) (h2 : Shos v e xs) : Shos (w + 2 + v) (max d e) (x :: xs) := by
  obtain ⟨a, b, c⟩ := h
  obtain ⟨a2, b2, c2⟩ := h2
  exact ⟨by unfold rOks; exact ⟨a, a2⟩, by unfold wts; omega, by unfold dpts; omega⟩
theorem shos_map {α : Type} {f : α → D} {w d : Nat} : ∀ {l : List α}, (∀ a ∈ l, Sho w d (f a)) → Shos ((w + 2) * l.length) d (l.map f)
  | [], _ => ⟨by unfold List.map rOks; trivial, by unfold List.map wts; omega, by unfold List.map dpts; omega⟩
  | a :: l, h => by
    have h1 := h a List.mem_cons_self
    obtain ⟨a2, b2, c2⟩ := shos_map (l := l) fun b hb => h b (List.mem_cons_of_mem _ hb)
    obtain ⟨a1, b1, c1⟩ := h1
    rw [List.map_cons]
    refine ⟨by unfold rOks; exact ⟨a1, a2⟩, ?_, by unfold dpts; omega⟩
    unfold wts
    rw [List.length_cons, Nat.mul_add, Nat.mul_one]
    omega
theorem sho_lst {xs : List D} {w d : Nat} (h : Shos w d xs) : Sho (w + 3) (d + 1) (.lst xs) := ⟨by unfold rOk; exact h.1, by unfold wt; have := h.2.1; omega, by unfold dpt; have := h.2.2; omega⟩
theorem sho_tup {xs : List D} {w d : Nat} (h : Shos w d xs) : Sho (w + 3) (d + 1) (.tup xs) := ⟨by unfold rOk; exact h.1, by unfold wt; have := h.2.1; omega, by unfold dpt; have := h.2.2; omega⟩
theorem Sho.mono {w d v e : Nat} {x : D} (h : Sho w d x) (h1 : w ≤ v) (h2 : d ≤ e) : Sho v e x := ⟨h.1, Nat.le_trans h.2.1 h1, Nat.le_trans h.2.2 h2⟩
theorem Sho.rp {w d : Nat} {x : D} (h : Sho w d x) (h1 : w ≤ 16000000) (h2 : d ≤ 50) : rpOk x := ⟨h.1, Nat.le_trans h.2.1 h1, Nat.le_trans h.2.2 h2⟩

/-! plain -/
theorem due_some {ns : List Str} {L : List Tie} {ord : List Nat} {dvs : List (List Key × D)} (hd : DueOk ns L ord dvs) {i j : Nat} (hi : i < ns.length) (hj : j < ns.length) (hij : ord.idxOf i < ord.idxOf j) {d : Nat} (e : bgN L ord i j = some d) : getT dvs (kT2 ns i j) = some (.int (d : Nat)) := by
  rw [hd i j hi hj, if_pos hij, e]
  rfl
theorem up_due {ns : List Str} {L : List Tie} {ord : List Nat} {kvs dvs : List (List Key × D)} (hg : HgOk ns L ord kvs) (hd : DueOk ns L ord dvs) {i : Nat} (hi : i < ns.length) : (ord.filter fun j => (getT dvs [.inr (nmAt ns i), .inr (nmAt ns j)]).isSome) = upN L ord i := by
  have hlt := hg.lt
  have hon := hg.nd
  have e : ord = ord.take (ord.idxOf i + 1) ++ ord.drop (ord.idxOf i + 1) := (List.take_append_drop _ _).symm
  have key : ∀ j ∈ ord, (getT dvs [.inr (nmAt ns i), .inr (nmAt ns j)]).isSome = (decide (ord.idxOf i < ord.idxOf j) && (bgN L ord i j).isSome) := fun j hj => by
    show (getT dvs (kT2 ns i j)).isSome = _
    rw [hd i j hi (hlt j hj)]
    by_cases c : ord.idxOf i < ord.idxOf j
    · rw [if_pos c, decide_eq_true c]
      cases bgN L ord i j <;> rfl
    · rw [if_neg c, decide_eq_false c]
      rfl
  rw [List.filter_congr key]
  have f1 : ((ord.take (ord.idxOf i + 1)).filter fun j => decide (ord.idxOf i < ord.idxOf j) && (bgN L ord i j).isSome) = [] := List.filter_eq_nil_iff.mpr fun j hj => by
    have := (idx_take hon).mp hj
    rw [decide_eq_false (by omega)]
    exact Bool.false_ne_true
  have f2 : ((ord.drop (ord.idxOf i + 1)).filter fun j => decide (ord.idxOf i < ord.idxOf j) && (bgN L ord i j).isSome) = upN L ord i := by
    unfold upN
    refine List.filter_congr fun j hj => ?_
    have := (idx_drop hon).mp hj
    rw [decide_eq_true (by omega), Bool.true_and]
  have g : ∀ p : Nat → Bool, ord.filter p = (ord.take (ord.idxOf i + 1)).filter p ++ (ord.drop (ord.idxOf i + 1)).filter p := fun p => by rw [← List.filter_append, List.take_append_drop]
  rw [g, f1, f2, List.nil_append]
theorem up_row {ns : List Str} {L : List Tie} {ord : List Nat} {kvs : List (List Key × D)} (hg : HgOk ns L ord kvs) {i j : Nat} (hi : i < ns.length) (h : j ∈ upN L ord i) : j < ns.length ∧ ord.idxOf i < ord.idxOf j ∧ ∃ d v, bgN L ord i j = some d ∧ getT kvs (kT2 ns i j) = some (lkD ns (d, v)) ∧ d ≤ 13000000 ∧ (v = none ↔ L.lookup (mm i j) = some d) ∧
    (∀ p, v = some p → p < ns.length ∧ p ∈ lowN ord i j ∧ ∃ d1 d2, bgN L ord p i = some d1 ∧ bgN L ord p j = some d2 ∧ d1 + d2 = d) ∧ upR ns kvs i j = .tup [.str (nmAt ns j), .int (d : Nat), inD' ns v] := by
  obtain ⟨h1, h2, h3⟩ := (up_mem hg.nd).mp h
  have hj := hg.lt j h1
  obtain ⟨o, e1, e2, e3⟩ := hg.k.at_ i j hi hj
  cases o with
  | none => rw [← e2] at h3; cases h3
  | some q =>
    obtain ⟨d, v⟩ := q
    obtain ⟨a, b, c⟩ := e3 d v rfl
    refine ⟨hj, h2, d, v, e2.symm, e1, a, b, c, ?_⟩
    unfold upR
    rw [e1]
    rfl
theorem low_idx {ord : List Nat} (hn : ord.Nodup) {i j p : Nat} (h : p ∈ lowN ord i j) : ord.idxOf p < ord.idxOf i ∧ ord.idxOf p < ord.idxOf j := by
  have := ((idx_take hn).mp h).2
  omega
/-- a tie, as the law asks for it -/
def tieB (ns : List Str) (i j d : Nat) (q : Tri) : Bool := decide ((q.1 = i ∧ q.2.1 = j ∨ q.1 = j ∧ q.2.1 = i) ∧ q.2.2 = d)
theorem tie_any {n : Nat} {U : List Tri} (hU : TriOk n U) {i j d : Nat} {ns : List Str} : (U.map (tieB ns i j d)).any id = decide ((U.map triT).lookup (mm i j) = some d) := by
  rw [Bool.eq_iff_iff, decide_eq_true_iff, List.any_eq_true]
  constructor
  · rintro ⟨b, hb, e⟩
    obtain ⟨q, hq, rfl⟩ := List.mem_map.mp hb
    obtain ⟨z, e2⟩ := of_decide_eq_true (show tieB ns i j d q = true from e)
    obtain ⟨a, b, c⟩ := q
    simp only at z e2
    subst e2
    rcases z with ⟨rfl, rfl⟩ | ⟨rfl, rfl⟩
    · exact both_look hU (q := (a, b, c)) (List.mem_append_left _ hq)
    · exact both_look hU (q := (b, a, c)) (List.mem_append_right _ (List.mem_map.mpr ⟨(a, b, c), hq, rfl⟩))
  · intro h
    rcases List.mem_append.mp (both_of h) with z | z
    · exact ⟨_, List.mem_map_of_mem z, decide_eq_true ⟨.inl ⟨rfl, rfl⟩, rfl⟩⟩
    · obtain ⟨q, hq, e⟩ := List.mem_map.mp z
      obtain ⟨a, b, c⟩ := q
      rw [Prod.mk.injEq, Prod.mk.injEq] at e
      exact ⟨_, List.mem_map_of_mem hq, decide_eq_true ⟨.inr ⟨e.2.1, e.1⟩, e.2.2⟩⟩
theorem tie_mem {ns : List Str} (hn : ns.Nodup) {i j d : Nat} {q : Tri} (hi : i < ns.length) (hj : j < ns.length) (h1 : q.1 < ns.length) (h2 : q.2.1 < ns.length) : triD ns q ∈ [D.tup [.str (nmAt ns i), .str (nmAt ns j), .int (d : Nat)], .tup [.str (nmAt ns j), .str (nmAt ns i), .int (d : Nat)]] ↔ tieB ns i j d q = true := by
  have a : ∀ {x y : Nat}, x < ns.length → y < ns.length → (nmAt ns x = nmAt ns y ↔ x = y) := fun hx hy => ⟨nm_inj hn hx hy, fun e => by rw [e]⟩
  unfold triD tieB
  rw [decide_eq_true_iff]
  simp only [List.mem_cons, List.not_mem_nil, or_false, D.tup.injEq, List.cons.injEq, D.str.injEq, D.int.injEq, and_true, a h1 hi, a h2 hj, a h1 hj, a h2 hi, Int.natCast_inj]
  constructor
  · rintro (⟨x, y, z⟩ | ⟨x, y, z⟩)
    · exact ⟨.inl ⟨x, y⟩, z⟩
    · exact ⟨.inr ⟨x, y⟩, z⟩
  · rintro ⟨⟨x, y⟩ | ⟨x, y⟩, z⟩
    · exact .inl ⟨x, y, z⟩
    · exact .inr ⟨x, y, z⟩
theorem bls_map {f : Tri → Bool} : ∀ U : List Tri, blsD (U.map fun q => D.bl (f q)) = some (U.map f)
  | [] => rfl
  | q :: U => by
    have := bls_map (f := f) U
    rw [List.map_cons, List.map_cons]
    show (blsD (U.map fun q => D.bl (f q))).map _ = _
    rw [this]
    rfl
theorem zip_up {l : List Nat} {f : Nat → Str} {g : Nat → D} {k : Nat} {d : D} (h : (zipD ((l.map f).map .str) (l.map g))[k]? = some d) : ∃ j ∈ l, d = .tup [.str (f j), g j] := by
  unfold zipD at h
  rw [List.map_map, List.zip_map', List.map_map] at h
  obtain ⟨j, hj, e⟩ := List.mem_map.mp (List.mem_of_getElem? h)
  exact ⟨j, hj, e.symm⟩
def hdS (f : Str → D) : D → Option D
  | .str s => some (f s)
  | _ => none
theorem hdS_map {f : Nat → Str} {g : Str → D} {r : Nat → D} : ∀ (l : List Nat), (∀ j ∈ l, g (f j) = r j) → ((l.map f).map D.str).filterMap (hdS g) = l.map r
  | [], _ => rfl
  | j :: l, h => by
    rw [List.map_cons, List.map_cons, List.filterMap_cons, hdS_map l fun k hk => h k (List.mem_cons_of_mem _ hk), List.map_cons, ← h j List.mem_cons_self]
    rfl
/-- the row of up, told by the name -/
def upS (kvs : List (List Key × D)) (x : Str) (s : Str) : D := match getT kvs [.inr x, .inr s] with
  | some (.tup xs) => .tup (.str s :: xs)
  | _ => .non
theorem upS_is {ns : List Str} {kvs : List (List Key × D)} {i j : Nat} : upS kvs (nmAt ns i) (nmAt ns j) = upR ns kvs i j := rfl
theorem shU {ns : List Str} (hn : NmOk ns) {v : Option Nat} (h : ∀ p, v = some p → p < ns.length) : Sho 2000 0 (inD' ns v) := by
  cases v with
  | none => exact sho_non.mono (by omega) (by omega)
  | some p => exact (sho_nm (nm_at_ok hn (h p rfl))).mono (by omega) (by omega)
theorem rp_up {ns : List Str} {L : List Tie} {ord : List Nat} {kvs : List (List Key × D)} (hg : HgOk ns L ord kvs) {i : Nat} (hi : i < ns.length) : rpOk (.lst ((upN L ord i).map (upR ns kvs i))) := by
  have h12 := hg.w.nm.l2
  have hl := hg.len
  have h3 : (upN L ord i).length ≤ ord.length := up_len
  refine (sho_lst (shos_map (w := 9000) (d := 1) (l := upN L ord i) (f := upR ns kvs i) fun j hj => ?_)).rp (by omega) (by omega)
  obtain ⟨hj, _, d, v, _, _, hd, _, hv, e⟩ := up_row hg hi hj
  rw [e]
  exact (sho_tup (shos_cons (sho_nm (nm_at_ok hg.w.nm hj)) (shos_cons (sho_nat (by omega)) (shos_cons (shU hg.w.nm fun p hp => (hv p hp).1) shos_nil)))).mono (by omega) (by omega)

section
variable {P : R → List Sl → Prop} {Y : Nat → D → Prop} {cn : Cn} {ns : List Str} {L : List Tie} {ord : List Nat} {kvs : List (List Key × D)}
theorem use_nplace {i : Nat} (hn : NmOk ns) (hi : i < ns.length) (q : P (.d .non) [.d (webD (cn.ad CWeb) ns L), .d (.str (nmAt ns i))]) : S_need_place cn [.d (webD (cn.ad CWeb) ns L), .d (.str (nmAt ns i))] P Y := ⟨ns, L, _, rfl, hn, any_str (nm_at_ok hn hi), by rw [spot_nm hn hi]; exact q⟩
end
theorem ws_Heights_up (cn0 : Cn) : WsXC (Fx := fun K cn => XF K cn ∧ cn = cn0) (S_Heights_up cn0) t_Heights_up [.no] := by
  rintro K cn Wx as Φ Y ⟨fx, rfl⟩ ⟨ns, L, ord, kvs, i, rfl, hg, hi, h⟩
  have hn12 := hg.w.nm.l2
  have hol := hg.len
  have hul : (upN L ord i).length ≤ ord.length := up_len
  unfold t_Heights_up
  walk_at "d0"
  walk_at "D"
  refine fun P Y' k1 k2 => use_nplace hg.w.nm hi (k1 _ _ trivial ?_)
  walk_at "D"
  refine we_lcP (wi_any ?_)
  walk_at "D"
  refine use_above hg hi fun ba => ?_
  walk_at "D"
  refine ⟨_, _, rfl, rfl, ⟨trivial, trivial⟩, by rw [List.length_map, List.length_map]; omega, hdS (upS kvs (nmAt ns i)), fun j d hd => ?_, fun b => ?_⟩
  · obtain ⟨k, rfl, hk⟩ := nm_ord_get hd
    have hkm := List.mem_of_getElem? hk
    obtain ⟨hkn, _, dd, v, _, e1, _, _, _, e2⟩ := up_row hg hi hkm
    refine wgc_name (by simp) rfl ?_
    walk_at "D"
    refine we_op opd_catT ?_
    walk_at "D"
    refine dIxC_t (key_2 (ns := ns) (i := i) (j := k)) e1 ?_
    walk_at "D"
    refine (show dCatT (.tup [.str (nmAt ns k)]) (.tup [.int (dd : Nat), inD' ns v]) _ from ⟨by simp, by simp, Nat.le_of_ble_eq_true rfl, _, rfl, ?_⟩)
    show some (upS kvs (nmAt ns i) (nmAt ns k)) = some _
    rw [upS_is, e2]
    rfl
  · rw [hdS_map (upN L ord i) fun j _ => upS_is]
    exact ⟨trivial, h b⟩
def brS (kvs : List (List Key × D)) (x : Str) (s : Str) : D := match getT kvs [.inr x, .inr s] with
  | some (.tup [.int d, _]) => .tup [.str x, .str s, .int d]
  | _ => .non
theorem brS_is {ns : List Str} {L : List Tie} {ord : List Nat} {kvs : List (List Key × D)} (hg : HgOk ns L ord kvs) {i j : Nat} (hi : i < ns.length) (h : j ∈ upN L ord i) : brS kvs (nmAt ns i) (nmAt ns j) = .tup [.str (nmAt ns i), .str (nmAt ns j), .int (((bgN L ord i j).getD 0 : Nat) : Int)] := by
  obtain ⟨_, _, dd, v, e0, e1, _⟩ := up_row hg hi h
  rw [e0]
  unfold brS
  rw [show getT kvs [.inr (nmAt ns i), .inr (nmAt ns j)] = some (lkD ns (dd, v)) from e1]
  rfl
theorem fm_len {f : Nat → List D} {m : Nat} : ∀ l : List Nat, (∀ i, (f i).length ≤ m) → (l.flatMap f).length ≤ m * l.length
  | [], _ => Nat.le_of_eq (Nat.mul_zero m).symm
  | i :: l, h => by
    have h1 := fm_len l h
    have h2 := h i
    rw [List.flatMap_cons, List.length_append, List.length_cons, Nat.mul_add, Nat.mul_one]
    omega
theorem fm_take {f : Nat → List D} {l : List Nat} {t i : Nat} (h : l[t]? = some i) : (l.take (t + 1)).flatMap f = (l.take t).flatMap f ++ f i := by
  rw [List.take_add_one, h, Option.toList_some, List.flatMap_append, List.flatMap_cons, List.flatMap_nil, List.append_nil]
theorem ws_Heights_bridges (cn0 : Cn) : WsC (Fx := fun K cn => XF K cn ∧ cn = cn0) (S_Heights_bridges cn0) t_Heights_bridges [.no, .no, .no] := by
  rintro K cn as Φ ⟨fx, rfl⟩ ⟨ns, L, ord, kvs, rfl, hg, h⟩
  have hn12 := hg.w.nm.l2
  have hol := hg.len
  unfold t_Heights_bridges
  walk_at "d0"
  walk_at "D"
  rename_i bk
  refine w_for (wi_any ?_)
  walk_at "D"
  refine ⟨_, _, rfl, rfl, fun t δ' => ∃ s2, δ' = [_, .own bk (.lst ((ord.take t).flatMap fun i => (upN L ord i).map fun j => .tup [.str (nmAt ns i), .str (nmAt ns j), .int (((bgN L ord i j).getD 0 : Nat) : Int)])), s2, .no], ⟨_, rfl⟩, fun t d δ' hd ⟨s2, e⟩ => ?_, fun δ' ⟨s2, e⟩ => ?_⟩
  · subst e
    obtain ⟨i, rfl, hv⟩ := nm_ord_get hd
    have hi := hg.lt i (List.mem_of_getElem? hv)
    walk_at "D"
    refine we_lcP (wi_any ?_)
    walk_at "D"
    refine use_above hg hi fun ba => ?_
    walk_at "D"
    have hul : (upN L ord i).length ≤ ord.length := up_len
    refine ⟨_, _, rfl, rfl, ⟨trivial, trivial⟩, by rw [List.length_map, List.length_map]; omega, hdS (brS kvs (nmAt ns i)), fun j d hd => ?_, fun b => ?_⟩
    · obtain ⟨k, rfl, hk⟩ := nm_ord_get hd
      have hkm := List.mem_of_getElem? hk
      obtain ⟨hkn, _, dd, v, _, e1, _, _, _, e2⟩ := up_row hg hi hkm
      refine wgc_name (by simp) rfl ?_
      walk_at "D"
      refine dIxC_t (key_2 (ns := ns) (i := i) (j := k)) e1 ?_
      walk_at "D"
      refine ix_lk0 ?_
      walk_at "D"
      show some (brS kvs (nmAt ns i) (nmAt ns k)) = _
      unfold brS
      rw [show getT kvs [.inr (nmAt ns i), .inr (nmAt ns k)] = some (lkD ns (dd, v)) from e1]
      rfl
    · rw [hdS_map (r := fun j => .tup [.str (nmAt ns i), .str (nmAt ns j), .int (((bgN L ord i j).getD 0 : Nat) : Int)]) (upN L ord i) fun j hj => brS_is hg hi hj]
      walk_at "D"
      have htl := (List.getElem?_eq_some_iff.mp hv).1
      have fl := fm_len (f := fun i => (upN L ord i).map fun j => D.tup [.str (nmAt ns i), .str (nmAt ns j), .int (((bgN L ord i j).getD 0 : Nat) : Int)]) (m := 12) (ord.take t) fun i => by
        have := up_len (L := L) (ord := ord) (i := i)
        rw [List.length_map]
        omega
      rw [List.length_take] at fl
      refine ⟨(ord.take t).flatMap fun i => (upN L ord i).map fun j => D.tup [.str (nmAt ns i), .str (nmAt ns j), .int (((bgN L ord i j).getD 0 : Nat) : Int)], _, rfl, rfl, by rw [List.length_map]; omega, fun δ3 e => ?_⟩
      subst e
      rw [fm_take hv]
      exact ⟨_, rfl⟩
  · subst e
    walk_at "D"
    rw [List.length_map, List.length_map, List.take_of_length_le (Nat.le_refl _)]
    exact ⟨trivial, Nat.le_of_ble_eq_true rfl, _, rfl, h bk⟩
def tieF (ns : List Str) (i j d : Nat) : D → Option D
  | .tup [.str a, .str b, .int l] => some (.bl (decide ((a = nmAt ns i ∧ b = nmAt ns j ∨ a = nmAt ns j ∧ b = nmAt ns i) ∧ l = (d : Int))))
  | _ => none
theorem tieF_is {ns : List Str} (hn : ns.Nodup) {i j d : Nat} {q : Tri} (hi : i < ns.length) (hj : j < ns.length) (h1 : q.1 < ns.length) (h2 : q.2.1 < ns.length) : tieF ns i j d (triD ns q) = some (.bl (tieB ns i j d q)) := by
  have a : ∀ {x y : Nat}, x < ns.length → y < ns.length → (nmAt ns x = nmAt ns y ↔ x = y) := fun hx hy => ⟨nm_inj hn hx hy, fun e => by rw [e]⟩
  unfold triD tieB
  show some (D.bl (decide _)) = _
  simp only [a h1 hi, a h2 hj, a h1 hj, a h2 hi, Int.natCast_inj]
theorem tieF_map {ns : List Str} (hn : ns.Nodup) {i j d : Nat} (hi : i < ns.length) (hj : j < ns.length) : ∀ U : List Tri, (∀ q ∈ U, q.1 < ns.length ∧ q.2.1 < ns.length) → (U.map (triD ns)).filterMap (tieF ns i j d) = U.map fun q => D.bl (tieB ns i j d q)
  | [], _ => rfl
  | q :: U, h => by
    have h1 := h q List.mem_cons_self
    rw [List.map_cons, List.filterMap_cons, tieF_is hn hi hj h1.1 h1.2, tieF_map hn hi hj U fun r hr => h r (List.mem_cons_of_mem _ hr)]
    rfl
theorem ws_l_tied : WsC (Fx := XF) S_l_tied t_l_tied [.no] := by
  rintro K cn as Φ fx ⟨ns, U, i, j, d, rfl, hnm, hU, hUl, hi, hj, h⟩
  have hnd := hnm.nd
  unfold t_l_tied
  walk_at "d0"
  walk_at "d"
  refine we_lcP (wi_any ?_)
  walk_at "d"
  refine ⟨_, _, rfl, rfl, ⟨trivial, trivial⟩, by rw [List.length_map]; omega, tieF ns i j d, fun a x hx => ?_, fun b => ?_⟩
  · rw [List.getElem?_map] at hx
    cases hq : U[a]? with
    | none => rw [hq] at hx; cases hx
    | some q =>
      rw [hq] at hx
      cases hx
      obtain ⟨q1, q2, _⟩ := hU.ok q (List.mem_of_getElem? hq)
      have hm := tie_mem (d := d) hnd hi hj q1 q2
      have ok : ∀ a, a < ns.length → PyData.strOk (nmAt ns a) = true := fun a ha => nm_lay (nm_at_ok hnm ha)
      refine wgc_name (by simp) rfl ?_
      walk_at "d"
      refine dIxC_u (xs := [.str (nmAt ns q.1), .str (nmAt ns q.2.1), .int (q.2.2 : Nat)]) rfl ?_
      walk_at "d"
      refine dIxC_u (xs := [.str (nmAt ns q.1), .str (nmAt ns q.2.1), .int (q.2.2 : Nat)]) rfl ?_
      walk_at "d"
      refine dIxC_u (xs := [.str (nmAt ns q.1), .str (nmAt ns q.2.1), .int (q.2.2 : Nat)]) rfl ?_
      walk_at "d"
      refine ⟨_, .inr rfl, by simp [pure0, pure0s, ok _ q1, ok _ q2], by simp [pure0, pure0s, ok _ hi, ok _ hj], by simp [dpt, dpts], fun m => ?_, fun m => ?_⟩
      · exact ⟨_, rfl, by rw [tieF_is hnd hi hj q1 q2, hm.mp m]; rfl⟩
      · exact ⟨_, rfl, by rw [tieF_is hnd hi hj q1 q2, Bool.eq_false_iff.mpr fun z => m (hm.mpr z)]; rfl⟩
  · rw [tieF_map hnd hi hj U fun q hq => ⟨(hU.ok q hq).1, (hU.ok q hq).2.1⟩]
    walk_at "d"
    refine ⟨_, rfl, _, _, rfl, bls_map U, ?_⟩
    rw [tie_any hU (ns := ns)]
    exact ⟨trivial, h⟩
section
variable {P : R → List Sl → Prop} {Y : Nat → D → Prop} {cn : Cn} {ns : List Str} {L : List Tie} {ord : List Nat} {kvs : List (List Key × D)}
theorem use_tied {U : List Tri} {i j d : Nat} (hn : NmOk ns) (hU : TriOk ns.length U) (hl : U.length ≤ 40) (hi : i < ns.length) (hj : j < ns.length) (q : P (.d (.bl (decide ((U.map triT).lookup (mm i j) = some d)))) [.d (.lst (U.map (triD ns))), .d (.str (nmAt ns i)), .d (.str (nmAt ns j)), .d (.int (d : Nat))]) :
    ∀ Ψ : R → List Sl → Prop, (∀ r as', ownOut r → P r as' → Ψ r as') → S_l_tied [.d (.lst (U.map (triD ns))), .d (.str (nmAt ns i)), .d (.str (nmAt ns j)), .d (.int (d : Nat))] Ψ := fun Ψ k => ⟨ns, U, i, j, d, rfl, hn, hU, hl, hi, hj, k _ _ trivial q⟩
end
theorem ws_l_up_right : WsC (Fx := XF) S_l_up_right t_l_up_right [.no, .no, .no, .no, .no] := by
  rintro K cn as Φ fx ⟨ns, U, ord, kvs, dvs, i, rfl, hU, hUl, hg, hdu, hi, h⟩
  have hnm := hg.w.nm
  have hn12 := hnm.l2
  have hnd := hnm.nd
  have hol := hg.len
  have hul : (upN (U.map triT) ord i).length ≤ ord.length := up_len
  unfold t_l_up_right
  walk_at "d0"
  walk_at "d"
  refine we_lcP (wi_any ?_)
  walk_at "d"
  refine ⟨_, _, rfl, rfl, ⟨trivial, trivial⟩, by rw [List.length_map, List.length_map]; omega, ifS fun s => (getT dvs [.inr (nmAt ns i), .inr s]).isSome, fun a x hx => ?_, fun ba => ?_⟩
  · obtain ⟨k, rfl, hk⟩ := nm_ord_get hx
    refine wgc_name (by simp) rfl ?_
    walk_at "d"
    refine dInC_tI (key_2 (ns := ns) (i := i) (j := k)) ?_
    walk_at "d"
    refine ⟨fun h1 => ?_, fun h1 => ?_⟩
    · walk_at "d"
      first | exact ⟨_, rfl, if_pos h1⟩ | exact if_pos h1
    · exact if_neg (by show ¬ (getT dvs (kT2 ns i k)).isSome = true; rw [h1]; exact Bool.false_ne_true)
  rw [ifS_map, up_due hg hdu hi]
  walk_at "q"
  refine w_frz 5 rfl ?_
  walk_at "k"
  walk_at "d"
  refine br_n (fun z => absurd (by rw [List.length_map, List.length_map, List.length_map]) z) fun _ => ?_
  walk_at "x"
  refine w_seq ?_
  refine w_for (wi_zip ?_)
  walk_at "d"
  refine ⟨_, _, rfl, fun k δ' => ∃ s6 s7 s8 s9, δ' = [.d (.lst (U.map (triD ns))), .d (.dcT dvs), .d (.lst ((ord.map (nmAt ns)).map .str)), .d (.str (nmAt ns i)), .d (.lst ((upN (U.map triT) ord i).map (upR ns kvs i))), .d (.lst (((upN (U.map triT) ord i).map (nmAt ns)).map .str)), s6, s7, s8, s9], ⟨_, _, _, _, rfl⟩, fun k d δ' hd ⟨s6, s7, s8, s9, e⟩ => ?_, fun δ' ⟨s6, s7, s8, s9, e⟩ => ?_⟩
  · subst e
    obtain ⟨j, hj, rfl⟩ := zip_up hd
    obtain ⟨hjn, hij, dd, v, e0, e1, hdd, ht, hp, e2⟩ := up_row hg hi hj
    have hdv := due_some hdu hi hjn hij e0
    rw [e2]
    walk_at "d"
    refine br_n (fun z => absurd rfl z) fun _ => ?_
    walk_at "d"
    refine br_n (fun z => absurd rfl z) fun _ => ?_
    walk_at "x"
    walk_at "d"
    refine ⟨[.str (nmAt ns j), .int (dd : Nat), inD' ns v], rfl, (show ¬ (HT.sIx 3 0 (some 1) = 0 ∧ HT.sIx 3 3 none = 3) by decide), ?_⟩
    rw [show DL.cutD [D.str (nmAt ns j), .int (dd : Nat), inD' ns v] (some 1) none = [.int (dd : Nat), inD' ns v] from rfl]
    have rpd : rpOk (.int (dd : Nat)) := (sho_nat (d := dd) (by omega)).rp (by omega) (by omega)
    walk_at "d"
    refine ⟨_, rfl, rpd, ?_⟩
    walk_at "d"
    refine dIxC_t (key_2 (ns := ns) (i := i) (j := j)) hdv ?_
    walk_at "d"
    refine ⟨_, rfl, rpd, ?_⟩
    walk_at "d"
    refine br_n (fun z => absurd rfl z) fun _ => ?_
    cases v with
    | none =>
      have hl := ht.mp rfl
      show WT _ _ _ [_, _, _, _, _, _, _, _, _, .d .non] _
      walk_at "d"
      refine use_tied hnm hU hUl hi hjn ?_
      rw [decide_eq_true hl]
      walk_at "d"
      refine br_n (fun z => absurd rfl z) fun _ => ?_
      walk_at "x"
      walk_at "d"
      refine br_f (w_next ?_)
      exact ⟨_, _, _, _, rfl⟩
    | some p =>
      have hl : ¬ (U.map triT).lookup (mm i j) = some dd := fun z => by have := ht.mpr z; cases this
      obtain ⟨hpn, hlow, d1, d2, b1, b2, hs⟩ := hp p rfl
      obtain ⟨l1, l2⟩ := low_idx hg.nd hlow
      have g1 := due_some hdu hpn hi l1 b1
      have g2 := due_some hdu hpn hjn l2 b2
      show WT _ _ _ [_, _, _, _, _, _, _, _, _, .d (.str (nmAt ns p))] _
      walk_at "d"
      refine use_tied hnm hU hUl hi hjn ?_
      rw [decide_eq_false hl]
      walk_at "d"
      refine br_n (fun z => absurd rfl z) fun _ => ?_
      walk_at "x"
      walk_at "d"
      refine br_t ?_
      walk_at "d"
      refine dInC_tN (key_2 (ns := ns) (i := p) (j := i)) ?_
      rw [g1]
      walk_at "d"
      refine br_f ?_
      walk_at "d"
      refine dInC_tN (key_2 (ns := ns) (i := p) (j := j)) ?_
      rw [g2]
      walk_at "d"
      refine br_f ?_
      walk_at "x"
      walk_at "d"
      refine dIxC_t (key_2 (ns := ns) (i := p) (j := i)) g1 ?_
      walk_at "d"
      refine dIxC_t (key_2 (ns := ns) (i := p) (j := j)) g2 ?_
      walk_at "d"
      refine br_n (fun z => absurd (show ((d1 : Nat) : Int) + (d2 : Nat) = (dd : Nat) by omega) z) fun _ => ?_
      walk_at "x"
      exact ⟨_, _, _, _, rfl⟩
  · subst e
    walk_at "d"
    exact ⟨trivial, h⟩

section
variable {P : R → List Sl → Prop} {Y : Nat → D → Prop} {cn : Cn} {ns : List Str} {U : List Tri} {ord : List Nat} {kvs dvs : List (List Key × D)}
theorem use_lbridges (hn : NmOk ns) (hU : TriOk ns.length U) (hl : U.length ≤ 40) (hp : ord.Perm (List.range ns.length)) (q : ∀ b kvs, DueOk ns (U.map triT) ord kvs → P (.own b (.dcT kvs)) [.d (.lst (U.map (triD ns))), .d (.lst ((ord.map (nmAt ns)).map .str))]) :
    ∀ Ψ : R → List Sl → Prop, (∀ r as', ownOut r → P r as' → Ψ r as') → S_l_bridges [.d (.lst (U.map (triD ns))), .d (.lst ((ord.map (nmAt ns)).map .str))] Ψ := fun Ψ k => ⟨ns, U, ord, rfl, hn, hU, hl, hp, fun b kvs h => k _ _ trivial (q b kvs h)⟩
theorem use_up {i : Nat} (hg : HgOk ns (U.map triT) ord kvs) (hi : i < ns.length) (q : ∀ b, P (.own b (.lst ((upN (U.map triT) ord i).map (upR ns kvs i)))) [.d (highD (cn.ad CHeights) (cn.ad CWeb) ns (U.map triT) ord kvs), .d (.str (nmAt ns i))]) : S_Heights_up cn [.d (highD (cn.ad CHeights) (cn.ad CWeb) ns (U.map triT) ord kvs), .d (.str (nmAt ns i))] P Y := ⟨ns, U.map triT, ord, kvs, i, rfl, hg, hi, q⟩
theorem use_upr {i : Nat} (hU : TriOk ns.length U) (hl : U.length ≤ 40) (hg : HgOk ns (U.map triT) ord kvs) (hd : DueOk ns (U.map triT) ord dvs) (hi : i < ns.length) (q : P (.d (.bl true)) [.d (.lst (U.map (triD ns))), .d (.dcT dvs), .d (.lst ((ord.map (nmAt ns)).map .str)), .d (.str (nmAt ns i)), .d (.lst ((upN (U.map triT) ord i).map (upR ns kvs i)))]) :
    ∀ Ψ : R → List Sl → Prop, (∀ r as', ownOut r → P r as' → Ψ r as') → S_l_up_right [.d (.lst (U.map (triD ns))), .d (.dcT dvs), .d (.lst ((ord.map (nmAt ns)).map .str)), .d (.str (nmAt ns i)), .d (.lst ((upN (U.map triT) ord i).map (upR ns kvs i)))] Ψ := fun Ψ k => ⟨ns, U, ord, kvs, dvs, i, rfl, hU, hl, hg, hd, hi, k _ _ trivial q⟩
theorem use_horder (q : ∀ b, P (.own b (.lst ((ord.map (nmAt ns)).map .str))) [.d (highD (cn.ad CHeights) (cn.ad CWeb) ns (U.map triT) ord kvs)]) :
    ∀ Ψ : R → List Sl → Prop, (∀ r as', ownOut r → P r as' → Ψ r as') → S_Heights_order cn [.d (highD (cn.ad CHeights) (cn.ad CWeb) ns (U.map triT) ord kvs)] Ψ := fun Ψ k => ⟨ns, U.map triT, ord, kvs, rfl, fun b => k _ _ trivial (q b)⟩
theorem use_hbridges (hg : HgOk ns (U.map triT) ord kvs) (q : ∀ b, P (.own b (.lst (ord.flatMap fun i => (upN (U.map triT) ord i).map fun j => .tup [.str (nmAt ns i), .str (nmAt ns j), .int (((bgN (U.map triT) ord i j).getD 0 : Nat) : Int)]))) [.d (highD (cn.ad CHeights) (cn.ad CWeb) ns (U.map triT) ord kvs)]) :
    ∀ Ψ : R → List Sl → Prop, (∀ r as', ownOut r → P r as' → Ψ r as') → S_Heights_bridges cn [.d (highD (cn.ad CHeights) (cn.ad CWeb) ns (U.map triT) ord kvs)] Ψ := fun Ψ k => ⟨ns, U.map triT, ord, kvs, rfl, hg, fun b => k _ _ trivial (q b)⟩
end
/-- a bridge of the law's own -/
def lbS (dvs : List (List Key × D)) (x : Str) (s : Str) : Option D := (getT dvs [.inr x, .inr s]).map fun d => .tup [.str x, .str s, d]
def stO (g : Str → Option D) : D → Option D
  | .str s => g s
  | _ => none
def lbF (dvs : List (List Key × D)) (x : Str) : D → Option D := stO (lbS dvs x)
noncomputable abbrev bdD (ns : List Str) (L : List Tie) (ord : List Nat) (i j : Nat) : D := .tup [.str (nmAt ns i), .str (nmAt ns j), .int (((bgN L ord i j).getD 0 : Nat) : Int)]
theorem lb_fm {f : Nat → Str} {g : Str → Option D} {p : Nat → Bool} {r : Nat → D} : ∀ l : List Nat, (∀ j ∈ l, g (f j) = if p j = true then some (r j) else none) → ((l.map f).map D.str).filterMap (stO g) = (l.filter p).map r
  | [], _ => rfl
  | j :: l, h => by
    have h1 := h j List.mem_cons_self
    have h2 := lb_fm l fun k hk => h k (List.mem_cons_of_mem _ hk)
    rw [List.map_cons, List.map_cons, List.filterMap_cons, h2, List.filter_cons, show stO g (D.str (f j)) = _ from h1]
    by_cases c : p j = true
    · rw [if_pos c, if_pos c]; rfl
    · rw [if_neg c, if_neg c]
theorem lb_map {ns : List Str} {L : List Tie} {ord : List Nat} {kvs dvs : List (List Key × D)} (hg : HgOk ns L ord kvs) (hd : DueOk ns L ord dvs) {i : Nat} (hi : i < ns.length) : ((ord.map (nmAt ns)).map D.str).filterMap (lbF dvs (nmAt ns i)) = (upN L ord i).map (bdD ns L ord i) := by
  rw [← up_due hg hd hi]
  refine lb_fm (g := lbS dvs (nmAt ns i)) ord fun j hj => ?_
  have hjn := hg.lt j hj
  unfold lbS
  have e := hd i j hi hjn
  by_cases c : ord.idxOf i < ord.idxOf j
  · rw [if_pos c] at e
    cases q : bgN L ord i j with
    | none =>
      rw [q] at e
      rw [show getT dvs [.inr (nmAt ns i), .inr (nmAt ns j)] = none from e]
      rfl
    | some d =>
      rw [q] at e
      rw [show getT dvs [.inr (nmAt ns i), .inr (nmAt ns j)] = some (.int (d : Nat)) from e]
      show some _ = some _
      unfold bdD
      rw [q]
      rfl
  · rw [if_neg c] at e
    rw [show getT dvs [.inr (nmAt ns i), .inr (nmAt ns j)] = none from e]
    rfl
theorem rp_strs {ns : List Str} (hn : NmOk ns) {w : List Nat} (hw : ∀ k ∈ w, k < ns.length) (hl : w.length ≤ 12) : rpOk (.lst ((w.map (nmAt ns)).map .str)) := by
  rw [List.map_map]
  exact (sho_lst (shos_map (w := 62) (d := 0) (l := w) (f := D.str ∘ nmAt ns) fun k hk => sho_nm (nm_at_ok hn (hw k hk)))).rp (by omega) (by omega)
theorem rp_brs {ns : List Str} {L : List Tie} {ord : List Nat} {kvs : List (List Key × D)} (hg : HgOk ns L ord kvs) : rpOk (.lst (ord.flatMap fun i => (upN L ord i).map (bdD ns L ord i))) := by
  have h12 := hg.w.nm.l2
  have hl := hg.len
  have hlen := fm_len (f := fun i => (upN L ord i).map (bdD ns L ord i)) (m := 12) ord fun i => by
    have := up_len (L := L) (ord := ord) (i := i)
    rw [List.length_map]
    omega
  have hs := shos_map (w := 9000) (d := 1) (f := id) (l := ord.flatMap fun i => (upN L ord i).map (bdD ns L ord i)) fun x hx => by
    obtain ⟨i, hi, hx⟩ := List.mem_flatMap.mp hx
    obtain ⟨j, hj, rfl⟩ := List.mem_map.mp hx
    have hin := hg.lt i hi
    obtain ⟨hjn, _, d, v, e0, _, hd, _⟩ := up_row hg hin hj
    show Sho 9000 1 (bdD ns L ord i j)
    unfold bdD
    rw [e0]
    exact (sho_tup (shos_cons (sho_nm (nm_at_ok hg.w.nm hin)) (shos_cons (sho_nm (nm_at_ok hg.w.nm hjn)) (shos_cons (sho_nat (show d ≤ 4096000000 by omega)) shos_nil)))).mono (by omega) (by omega)
  rw [List.map_id] at hs
  exact (sho_lst hs).rp (by omega) (by omega)
def ToldK (ns : List Str) (L : List Tie) (ord : List Nat) (kvs : List (List Key × D)) (kds : List (Key × D)) : Prop := ∀ a, a < ns.length → ∀ y, DL.getD kds (.inr (nmAt ns a)) = some y → y = .str (reprA (.lst ((upN L ord a).map (upR ns kvs a))))
theorem told_put {ns : List Str} {L : List Tie} {ord : List Nat} {kvs : List (List Key × D)} {kds : List (Key × D)} (hn : ns.Nodup) (h : ToldK ns L ord kvs kds) {a : Nat} (ha : a < ns.length) : ToldK ns L ord kvs (putD kds (.inr (nmAt ns a)) (.str (reprA (.lst ((upN L ord a).map (upR ns kvs a)))))) := fun b hb y hy => by
  rw [getD_putD] at hy
  by_cases c : (.inr (nmAt ns b) : Key) = .inr (nmAt ns a)
  · rw [if_pos c] at hy
    have e := nm_inj hn hb ha (Sum.inr.inj c)
    subst e
    exact (Option.some.inj hy).symm
  · rw [if_neg c] at hy
    exact h b hb y hy
theorem ws_l_right (cn0 : Cn) : WsC (Fx := fun K cn => XF K cn ∧ cn = cn0) (S_l_right cn0) t_l_right [.no, .no, .no, .no, .no, .no, .no, .no] := by
  rintro K cn as Φ ⟨fx, rfl⟩ ⟨ns, U, ord, kvs, rfl, hnm, hU, hUl, hg, h⟩
  have hn12 := hnm.l2
  have hnd := hnm.nd
  have hol := hg.len
  have hlt := hg.lt
  unfold t_l_right
  walk_at "d0"
  walk_at "D"
  refine use_lbridges hnm hU hUl hg.p fun b4 dvs hdu => ?_
  walk_at "q"
  refine w_frz 4 rfl ?_
  walk_at "k"
  walk_at "D"
  rename_i b5
  refine w_for (wi_any ?_)
  walk_at "D"
  refine ⟨_, _, rfl, rfl, fun t δ' => ∃ s6, δ' = [_, _, _, _, _, .own b5 (.lst ((ord.take t).flatMap fun i => (upN (U.map triT) ord i).map (bdD ns (U.map triT) ord i))), s6, .no, _, _, _, _], ⟨_, rfl⟩, fun t d δ' hd ⟨s6, e⟩ => ?_, fun δ' ⟨s6, e⟩ => ?_⟩
  · subst e
    obtain ⟨i, rfl, hv⟩ := nm_ord_get hd
    have hi := hg.lt i (List.mem_of_getElem? hv)
    walk_at "D"
    refine we_lcP (wi_any ?_)
    walk_at "D"
    refine ⟨_, _, rfl, rfl, ⟨trivial, trivial⟩, by rw [List.length_map, List.length_map]; omega, lbF dvs (nmAt ns i), fun j d hd => ?_, fun b => ?_⟩
    · obtain ⟨k, rfl, hk⟩ := nm_ord_get hd
      refine wgc_name (by simp) rfl ?_
      walk_at "D"
      refine dInC_tI (key_2 (ns := ns) (i := i) (j := k)) ?_
      cases q : getT dvs (kT2 ns i k) with
      | none =>
        refine ⟨false, rfl, br_f ?_⟩
        show lbS dvs (nmAt ns i) (nmAt ns k) = none
        unfold lbS
        rw [show getT dvs [.inr (nmAt ns i), .inr (nmAt ns k)] = none from q]
        rfl
      | some y =>
        refine ⟨true, rfl, br_t ?_⟩
        walk_at "D"
        refine dIxC_t (key_2 (ns := ns) (i := i) (j := k)) q ?_
        walk_at "D"
        show lbS dvs (nmAt ns i) (nmAt ns k) = _
        unfold lbS
        rw [show getT dvs [.inr (nmAt ns i), .inr (nmAt ns k)] = some y from q]
        rfl
    · rw [lb_map hg hdu hi]
      walk_at "D"
      have htl := (List.getElem?_eq_some_iff.mp hv).1
      have fl := fm_len (f := fun i => (upN (U.map triT) ord i).map (bdD ns (U.map triT) ord i)) (m := 12) (ord.take t) fun i => by
        have := up_len (L := U.map triT) (ord := ord) (i := i)
        rw [List.length_map]
        omega
      have hul : (upN (U.map triT) ord i).length ≤ ord.length := up_len
      rw [List.length_take] at fl
      refine ⟨(ord.take t).flatMap fun i => (upN (U.map triT) ord i).map (bdD ns (U.map triT) ord i), _, rfl, rfl, by rw [List.length_map]; omega, fun δ3 e => ?_⟩
      subst e
      rw [fm_take hv]
      exact ⟨_, rfl⟩
  · subst e
    rw [List.length_map, List.length_map, List.take_of_length_le (Nat.le_refl _)]
    walk_at "q"
    walk_at "D"
    rename_i b8
    have hrp := rp_strs hnm hlt (by omega)
    refine w_for (wi_range1 ?_)
    walk_at "D"
    refine ⟨_, rfl, by omega, by omega, ?_⟩
    refine ⟨fun lap δ' => ∃ kds s6 s9 s10 s11, δ' = [.d (highD (cn.ad CHeights) (cn.ad CWeb) ns (U.map triT) ord kvs), .d (.lst (ns.map .str)), .d (.lst (U.map (triD ns))), .d (.lst ((ord.map (nmAt ns)).map .str)), .d (.dcT dvs), .own b5 (.lst (ord.flatMap fun i => (upN (U.map triT) ord i).map (bdD ns (U.map triT) ord i))), s6, .no, .own b8 (.dct kds), s9, s10, s11] ∧ kds.length ≤ 100 * lap ∧ ToldK ns (U.map triT) ord kvs kds, ⟨[], _, _, _, _, rfl, Nat.le_refl _, fun a _ y z => by cases z⟩, fun lap d δ' hd ⟨kds, s6, s9, s10, s11, e, hkl, hkt⟩ => ?_, fun δ' ⟨kds, s6, s9, s10, s11, e, hkl, hkt⟩ => ?_⟩
    · subst e
      obtain ⟨hlap, rfl⟩ := rangeD_get hd
      walk_at "D"
      refine use_horder fun b9 => ?_
      walk_at "D"
      refine ⟨_, rfl, hrp, ?_⟩
      walk_at "D"
      refine ⟨_, rfl, hrp, ?_⟩
      walk_at "D"
      refine br_n (fun z => absurd rfl z) fun _ => ?_
      walk_at "x"
      refine w_seq ?_
      refine w_for (wi_any ?_)
      walk_at "D"
      refine ⟨_, _, rfl, rfl, fun a δ' => ∃ kds s6 s9 s10 s11, δ' = [.d (highD (cn.ad CHeights) (cn.ad CWeb) ns (U.map triT) ord kvs), .d (.lst (ns.map .str)), .d (.lst (U.map (triD ns))), .d (.lst ((ord.map (nmAt ns)).map .str)), .d (.dcT dvs), .own b5 (.lst (ord.flatMap fun i => (upN (U.map triT) ord i).map (bdD ns (U.map triT) ord i))), s6, .no, .own b8 (.dct kds), s9, s10, s11] ∧ kds.length ≤ 100 * lap + a ∧ ToldK ns (U.map triT) ord kvs kds, ⟨kds, _, _, _, _, rfl, Nat.le_trans hkl (by omega), hkt⟩, fun a d δ' hd ⟨kds, s6, s9, s10, s11, e, hkl, hkt⟩ => ?_, fun δ' ⟨kds, s6, s9, s10, s11, e, hkl, hkt⟩ => ?_⟩
      · subst e
        obtain ⟨x, rfl, hx⟩ := strs_get hd
        have hj := (List.getElem?_eq_some_iff.mp hx).1
        rw [nmAt_get hj] at hx
        cases hx
        have rpu := rp_up hg hj
        walk_at "D"
        refine fun P Y' k1 => use_up hg hj fun b11 => k1 _ _ trivial ?_
        walk_at "q"
        refine w_seq ?_
        refine w_if (wt_lend 11 _ rfl rfl ?_)
        walk_at "D"
        refine use_upr hU hUl hg hdu hj ?_
        walk_at "D"
        refine we_setd ?_
        walk_at "D"
        refine ⟨⟨_, rfl⟩, ?_⟩
        walk_at "D"
        refine ⟨_, .inr (nmAt ns a), rfl, rfl, ?_⟩
        walk_at "D"
        refine ⟨_, rfl, rpu, ?_⟩
        refine ⟨_, kds, rfl, rfl, by omega, fun y hy => ?_, fun hno δ4 e => ?_⟩
        · have hy2 := hkt a hj y hy
          subst hy2
          walk_at "D"
          refine ⟨_, rfl, rpu, ?_⟩
          walk_at "D"
          refine br_n (fun z => absurd rfl z) fun _ => ?_
          walk_at "x"
          walk_at "D"
          refine ⟨11, b11, _, rfl, rfl, fun δ3 e => ?_⟩
          subst e
          exact ⟨kds, _, _, _, _, rfl, by omega, hkt⟩
        · subst e
          walk_at "D"
          refine ⟨_, rfl, rpu, ?_⟩
          walk_at "D"
          refine br_n (fun z => absurd rfl z) fun _ => ?_
          walk_at "x"
          walk_at "D"
          refine ⟨11, b11, _, rfl, rfl, fun δ3 e => ?_⟩
          subst e
          exact ⟨_, _, _, _, _, rfl, Nat.le_trans (putD_len _ _ _) (by omega), told_put hnd hkt hj⟩
      · subst e
        walk_at "D"
        refine use_hbridges hg fun b12 => ?_
        walk_at "D"
        refine ⟨_, rfl, rp_brs hg, ?_⟩
        walk_at "D"
        refine ⟨_, rfl, rp_brs hg, ?_⟩
        walk_at "D"
        refine br_n (fun z => absurd rfl z) fun _ => ?_
        walk_at "x"
        walk_at "D"
        have fl := fm_len (f := fun i => (upN (U.map triT) ord i).map (bdD ns (U.map triT) ord i)) (m := 12) ord fun i => by
          have := up_len (L := U.map triT) (ord := ord) (i := i)
          rw [List.length_map]
          omega
        refine ⟨_, _, rfl, rfl, Nat.lt_of_le_of_lt fl (by omega), fun δ3 e => ?_⟩
        subst e
        try walk_at "k"
        walk_at "p"
        refine w_drop (we_clearT ?_)
        walk_at "D"
        refine use_horder fun b13 => ?_
        walk_at "D"
        refine ⟨_, _, rfl, ?_⟩
        rw [List.length_map] at hkl
        exact ⟨kds, _, _, _, _, rfl, by omega, hkt⟩
    · subst e
      walk_at "D"
      exact ⟨trivial, h⟩
section
variable {P : R → List Sl → Prop} {cn : Cn} {ns : List Str} {ord : List Nat} {U : List Tri} {kvs : List (List Key × D)}
theorem use_order {b : Addr} {x : D} {n : Nat} (hb : BoxD n x) (hn : n + 20 < 1000000) (hl : ns.length ≤ 12) (q : ∀ b2 (ord : List Nat) x', ord.Perm (List.range ns.length) → BoxD (n + 20) x' → P (.own b2 (.lst ((ord.map (nmAt ns)).map .str))) [.own b x', .d (.lst (ns.map .str))]) :
    ∀ Ψ : R → List Sl → Prop, (∀ r as', ownOut r → P r as' → Ψ r as') → S_l_order [.own b x, .d (.lst (ns.map .str))] Ψ := fun Ψ k => ⟨b, x, n, ns, rfl, hb, hn, hl, fun b2 ord x' h1 h2 => k _ _ trivial (q b2 ord x' h1 h2)⟩
theorem use_right (hn : NmOk ns) (hU : TriOk ns.length U) (hl : U.length ≤ 40) (hg : HgOk ns (U.map triT) ord kvs) (q : P (.d (.bl true)) [.d (highD (cn.ad CHeights) (cn.ad CWeb) ns (U.map triT) ord kvs), .d (.lst (ns.map .str)), .d (.lst (U.map (triD ns))), .d (.lst ((ord.map (nmAt ns)).map .str))]) :
    ∀ Ψ : R → List Sl → Prop, (∀ r as', ownOut r → P r as' → Ψ r as') → S_l_right cn [.d (highD (cn.ad CHeights) (cn.ad CWeb) ns (U.map triT) ord kvs), .d (.lst (ns.map .str)), .d (.lst (U.map (triD ns))), .d (.lst ((ord.map (nmAt ns)).map .str))] Ψ := fun Ψ k => ⟨ns, U, ord, kvs, rfl, hn, hU, hl, hg, k _ _ trivial q⟩
end
theorem ws_law : WsC (Fx := XF) S_law t_law [.no, .no, .no, .no, .no, .no, .no, .no, .no, .no] := by
  rintro K cn as Φ fx ⟨ns0, rfl, hl, h⟩
  unfold t_law
  walk_at "d0"
  walk_at "d"
  refine w_for (wi_range1 ?_)
  walk_at "d"
  rw [List.length_map]
  refine ⟨_, rfl, by split <;> first | omega | (split <;> omega), by split <;> first | omega | (split <;> omega), ?_⟩
  refine ⟨fun i δ' => ∃ s1 s2 s3 s4 s5 s6 s7 s8 s9 s10, δ' = [.d (.ro (ns0.map .int)), s1, s2, s3, s4, s5, s6, s7, s8, s9, s10], ⟨_, _, _, _, _, _, _, _, _, _, rfl⟩, fun i d δ' hd ⟨s1, s2, s3, s4, s5, s6, s7, s8, s9, s10, e⟩ => ?_, fun δ' ⟨s1, s2, s3, s4, s5, s6, s7, s8, s9, s10, e⟩ => ?_⟩
  · subst e
    obtain ⟨hi, rfl⟩ := rangeD_get hd
    rw [Int.zero_add]
    walk_at "d"
    refine use_cell hl fun v => ?_
    walk_at "d"
    refine use_box fun b x hb => ?_
    walk_at "d"
    refine use_drawn (m := 12) hb (by omega) (by omega) (by omega) fun ns U x1 hnm _ hU hUl hb1 => ?_
    have hw := wb_tri hnm hU hUl
    walk_at "D"
    refine we_makeX0 ?_
    walk_at "D"
    refine fun P Y k => use_init (t := false) (u := false) hnm hU hUl .d .d (k _ _ _ (.own _) ?_)
    walk_at "q"
    refine w_frz 5 rfl ?_
    walk_at "k"
    walk_at "d"
    refine use_order hb1 (by omega) hnm.l2 fun b2 ord x2 hp hb2 => ?_
    walk_at "d"
    refine use_order hb2 (by omega) hnm.l2 fun b3 or2 x3 hp2 hb3 => ?_
    walk_at "d"
    refine ⟨_, _, rfl, fun δ3 e => ?_⟩
    subst e
    walk_at "k"
    walk_at "D"
    refine ⟨_, rfl, .inl ⟨_, rfl, fun b8 => ?_⟩⟩
    walk_at "D"
    refine we_makeX0 ?_
    walk_at "D"
    refine fun P Y k => use_heights (t := false) hw hp (by constructor) fun kvs hg => k _ _ _ (.own _) ?_
    walk_at "q"
    refine w_frz 9 rfl ?_
    walk_at "k"
    walk_at "D"
    refine we_makeX0 ?_
    walk_at "D"
    refine ⟨_, rfl, _, rfl, ?_⟩
    walk_at "D"
    refine fun P Y k => use_heights (t := true) hw hp2 .d fun kvs2 hg2 => k _ _ _ (.own _) ?_
    walk_at "q"
    refine w_frz 10 rfl ?_
    walk_at "k"
    walk_at "D"
    refine we_reverse0 ?_
    walk_at "D"
    refine ⟨8, b8, _, rfl, rfl, fun δ3 e => ?_⟩
    subst e
    try walk_at "k"
    walk_at "D"
    refine use_right hnm hU hUl hg ?_
    walk_at "D"
    refine use_right hnm hU hUl hg2 ?_
    walk_at "D"
    refine use_right hnm hU hUl hg ?_
    walk_at "D"
    exact ⟨_, _, _, _, _, _, _, _, _, _, rfl⟩
  · subst e
    walk_at "d"
    exact ⟨trivial, h⟩

def top (i : Nat) : Stmt := PySem.Challenge.pw_farmarks_k61_bridges_told.main.body.getD i (.Pass ⟨0, 0, 0, 0⟩)
abbrev s_Web_places : Stmt := inClass (top 33) 1
theorem sc_Web_places : FnScope N_Web_places ["self"] (defScope s_Web_places) := ⟨rfl, rfl, rfl, by decide +kernel, rfl, by decide +kernel, by decide +kernel⟩
abbrev s_need_place : Stmt := top 14
theorem sc_need_place : FnScope N_need_place ["web", "thing"] (defScope s_need_place) := ⟨rfl, rfl, rfl, by decide +kernel, rfl, by decide +kernel, by decide +kernel⟩
abbrev s_Web_many : Stmt := inClass (top 33) 2
theorem sc_Web_many : FnScope N_Web_many ["self"] (defScope s_Web_many) := ⟨rfl, rfl, rfl, by decide +kernel, rfl, by decide +kernel, by decide +kernel⟩
abbrev s_need_order : Stmt := top 16
theorem sc_need_order : FnScope N_need_order ["web", "thing"] (defScope s_need_order) := ⟨rfl, rfl, rfl, by decide +kernel, rfl, by decide +kernel, by decide +kernel⟩
abbrev s_Web_ties : Stmt := inClass (top 33) 3
theorem sc_Web_ties : FnScope N_Web_ties ["self"] (defScope s_Web_ties) := ⟨rfl, rfl, rfl, by decide +kernel, rfl, by decide +kernel, by decide +kernel⟩
abbrev s_linked : Stmt := top 18
theorem sc_linked : FnScope N_linked ["web"] (defScope s_linked) := ⟨rfl, rfl, rfl, by decide +kernel, rfl, by decide +kernel, by decide +kernel⟩
abbrev s_bridged : Stmt := top 19
theorem sc_bridged : FnScope N_bridged ["web", "order"] (defScope s_bridged) := ⟨rfl, rfl, rfl, by decide +kernel, rfl, by decide +kernel, by decide +kernel⟩
abbrev s_Heights___init__ : Stmt := inClass (top 20) 0
theorem sc_Heights___init__ : FnScope N_Heights___init__ ["self", "web", "order"] (defScope s_Heights___init__) := ⟨rfl, rfl, rfl, by decide +kernel, rfl, by decide +kernel, by decide +kernel⟩
abbrev s_Heights_order : Stmt := inClass (top 20) 1
theorem sc_Heights_order : FnScope N_Heights_order ["self"] (defScope s_Heights_order) := ⟨rfl, rfl, rfl, by decide +kernel, rfl, by decide +kernel, by decide +kernel⟩
abbrev s_Heights_above : Stmt := inClass (top 20) 2
theorem sc_Heights_above : FnScope N_Heights_above ["self", "place"] (defScope s_Heights_above) := ⟨rfl, rfl, rfl, by decide +kernel, rfl, by decide +kernel, by decide +kernel⟩
abbrev s_Heights_up : Stmt := inClass (top 20) 3
theorem sc_Heights_up : FnScope N_Heights_up ["self", "place"] (defScope s_Heights_up) := ⟨rfl, rfl, rfl, by decide +kernel, rfl, by decide +kernel, by decide +kernel⟩
abbrev s_Heights_bridges : Stmt := inClass (top 20) 4
theorem sc_Heights_bridges : FnScope N_Heights_bridges ["self"] (defScope s_Heights_bridges) := ⟨rfl, rfl, rfl, by decide +kernel, rfl, by decide +kernel, by decide +kernel⟩
abbrev s_is_whole : Stmt := top 23
theorem sc_is_whole : FnScope N_is_whole ["thing", "low", "high"] (defScope s_is_whole) := ⟨rfl, rfl, rfl, by decide +kernel, rfl, by decide +kernel, by decide +kernel⟩
abbrev s_is_name : Stmt := top 24
theorem sc_is_name : FnScope N_is_name ["thing"] (defScope s_is_name) := ⟨rfl, rfl, rfl, by decide +kernel, rfl, by decide +kernel, by decide +kernel⟩
abbrev s_spots_of : Stmt := top 29
theorem sc_spots_of : FnScope N_spots_of ["places"] (defScope s_spots_of) := ⟨rfl, rfl, rfl, by decide +kernel, rfl, by decide +kernel, by decide +kernel⟩
abbrev s_spot_of : Stmt := top 30
theorem sc_spot_of : FnScope N_spot_of ["spots", "place"] (defScope s_spot_of) := ⟨rfl, rfl, rfl, by decide +kernel, rfl, by decide +kernel, by decide +kernel⟩
abbrev s_pair_of : Stmt := top 31
theorem sc_pair_of : FnScope N_pair_of ["here", "there"] (defScope s_pair_of) := ⟨rfl, rfl, rfl, by decide +kernel, rfl, by decide +kernel, by decide +kernel⟩
abbrev s_lengths_of : Stmt := top 32
theorem sc_lengths_of : FnScope N_lengths_of ["spots", "ties"] (defScope s_lengths_of) := ⟨rfl, rfl, rfl, by decide +kernel, rfl, by decide +kernel, by decide +kernel⟩
abbrev s_Web___init__ : Stmt := inClass (top 33) 0
theorem sc_Web___init__ : FnScope N_Web___init__ ["self", "places", "ties"] (defScope s_Web___init__) := ⟨rfl, rfl, rfl, by decide +kernel, rfl, by decide +kernel, by decide +kernel⟩
abbrev s_l_cell : Stmt := top 35
theorem sc_l_cell : FnScope N_l_cell ["_law_script", "_law_k"] (defScope s_l_cell) := ⟨rfl, rfl, rfl, by decide +kernel, rfl, by decide +kernel, by decide +kernel⟩
abbrev s_l_box : Stmt := top 36
theorem sc_l_box : FnScope N_l_box ["_law_cell_here"] (defScope s_l_box) := ⟨rfl, rfl, rfl, by decide +kernel, rfl, by decide +kernel, by decide +kernel⟩
abbrev s_l_take : Stmt := top 37
theorem sc_l_take : FnScope N_l_take ["_law_box_here", "_law_many"] (defScope s_l_take) := ⟨rfl, rfl, rfl, by decide +kernel, rfl, by decide +kernel, by decide +kernel⟩
abbrev s_l_names : Stmt := top 38
theorem sc_l_names : FnScope N_l_names ["_law_box_here", "_law_many"] (defScope s_l_names) := ⟨rfl, rfl, rfl, by decide +kernel, rfl, by decide +kernel, by decide +kernel⟩
abbrev s_l_is_tied : Stmt := top 39
theorem sc_l_is_tied : FnScope N_l_is_tied ["_law_box_here", "_law_shape", "_law_k", "_law_j", "_law_near"] (defScope s_l_is_tied) := ⟨rfl, rfl, rfl, by decide +kernel, rfl, by decide +kernel, by decide +kernel⟩
abbrev s_l_length : Stmt := top 40
theorem sc_l_length : FnScope N_l_length ["_law_box_here", "_law_style"] (defScope s_l_length) := ⟨rfl, rfl, rfl, by decide +kernel, rfl, by decide +kernel, by decide +kernel⟩
abbrev s_l_turned : Stmt := top 42
theorem sc_l_turned : FnScope N_l_turned ["_law_box_here", "_law_many"] (defScope s_l_turned) := ⟨rfl, rfl, rfl, by decide +kernel, rfl, by decide +kernel, by decide +kernel⟩
abbrev s_l_named : Stmt := top 43
theorem sc_l_named : FnScope N_l_named ["_law_box_here", "_law_ties", "_law_many"] (defScope s_l_named) := ⟨rfl, rfl, rfl, by decide +kernel, rfl, by decide +kernel, by decide +kernel⟩
abbrev s_l_drawn : Stmt := top 41
theorem sc_l_drawn : FnScope N_l_drawn ["_law_box_here", "_law_most"] (defScope s_l_drawn) := ⟨rfl, rfl, rfl, by decide +kernel, rfl, by decide +kernel, by decide +kernel⟩
abbrev s_l_order : Stmt := top 44
theorem sc_l_order : FnScope N_l_order ["_law_box_here", "_law_names_here"] (defScope s_l_order) := ⟨rfl, rfl, rfl, by decide +kernel, rfl, by decide +kernel, by decide +kernel⟩
abbrev s_l_bridges : Stmt := top 45
theorem sc_l_bridges : FnScope N_l_bridges ["_law_ties", "_law_order_here"] (defScope s_l_bridges) := ⟨rfl, rfl, rfl, by decide +kernel, rfl, by decide +kernel, by decide +kernel⟩
abbrev s_l_tied : Stmt := top 46
theorem sc_l_tied : FnScope N_l_tied ["_law_ties", "_law_one", "_law_other", "_law_length_here"] (defScope s_l_tied) := ⟨rfl, rfl, rfl, by decide +kernel, rfl, by decide +kernel, by decide +kernel⟩
abbrev s_l_up_right : Stmt := top 47
theorem sc_l_up_right : FnScope N_l_up_right ["_law_ties", "_law_due", "_law_order_here", "_law_place", "_law_found"] (defScope s_l_up_right) := ⟨rfl, rfl, rfl, by decide +kernel, rfl, by decide +kernel, by decide +kernel⟩
abbrev s_l_right : Stmt := top 48
theorem sc_l_right : FnScope N_l_right ["_law_heights", "_law_names_here", "_law_ties", "_law_order_here"] (defScope s_l_right) := ⟨rfl, rfl, rfl, by decide +kernel, rfl, by decide +kernel, by decide +kernel⟩
abbrev s_law : Stmt := top 49
theorem sc_law : FnScope N_law ["_law_script"] (defScope s_law) := ⟨rfl, rfl, rfl, by decide +kernel, rfl, by decide +kernel, by decide +kernel⟩
abbrev s_NoPlaces : Stmt := inClass (top 3) 0
theorem sc_NoPlaces : FnScope ["self", "found"] ["self", "found"] (defScope s_NoPlaces) := ⟨rfl, rfl, rfl, by decide +kernel, rfl, by decide +kernel, by decide +kernel⟩
abbrev s_NoName : Stmt := inClass (top 4) 0
theorem sc_NoName : FnScope ["self", "found"] ["self", "found"] (defScope s_NoName) := ⟨rfl, rfl, rfl, by decide +kernel, rfl, by decide +kernel, by decide +kernel⟩
abbrev s_Twice : Stmt := inClass (top 5) 0
theorem sc_Twice : FnScope ["self", "found"] ["self", "found"] (defScope s_Twice) := ⟨rfl, rfl, rfl, by decide +kernel, rfl, by decide +kernel, by decide +kernel⟩
abbrev s_NoTies : Stmt := inClass (top 6) 0
theorem sc_NoTies : FnScope ["self", "found"] ["self", "found"] (defScope s_NoTies) := ⟨rfl, rfl, rfl, by decide +kernel, rfl, by decide +kernel, by decide +kernel⟩
abbrev s_NoTie : Stmt := inClass (top 7) 0
theorem sc_NoTie : FnScope ["self", "found"] ["self", "found"] (defScope s_NoTie) := ⟨rfl, rfl, rfl, by decide +kernel, rfl, by decide +kernel, by decide +kernel⟩
abbrev s_NoPlace : Stmt := inClass (top 8) 0
theorem sc_NoPlace : FnScope ["self", "found"] ["self", "found"] (defScope s_NoPlace) := ⟨rfl, rfl, rfl, by decide +kernel, rfl, by decide +kernel, by decide +kernel⟩
abbrev s_Loop : Stmt := inClass (top 9) 0
theorem sc_Loop : FnScope ["self", "found"] ["self", "found"] (defScope s_Loop) := ⟨rfl, rfl, rfl, by decide +kernel, rfl, by decide +kernel, by decide +kernel⟩
abbrev s_NoLength : Stmt := inClass (top 10) 0
theorem sc_NoLength : FnScope ["self", "found"] ["self", "found"] (defScope s_NoLength) := ⟨rfl, rfl, rfl, by decide +kernel, rfl, by decide +kernel, by decide +kernel⟩
abbrev s_NoOrder : Stmt := inClass (top 11) 0
theorem sc_NoOrder : FnScope ["self", "found"] ["self", "found"] (defScope s_NoOrder) := ⟨rfl, rfl, rfl, by decide +kernel, rfl, by decide +kernel, by decide +kernel⟩
abbrev s_Tied : Stmt := inClass (top 12) 0
theorem sc_Tied : FnScope ["self", "one", "other"] ["self", "one", "other"] (defScope s_Tied) := ⟨rfl, rfl, rfl, by decide +kernel, rfl, by decide +kernel, by decide +kernel⟩

local macro_rules | `(tactic| walk_at "lenY") => `(tactic| (intro as Φ Y h; repeat first | (obtain ⟨h0, _⟩ := h; subst h0; rfl) | (obtain ⟨_, h⟩ := h)))
local macro_rules | `(tactic| walk_at "len") => `(tactic| (intro as Φ h; repeat first | (obtain ⟨h0, _⟩ := h; subst h0; rfl) | (obtain ⟨_, h⟩ := h)))
theorem len_Web_places (cn : Cn) : ∀ as Φ, S_Web_places cn as Φ → as.length = 1 := by walk_at "len"
theorem len_need_place (cn : Cn) : ∀ as Φ Y, S_need_place cn as Φ Y → as.length = 2 := by walk_at "lenY"
theorem len_Web_many (cn : Cn) : ∀ as Φ, S_Web_many cn as Φ → as.length = 1 := by walk_at "len"
theorem len_need_order (cn : Cn) : ∀ as Φ Y, S_need_order cn as Φ Y → as.length = 2 := by walk_at "lenY"
theorem len_Web_ties (cn : Cn) : ∀ as Φ, S_Web_ties cn as Φ → as.length = 1 := by walk_at "len"
theorem len_linked (cn : Cn) : ∀ as Φ, S_linked cn as Φ → as.length = 1 := by walk_at "len"
theorem len_bridged (cn : Cn) : ∀ as Φ, S_bridged cn as Φ → as.length = 2 := by walk_at "len"
theorem len_Heights___init__ (cn : Cn) : ∀ as Φ Y, S_Heights___init__ cn as Φ Y → as.length = 3 := by walk_at "lenY"
theorem len_Heights_order (cn : Cn) : ∀ as Φ, S_Heights_order cn as Φ → as.length = 1 := by walk_at "len"
theorem len_Heights_above (cn : Cn) : ∀ as Φ, S_Heights_above cn as Φ → as.length = 2 := by walk_at "len"
theorem len_Heights_up (cn : Cn) : ∀ as Φ Y, S_Heights_up cn as Φ Y → as.length = 2 := by walk_at "lenY"
theorem len_Heights_bridges (cn : Cn) : ∀ as Φ, S_Heights_bridges cn as Φ → as.length = 1 := by walk_at "len"
theorem len_is_whole : ∀ as Φ, S_is_whole as Φ → as.length = 3 := by walk_at "len"
theorem len_is_name : ∀ as Φ, S_is_name as Φ → as.length = 1 := by walk_at "len"
theorem len_spots_of : ∀ as Φ Y, S_spots_of as Φ Y → as.length = 1 := by walk_at "lenY"
theorem len_spot_of : ∀ as Φ Y, S_spot_of as Φ Y → as.length = 2 := by walk_at "lenY"
theorem len_pair_of : ∀ as Φ, S_pair_of as Φ → as.length = 2 := by walk_at "len"
theorem len_lengths_of : ∀ as Φ Y, S_lengths_of as Φ Y → as.length = 2 := by walk_at "lenY"
theorem len_Web___init__ (cn : Cn) : ∀ as Φ Y, S_Web___init__ cn as Φ Y → as.length = 3 := by walk_at "lenY"
theorem len_l_cell : ∀ as Φ, S_l_cell as Φ → as.length = 2 := by walk_at "len"
theorem len_l_box : ∀ as Φ, S_l_box as Φ → as.length = 1 := by walk_at "len"
theorem len_l_take : ∀ as Φ, S_l_take as Φ → as.length = 2 := by walk_at "len"
theorem len_l_names : ∀ as Φ, S_l_names as Φ → as.length = 2 := by walk_at "len"
theorem len_l_is_tied : ∀ as Φ, S_l_is_tied as Φ → as.length = 5 := by walk_at "len"
theorem len_l_length : ∀ as Φ, S_l_length as Φ → as.length = 2 := by walk_at "len"
theorem len_l_turned : ∀ as Φ, S_l_turned as Φ → as.length = 2 := by walk_at "len"
theorem len_l_named : ∀ as Φ, S_l_named as Φ → as.length = 3 := by walk_at "len"
theorem len_l_drawn : ∀ as Φ, S_l_drawn as Φ → as.length = 2 := by walk_at "len"
theorem len_l_order : ∀ as Φ, S_l_order as Φ → as.length = 2 := by walk_at "len"
theorem len_l_bridges : ∀ as Φ, S_l_bridges as Φ → as.length = 2 := by walk_at "len"
theorem len_l_tied : ∀ as Φ, S_l_tied as Φ → as.length = 4 := by walk_at "len"
theorem len_l_up_right : ∀ as Φ, S_l_up_right as Φ → as.length = 5 := by walk_at "len"
theorem len_l_right (cn : Cn) : ∀ as Φ, S_l_right cn as Φ → as.length = 4 := by walk_at "len"
theorem len_law : ∀ as Φ, S_law as Φ → as.length = 1 := by walk_at "len"
theorem reps_ints {K : PySem.W.Frag} {G : Hp} : ∀ ns : List Int, Reps K G (ns.map D.int) (ns.map V.int)
  | [] => reps_nil
  | n :: ns => reps_cons rep_int (reps_ints ns)
theorem law_in {K : PySem.W.Frag} {H : Hp} {a : Addr} {ns : List Int} (hl : ns.length ≤ 63) (hb : ∀ z ∈ ns, Builtin.Int.intBits z ≤ 1048576) (h : SqL K H a (ns.map V.int)) : lift K S_law [.ref a] H (fun v _ => v = .bl true) (fun _ _ _ => False) := by
  refine ⟨fun _ => none, H, [.d (.ro (ns.map .int))], ⟨fun b o e => (nomatch e), Ex.refl H, fun b => .inl rfl, ⟨_, _, rfl, ⟨_, rfl, ?_⟩, rfl⟩, fun a h => (nomatch h), List.nodup_nil⟩, ns, rfl, hl, fun v G' H' _ _ rv => ?_⟩
  · unfold Rep
    exact ⟨a, _, rfl, h, reps_ints ns⟩
  · have rv' : Rep K G' (.bl true) v := rv
    unfold Rep at rv'
    exact rv'
/-- what the top has written -/
structure DefOk (K : PySem.W.Frag) (mg : Str → Option Value) (x : Str) (st : Stmt) (ps : List Str) (a : Addr) (fd : FuncData) : Prop where
  fn : Fun K x x st a fd
  b : Binds K fd ps []
  g : mg x = some (.ref a)
structure Txt (K : PySem.W.Frag) (mg : Str → Option Value) (cn : Cn) where
  xf : XF K cn
  xb : ExcBase K mg cn.bs "MarkError"
  fi_NoPlaces : Addr
  fd_NoPlaces : FuncData
  x_NoPlaces : ExcDef K mg (cn.ad XNoPlaces) "NoPlaces" "NoPlaces.__init__" s_NoPlaces ["found"] fi_NoPlaces fd_NoPlaces
  fi_NoName : Addr
  fd_NoName : FuncData
  x_NoName : ExcDef K mg (cn.ad XNoName) "NoName" "NoName.__init__" s_NoName ["found"] fi_NoName fd_NoName
  fi_Twice : Addr
  fd_Twice : FuncData
  x_Twice : ExcDef K mg (cn.ad XTwice) "Twice" "Twice.__init__" s_Twice ["found"] fi_Twice fd_Twice
  fi_NoTies : Addr
  fd_NoTies : FuncData
  x_NoTies : ExcDef K mg (cn.ad XNoTies) "NoTies" "NoTies.__init__" s_NoTies ["found"] fi_NoTies fd_NoTies
  fi_NoTie : Addr
  fd_NoTie : FuncData
  x_NoTie : ExcDef K mg (cn.ad XNoTie) "NoTie" "NoTie.__init__" s_NoTie ["found"] fi_NoTie fd_NoTie
  fi_NoPlace : Addr
  fd_NoPlace : FuncData
  x_NoPlace : ExcDef K mg (cn.ad XNoPlace) "NoPlace" "NoPlace.__init__" s_NoPlace ["found"] fi_NoPlace fd_NoPlace
  fi_Loop : Addr
  fd_Loop : FuncData
  x_Loop : ExcDef K mg (cn.ad XLoop) "Loop" "Loop.__init__" s_Loop ["found"] fi_Loop fd_Loop
  fi_NoLength : Addr
  fd_NoLength : FuncData
  x_NoLength : ExcDef K mg (cn.ad XNoLength) "NoLength" "NoLength.__init__" s_NoLength ["found"] fi_NoLength fd_NoLength
  fi_NoOrder : Addr
  fd_NoOrder : FuncData
  x_NoOrder : ExcDef K mg (cn.ad XNoOrder) "NoOrder" "NoOrder.__init__" s_NoOrder ["found"] fi_NoOrder fd_NoOrder
  fi_Tied : Addr
  fd_Tied : FuncData
  x_Tied : ExcDef K mg (cn.ad XTied) "Tied" "Tied.__init__" s_Tied ["other", "one"] fi_Tied fd_Tied
  a_Web_places : Addr
  f_Web_places : FuncData
  d_Web_places : MethOk K (cn.ad CWeb) "places" "Web.places" s_Web_places ["self"] a_Web_places f_Web_places
  a_need_place : Addr
  f_need_place : FuncData
  d_need_place : DefOk K mg "need_place" s_need_place ["web", "thing"] a_need_place f_need_place
  a_Web_many : Addr
  f_Web_many : FuncData
  d_Web_many : MethOk K (cn.ad CWeb) "many" "Web.many" s_Web_many ["self"] a_Web_many f_Web_many
  a_need_order : Addr
  f_need_order : FuncData
  d_need_order : DefOk K mg "need_order" s_need_order ["web", "thing"] a_need_order f_need_order
  a_Web_ties : Addr
  f_Web_ties : FuncData
  d_Web_ties : MethOk K (cn.ad CWeb) "ties" "Web.ties" s_Web_ties ["self"] a_Web_ties f_Web_ties
  a_linked : Addr
  f_linked : FuncData
  d_linked : DefOk K mg "linked" s_linked ["web"] a_linked f_linked
  a_bridged : Addr
  f_bridged : FuncData
  d_bridged : DefOk K mg "bridged" s_bridged ["web", "order"] a_bridged f_bridged
  a_Heights___init__ : Addr
  f_Heights___init__ : FuncData
  d_Heights___init__ : MethOk K (cn.ad CHeights) "__init__" "Heights.__init__" s_Heights___init__ ["self", "web", "order"] a_Heights___init__ f_Heights___init__
  a_Heights_order : Addr
  f_Heights_order : FuncData
  d_Heights_order : MethOk K (cn.ad CHeights) "order" "Heights.order" s_Heights_order ["self"] a_Heights_order f_Heights_order
  a_Heights_above : Addr
  f_Heights_above : FuncData
  d_Heights_above : MethOk K (cn.ad CHeights) "above" "Heights.above" s_Heights_above ["self", "place"] a_Heights_above f_Heights_above
  a_Heights_up : Addr
  f_Heights_up : FuncData
  d_Heights_up : MethOk K (cn.ad CHeights) "up" "Heights.up" s_Heights_up ["self", "place"] a_Heights_up f_Heights_up
  a_Heights_bridges : Addr
  f_Heights_bridges : FuncData
  d_Heights_bridges : MethOk K (cn.ad CHeights) "bridges" "Heights.bridges" s_Heights_bridges ["self"] a_Heights_bridges f_Heights_bridges
  a_is_whole : Addr
  f_is_whole : FuncData
  d_is_whole : DefOk K mg "is_whole" s_is_whole ["thing", "low", "high"] a_is_whole f_is_whole
  a_is_name : Addr
  f_is_name : FuncData
  d_is_name : DefOk K mg "is_name" s_is_name ["thing"] a_is_name f_is_name
  a_spots_of : Addr
  f_spots_of : FuncData
  d_spots_of : DefOk K mg "spots_of" s_spots_of ["places"] a_spots_of f_spots_of
  a_spot_of : Addr
  f_spot_of : FuncData
  d_spot_of : DefOk K mg "spot_of" s_spot_of ["spots", "place"] a_spot_of f_spot_of
  a_pair_of : Addr
  f_pair_of : FuncData
  d_pair_of : DefOk K mg "pair_of" s_pair_of ["here", "there"] a_pair_of f_pair_of
  a_lengths_of : Addr
  f_lengths_of : FuncData
  d_lengths_of : DefOk K mg "lengths_of" s_lengths_of ["spots", "ties"] a_lengths_of f_lengths_of
  a_Web___init__ : Addr
  f_Web___init__ : FuncData
  d_Web___init__ : MethOk K (cn.ad CWeb) "__init__" "Web.__init__" s_Web___init__ ["self", "places", "ties"] a_Web___init__ f_Web___init__
  a_l_cell : Addr
  f_l_cell : FuncData
  d_l_cell : DefOk K mg "_law_cell" s_l_cell ["_law_script", "_law_k"] a_l_cell f_l_cell
  a_l_box : Addr
  f_l_box : FuncData
  d_l_box : DefOk K mg "_law_box" s_l_box ["_law_cell_here"] a_l_box f_l_box
  a_l_take : Addr
  f_l_take : FuncData
  d_l_take : DefOk K mg "_law_take" s_l_take ["_law_box_here", "_law_many"] a_l_take f_l_take
  a_l_names : Addr
  f_l_names : FuncData
  d_l_names : DefOk K mg "_law_names" s_l_names ["_law_box_here", "_law_many"] a_l_names f_l_names
  a_l_is_tied : Addr
  f_l_is_tied : FuncData
  d_l_is_tied : DefOk K mg "_law_is_tied" s_l_is_tied ["_law_box_here", "_law_shape", "_law_k", "_law_j", "_law_near"] a_l_is_tied f_l_is_tied
  a_l_length : Addr
  f_l_length : FuncData
  d_l_length : DefOk K mg "_law_length" s_l_length ["_law_box_here", "_law_style"] a_l_length f_l_length
  a_l_turned : Addr
  f_l_turned : FuncData
  d_l_turned : DefOk K mg "_law_turned" s_l_turned ["_law_box_here", "_law_many"] a_l_turned f_l_turned
  a_l_named : Addr
  f_l_named : FuncData
  d_l_named : DefOk K mg "_law_named" s_l_named ["_law_box_here", "_law_ties", "_law_many"] a_l_named f_l_named
  a_l_drawn : Addr
  f_l_drawn : FuncData
  d_l_drawn : DefOk K mg "_law_drawn" s_l_drawn ["_law_box_here", "_law_most"] a_l_drawn f_l_drawn
  a_l_order : Addr
  f_l_order : FuncData
  d_l_order : DefOk K mg "_law_order" s_l_order ["_law_box_here", "_law_names_here"] a_l_order f_l_order
  a_l_bridges : Addr
  f_l_bridges : FuncData
  d_l_bridges : DefOk K mg "_law_bridges" s_l_bridges ["_law_ties", "_law_order_here"] a_l_bridges f_l_bridges
  a_l_tied : Addr
  f_l_tied : FuncData
  d_l_tied : DefOk K mg "_law_tied" s_l_tied ["_law_ties", "_law_one", "_law_other", "_law_length_here"] a_l_tied f_l_tied
  a_l_up_right : Addr
  f_l_up_right : FuncData
  d_l_up_right : DefOk K mg "_law_up_right" s_l_up_right ["_law_ties", "_law_due", "_law_order_here", "_law_place", "_law_found"] a_l_up_right f_l_up_right
  a_l_right : Addr
  f_l_right : FuncData
  d_l_right : DefOk K mg "_law_right" s_l_right ["_law_heights", "_law_names_here", "_law_ties", "_law_order_here"] a_l_right f_l_right
  a_law : Addr
  f_law : FuncData
  d_law : DefOk K mg "law" s_law ["_law_script"] a_law f_law
  cls_Heights : Cls K (cn.ad CHeights)
  g_Heights : mg "Heights" = some (.ref (cn.ad CHeights))
  mk_Heights : Mk K (cn.ad CHeights) a_Heights___init__
  cls_Web : Cls K (cn.ad CWeb)
  g_Web : mg "Web" = some (.ref (cn.ad CWeb))
  mk_Web : Mk K (cn.ad CWeb) a_Web___init__
  n_all : mg "all" = none
  n_any : mg "any" = none
  n_bool : mg "bool" = none
  n_enumerate : mg "enumerate" = none
  n_int : mg "int" = none
  n_isinstance : mg "isinstance" = none
  n_len : mg "len" = none
  n_list : mg "list" = none
  n_max : mg "max" = none
  n_min : mg "min" = none
  n_range : mg "range" = none
  n_repr : mg "repr" = none
  n_sorted : mg "sorted" = none
  n_str : mg "str" = none
  n_tuple : mg "tuple" = none
  n_zip : mg "zip" = none
  c_LETTERS : ∃ t, mg "LETTERS" = some (.str "abcdefghijklmnopqrstuvwxyz" t)
  c_MOST_LENGTH : ∃ t, mg "MOST_LENGTH" = some (.int 1000000 t)
  c_MOST_PLACES : ∃ t, mg "MOST_PLACES" = some (.int 12 t)
  c_MOST_TIES : ∃ t, mg "MOST_TIES" = some (.int 40 t)
section
variable {P : Program} {w : World} {K : PySem.W.Frag} {mg : Str → Option Value} {base : Heap} {cn : Cn}
theorem ini_NoPlaces (T : Txt K mg cn) : FnOk P w K mg base CX0 1 T.fi_NoPlaces T.fd_NoPlaces ["self", "found"] (spInit K ["found"]) := by
  refine T.x_NoPlaces.fn.ok sc_NoPlaces (fun vs H Q E h => spInit_len (fl := ["found"]) h) (fun cdv A outer s H vs Q E hr h => ⟨_, ?_, init_reads (N := ["self", "found"]) (m := "no places of a web") rfl h⟩)
  exact (pss_cons (ps_expr (pe_meinit (by rfl) T.xb.g T.xb.rd T.xb.vV (pa_cons (pv 0) (pa_cons pe_str pa_nil)))) (pss_one (ps_ost (pv 0) (pv 1))))
theorem ini_NoName (T : Txt K mg cn) : FnOk P w K mg base CX0 1 T.fi_NoName T.fd_NoName ["self", "found"] (spInit K ["found"]) := by
  refine T.x_NoName.fn.ok sc_NoName (fun vs H Q E h => spInit_len (fl := ["found"]) h) (fun cdv A outer s H vs Q E hr h => ⟨_, ?_, init_reads (N := ["self", "found"]) (m := "no name") rfl h⟩)
  exact (pss_cons (ps_expr (pe_meinit (by rfl) T.xb.g T.xb.rd T.xb.vV (pa_cons (pv 0) (pa_cons pe_str pa_nil)))) (pss_one (ps_ost (pv 0) (pv 1))))
theorem ini_Twice (T : Txt K mg cn) : FnOk P w K mg base CX0 1 T.fi_Twice T.fd_Twice ["self", "found"] (spInit K ["found"]) := by
  refine T.x_Twice.fn.ok sc_Twice (fun vs H Q E h => spInit_len (fl := ["found"]) h) (fun cdv A outer s H vs Q E hr h => ⟨_, ?_, init_reads (N := ["self", "found"]) (m := "a name that stands ahead") rfl h⟩)
  exact (pss_cons (ps_expr (pe_meinit (by rfl) T.xb.g T.xb.rd T.xb.vV (pa_cons (pv 0) (pa_cons pe_str pa_nil)))) (pss_one (ps_ost (pv 0) (pv 1))))
theorem ini_NoTies (T : Txt K mg cn) : FnOk P w K mg base CX0 1 T.fi_NoTies T.fd_NoTies ["self", "found"] (spInit K ["found"]) := by
  refine T.x_NoTies.fn.ok sc_NoTies (fun vs H Q E h => spInit_len (fl := ["found"]) h) (fun cdv A outer s H vs Q E hr h => ⟨_, ?_, init_reads (N := ["self", "found"]) (m := "no ties of a web") rfl h⟩)
  exact (pss_cons (ps_expr (pe_meinit (by rfl) T.xb.g T.xb.rd T.xb.vV (pa_cons (pv 0) (pa_cons pe_str pa_nil)))) (pss_one (ps_ost (pv 0) (pv 1))))
theorem ini_NoTie (T : Txt K mg cn) : FnOk P w K mg base CX0 1 T.fi_NoTie T.fd_NoTie ["self", "found"] (spInit K ["found"]) := by
  refine T.x_NoTie.fn.ok sc_NoTie (fun vs H Q E h => spInit_len (fl := ["found"]) h) (fun cdv A outer s H vs Q E hr h => ⟨_, ?_, init_reads (N := ["self", "found"]) (m := "no tie") rfl h⟩)
  exact (pss_cons (ps_expr (pe_meinit (by rfl) T.xb.g T.xb.rd T.xb.vV (pa_cons (pv 0) (pa_cons pe_str pa_nil)))) (pss_one (ps_ost (pv 0) (pv 1))))
theorem ini_NoPlace (T : Txt K mg cn) : FnOk P w K mg base CX0 1 T.fi_NoPlace T.fd_NoPlace ["self", "found"] (spInit K ["found"]) := by
  refine T.x_NoPlace.fn.ok sc_NoPlace (fun vs H Q E h => spInit_len (fl := ["found"]) h) (fun cdv A outer s H vs Q E hr h => ⟨_, ?_, init_reads (N := ["self", "found"]) (m := "no place of the web") rfl h⟩)
  exact (pss_cons (ps_expr (pe_meinit (by rfl) T.xb.g T.xb.rd T.xb.vV (pa_cons (pv 0) (pa_cons pe_str pa_nil)))) (pss_one (ps_ost (pv 0) (pv 1))))
theorem ini_Loop (T : Txt K mg cn) : FnOk P w K mg base CX0 1 T.fi_Loop T.fd_Loop ["self", "found"] (spInit K ["found"]) := by
  refine T.x_Loop.fn.ok sc_Loop (fun vs H Q E h => spInit_len (fl := ["found"]) h) (fun cdv A outer s H vs Q E hr h => ⟨_, ?_, init_reads (N := ["self", "found"]) (m := "a tie from a place to itself") rfl h⟩)
  exact (pss_cons (ps_expr (pe_meinit (by rfl) T.xb.g T.xb.rd T.xb.vV (pa_cons (pv 0) (pa_cons pe_str pa_nil)))) (pss_one (ps_ost (pv 0) (pv 1))))
theorem ini_NoLength (T : Txt K mg cn) : FnOk P w K mg base CX0 1 T.fi_NoLength T.fd_NoLength ["self", "found"] (spInit K ["found"]) := by
  refine T.x_NoLength.fn.ok sc_NoLength (fun vs H Q E h => spInit_len (fl := ["found"]) h) (fun cdv A outer s H vs Q E hr h => ⟨_, ?_, init_reads (N := ["self", "found"]) (m := "no length of a tie") rfl h⟩)
  exact (pss_cons (ps_expr (pe_meinit (by rfl) T.xb.g T.xb.rd T.xb.vV (pa_cons (pv 0) (pa_cons pe_str pa_nil)))) (pss_one (ps_ost (pv 0) (pv 1))))
theorem ini_NoOrder (T : Txt K mg cn) : FnOk P w K mg base CX0 1 T.fi_NoOrder T.fd_NoOrder ["self", "found"] (spInit K ["found"]) := by
  refine T.x_NoOrder.fn.ok sc_NoOrder (fun vs H Q E h => spInit_len (fl := ["found"]) h) (fun cdv A outer s H vs Q E hr h => ⟨_, ?_, init_reads (N := ["self", "found"]) (m := "no order of the places") rfl h⟩)
  exact (pss_cons (ps_expr (pe_meinit (by rfl) T.xb.g T.xb.rd T.xb.vV (pa_cons (pv 0) (pa_cons pe_str pa_nil)))) (pss_one (ps_ost (pv 0) (pv 1))))
theorem ini_Tied (T : Txt K mg cn) : FnOk P w K mg base CX0 1 T.fi_Tied T.fd_Tied ["self", "one", "other"] (spInit K ["other", "one"]) := by
  refine T.x_Tied.fn.ok sc_Tied (fun vs H Q E h => spInit_len (fl := ["other", "one"]) h) (fun cdv A outer s H vs Q E hr h => ⟨_, ?_, init_reads2 (N := ["self", "one", "other"]) (m := "tied already") rfl h⟩)
  exact (pss_cons (ps_expr (pe_meinit (by rfl) T.xb.g T.xb.rd T.xb.vV (pa_cons (pv 0) (pa_cons pe_str pa_nil)))) (pss_cons (ps_ost (pv 0) (pv 1)) (pss_one (ps_ost (pv 0) (pv 2)))))
theorem ok_Web_places (T : Txt K mg cn) : FnG P w K mg base (L2.CX P w) 1 T.a_Web_places T.f_Web_places ["self"] (lift K (S_Web_places cn)) := by
  refine okGX T.d_Web_places.fn sc_Web_places (fun vs H Q E h => lift_len (len_Web_places cn) h) (fun cdv A outer s H vs Q E hg hr h => ⟨t_Web_places K cn, ?_, lift_WsC (n := 1) (m := 0) (Fx := fun K c => XF K c ∧ c = cn) ⟨T.xf, rfl⟩ (len_Web_places cn) rfl (ws_Web_places cn) h⟩)
  exact (pss_one (ps_ret (pe_callTy (call_listB rfl) (by rfl) T.n_list (by decide +kernel) (pa_cons (pe_fld (pv 0) (by rfl)) pa_nil))))
theorem ok_need_place (T : Txt K mg cn) (G_Web_places : FnG P w K mg base (L2.CX P w) 1 T.a_Web_places T.f_Web_places ["self"] (lift K (S_Web_places cn))) : FnG P w K mg base (L2.CX P w) 3 T.a_need_place T.f_need_place ["web", "thing"] (liftX K cn (S_need_place cn)) := by
  refine okGX T.d_need_place.fn sc_need_place (fun vs H Q E h => liftX_len (len_need_place cn) h) (fun cdv A outer s H vs Q E hg hr h => ⟨t_need_place K cn (fun cls d _ H => E cls d H), ?_, liftX_WsC (n := 2) (m := 0) (Fx := fun K c => XF K c ∧ c = cn) ⟨T.xf, rfl⟩ (len_need_place cn) rfl (ws_need_place cn) h⟩)
  exact (pss_one (ps_if (PW.pt (pw_or (pt_not (pt_tru (pe_callB call_isiB (by rfl) T.n_isinstance (by decide +kernel) (pa_cons (pv 1) (pa_cons (pe_bltn (v := .ty "str") (u := .type "str") (by rfl) T.n_str (by decide +kernel) rfl) pa_nil))) (fun _ => rfl))) (pw_or1 (pt_cmpR (op_notInB hr.units) (pv 1) (pe_methSG0 (pv 0) T.cls_Web T.d_Web_places.m G_Web_places hg (hr.mono (by decide)) T.d_Web_places.b (fun σ => passLA σ)) (by rfl))))) (pss_one (ps_raise rfl tkX (pmk_oex T.x_NoPlace.all.oex T.x_NoPlace.iC T.x_NoPlace.tI (ini_NoPlace T) (hr.mono (by decide)) T.x_NoPlace.b .nil pass0 (by rfl) T.x_NoPlace.g (pa_cons (pv 1) pa_nil)))) pss_nil))
theorem ok_Web_many (T : Txt K mg cn) : FnG P w K mg base (L2.CX P w) 1 T.a_Web_many T.f_Web_many ["self"] (lift K (S_Web_many cn)) := by
  refine okGX T.d_Web_many.fn sc_Web_many (fun vs H Q E h => lift_len (len_Web_many cn) h) (fun cdv A outer s H vs Q E hg hr h => ⟨t_Web_many K cn, ?_, lift_WsC (n := 1) (m := 0) (Fx := fun K c => XF K c ∧ c = cn) ⟨T.xf, rfl⟩ (len_Web_many cn) rfl (ws_Web_many cn) h⟩)
  exact (pss_one (ps_ret (pe_callB call_lenB (by rfl) T.n_len (by decide +kernel) (pa_cons (pe_fld (pv 0) (by rfl)) pa_nil))))
theorem ok_need_order (T : Txt K mg cn) (G_Web_many : FnG P w K mg base (L2.CX P w) 1 T.a_Web_many T.f_Web_many ["self"] (lift K (S_Web_many cn))) (G_Web_places : FnG P w K mg base (L2.CX P w) 1 T.a_Web_places T.f_Web_places ["self"] (lift K (S_Web_places cn))) : FnG P w K mg base (L2.CX P w) 3 T.a_need_order T.f_need_order ["web", "thing"] (liftX K cn (S_need_order cn)) := by
  refine okGX T.d_need_order.fn sc_need_order (fun vs H Q E h => liftX_len (len_need_order cn) h) (fun cdv A outer s H vs Q E hg hr h => ⟨t_need_order K cn (fun cls d _ H => E cls d H), ?_, liftX_WsC (n := 2) (m := 1) (Fx := fun K c => XF K c ∧ c = cn) ⟨T.xf, rfl⟩ (len_need_order cn) rfl (ws_need_order cn) h⟩)
  exact (pss_cons (ps_if (PW.pt (pw_or (pt_not (pt_tru (pe_callB call_isiB (by rfl) T.n_isinstance (by decide +kernel) (pa_cons (pv 1) (pa_cons (pe_tup (pa_cons (pe_bltn (v := .ty "list") (u := .type "list") (by rfl) T.n_list (by decide +kernel) rfl) (pa_cons (pe_bltn (v := .ty "tuple") (u := .type "tuple") (by rfl) T.n_tuple (by decide +kernel) rfl) pa_nil))) pa_nil))) (fun _ => rfl))) (pw_or1 (pt_cmpR (op_neA hr.units) (pe_callB call_lenB (by rfl) T.n_len (by decide +kernel) (pa_cons (pv 1) pa_nil)) (pe_methSG0 (pv 0) T.cls_Web T.d_Web_many.m G_Web_many hg (hr.mono (by decide)) T.d_Web_many.b (fun σ => passLA σ)) (nomark _))))) (pss_one (ps_raise rfl tkX (pmk_oex T.x_NoOrder.all.oex T.x_NoOrder.iC T.x_NoOrder.tI (ini_NoOrder T) (hr.mono (by decide)) T.x_NoOrder.b .nil pass0 (by rfl) T.x_NoOrder.g (pa_cons (pv 1) pa_nil)))) pss_nil)
      (pss_one (ps_for psX rfl (pi_any (pe_methSG0 (pv 0) T.cls_Web T.d_Web_places.m G_Web_places hg (hr.mono (by decide)) T.d_Web_places.b (fun σ => passLA σ))) (pg_name (i := 2) sc_need_order.nd rfl (.inl rfl)) (pss_one (ps_if (pt_cmpR (op_notInB hr.units) (pv 2) (pv 1) (by rfl)) (pss_one (ps_raise rfl tkX (pmk_oex T.x_NoOrder.all.oex T.x_NoOrder.iC T.x_NoOrder.tI (ini_NoOrder T) (hr.mono (by decide)) T.x_NoOrder.b .nil pass0 (by rfl) T.x_NoOrder.g (pa_cons (pv 1) pa_nil)))) pss_nil)))))
theorem ok_Web_ties (T : Txt K mg cn) : FnG P w K mg base (L2.CX P w) 1 T.a_Web_ties T.f_Web_ties ["self"] (lift K (S_Web_ties cn)) := by
  refine okGX T.d_Web_ties.fn sc_Web_ties (fun vs H Q E h => lift_len (len_Web_ties cn) h) (fun cdv A outer s H vs Q E hg hr h => ⟨t_Web_ties K cn, ?_, lift_WsC (n := 1) (m := 2) (Fx := fun K c => XF K c ∧ c = cn) ⟨T.xf, rfl⟩ (len_Web_ties cn) rfl (ws_Web_ties cn) h⟩)
  exact (pss_one (ps_ret (pe_lc (own := [("one", 1), ("other", 2)]) (g := (gSeq K 2 (gCons (gName 1) (gCons (gName 2) gNil)))) (tt := tYes) rfl sc_Web_ties.nd (pi_any (pe_callB (call_sortB rfl) (by rfl) T.n_sorted (by decide +kernel) (pa_cons (pe_fld (pv 0) (by rfl)) pa_nil))) (blkOk_by (own := [("one", 1), ("other", 2)]) (N := N_Web_ties) (sc := defScope s_Web_ties) (by decide +kernel)) (fun _ _ _ _ _ => (pg_seq rfl (pgs_cons (pg_name (i := 1) sc_Web_ties.nd rfl (.inl rfl)) (pgs_cons (pg_name (i := 2) sc_Web_ties.nd rfl (.inl rfl)) pgs_nil)))) (fun _ _ _ _ _ => pts_nil) (fun _ _ _ _ _ => (pe_tup (pa_cons (pe_ix (ix_any hr.units) (pe_fld (pv 0) (by rfl)) (pv 1) (fun _ _ => rfl)) (pa_cons (pe_ix (ix_any hr.units) (pe_fld (pv 0) (by rfl)) (pv 2) (fun _ _ => rfl)) (pa_cons (pe_ix (ix_any hr.units) (pe_fld (pv 0) (by rfl)) (pe_tup (pa_cons (pv 1) (pa_cons (pv 2) pa_nil))) (fun _ _ => rfl)) pa_nil))))))))
theorem ok_linked (T : Txt K mg cn) (G_Web_ties : FnG P w K mg base (L2.CX P w) 1 T.a_Web_ties T.f_Web_ties ["self"] (lift K (S_Web_ties cn))) : FnG P w K mg base (L2.CX P w) 2 T.a_linked T.f_linked ["web"] (lift K (S_linked cn)) := by
  refine okGX T.d_linked.fn sc_linked (fun vs H Q E h => lift_len (len_linked cn) h) (fun cdv A outer s H vs Q E hg hr h => ⟨t_linked K cn, ?_, lift_WsC (n := 1) (m := 4) (Fx := fun K c => XF K c ∧ c = cn) ⟨T.xf, rfl⟩ (len_linked cn) rfl (ws_linked cn) h⟩)
  exact (pss_cons (ps_set (i := 1) sc_linked.nd rfl (.inl rfl) pe_dnewT)
      (pss_cons (ps_for psX rfl (pi_any (pe_methSG0 (pv 0) T.cls_Web T.d_Web_ties.m G_Web_ties hg (hr.mono (by decide)) T.d_Web_ties.b (fun σ => passLA σ))) (pg_seq rfl (pgs_cons (pg_name (i := 2) sc_linked.nd rfl (.inl rfl)) (pgs_cons (pg_name (i := 3) sc_linked.nd rfl (.inl rfl)) (pgs_cons (pg_name (i := 4) sc_linked.nd rfl (.inl rfl)) pgs_nil)))) (pss_cons (ps_asg (pe_tup (pa_cons (pv 4) (pa_cons pe_non pa_nil))) (pg_sub (pv 1) (pe_tup (pa_cons (pv 2) (pa_cons (pv 3) pa_nil))) (set_any hr.units)))
      (pss_one (ps_asg (pe_tup (pa_cons (pv 4) (pa_cons pe_non pa_nil))) (pg_sub (pv 1) (pe_tup (pa_cons (pv 3) (pa_cons (pv 2) pa_nil))) (set_any hr.units))))))
      (pss_one (ps_ret (pv 1)))))
theorem ok_bridged (T : Txt K mg cn) (G_linked : FnG P w K mg base (L2.CX P w) 2 T.a_linked T.f_linked ["web"] (lift K (S_linked cn))) : FnG P w K mg base (L2.CX P w) 3 T.a_bridged T.f_bridged ["web", "order"] (lift K (S_bridged cn)) := by
  refine okGX T.d_bridged.fn sc_bridged (fun vs H Q E h => lift_len (len_bridged cn) h) (fun cdv A outer s H vs Q E hg hr h => ⟨t_bridged K cn, ?_, lift_WsC (n := 2) (m := 8) (Fx := fun K c => XF K c ∧ c = cn) ⟨T.xf, rfl⟩ (len_bridged cn) rfl (ws_bridged cn) h⟩)
  exact (pss_cons (ps_set (i := 2) sc_bridged.nd rfl (.inr rfl) (pe_callG G_linked hg (hr.mono (by decide)) (by rfl) T.d_linked.g T.d_linked.fn.kp T.d_linked.b .nil passL (pa_cons (pv 0) pa_nil)))
      (pss_cons (ps_for psX rfl (pi_eit (pi_enum (by rfl) T.n_enumerate (pa_cons (pv 1) pa_nil)) (pi_enumT (by rfl) T.n_enumerate (pa_cons (pv 1) pa_nil))) (pg_seq rfl (pgs_cons (pg_name (i := 3) sc_bridged.nd rfl (.inl rfl)) (pgs_cons (pg_name (i := 4) sc_bridged.nd rfl (.inr rfl)) pgs_nil))) (pss_cons (ps_setLc (i := 5) (own := [("place", 6)]) (g := (gName 6)) (tt := (tTest (tOp (rInB K) (tTup (tCons (tVar 4) (tCons (tVar 6) tNil))) (tVar 2)))) rfl sc_bridged.nd rfl rfl (sw_true rfl rfl rfl (by decide +kernel)) (pi_any (pe_eit (pe_slice sl_A (pv 1) (po_some (pe_op op_addA (pv 3) pe_int)) po_none) (pe_slice sl_tup (pv 1) (po_some (pe_op op_addA (pv 3) pe_int)) po_none))) (blkOk_by (own := [("place", 6)]) (N := N_bridged) (sc := defScope s_bridged) (by decide +kernel)) (fun _ _ _ _ _ => (pg_name (i := 6) sc_bridged.nd rfl (.inl rfl))) (fun _ _ _ _ _ => (pts_one (pt_cmpR (op_inB hr.units) (pe_tup (pa_cons (pv 4) (pa_cons (pv 6) pa_nil))) (pv 2) (by rfl)))) (fun _ _ _ _ _ => (pv 6)))
      (pss_one (ps_for psX rfl (pi_any (pv 5)) (pg_name (i := 7) sc_bridged.nd rfl (.inl rfl)) (pss_one (ps_for psX rfl (pi_any (pv 5)) (pg_name (i := 8) sc_bridged.nd rfl (.inl rfl)) (pss_cons (ps_set (i := 9) sc_bridged.nd rfl (.inl rfl) (pe_op op_addA (pe_ix (ix_any hr.units) (pe_ix (ix_any hr.units) (pv 2) (pe_tup (pa_cons (pv 4) (pa_cons (pv 7) pa_nil))) (fun _ _ => rfl)) pe_int (fun _ _ => rfl)) (pe_ix (ix_any hr.units) (pe_ix (ix_any hr.units) (pv 2) (pe_tup (pa_cons (pv 4) (pa_cons (pv 8) pa_nil))) (fun _ _ => rfl)) pe_int (fun _ _ => rfl))))
      (pss_one (ps_if (PW.pt (pw_and (pt_cmpR (op_neA hr.units) (pv 7) (pv 8) (nomark _)) (pw_and1 (PW.pt (pw_or (pt_cmpR (op_notInB hr.units) (pe_tup (pa_cons (pv 7) (pa_cons (pv 8) pa_nil))) (pv 2) (by rfl)) (pw_or1 (pt_cmpR op_ltA (pv 9) (pe_ix (ix_any hr.units) (pe_ix (ix_any hr.units) (pv 2) (pe_tup (pa_cons (pv 7) (pa_cons (pv 8) pa_nil))) (fun _ _ => rfl)) pe_int (fun _ _ => rfl)) (nomark _)))))))) (pss_one (ps_asg (pe_tup (pa_cons (pv 9) (pa_cons (pv 4) pa_nil))) (pg_sub (pv 2) (pe_tup (pa_cons (pv 7) (pa_cons (pv 8) pa_nil))) (set_any hr.units)))) pss_nil)))))))))
      (pss_one (ps_ret (pv 2)))))
theorem ok_Heights___init__ (T : Txt K mg cn) (G_bridged : FnG P w K mg base (L2.CX P w) 3 T.a_bridged T.f_bridged ["web", "order"] (lift K (S_bridged cn))) (G_need_order : FnG P w K mg base (L2.CX P w) 3 T.a_need_order T.f_need_order ["web", "thing"] (liftX K cn (S_need_order cn))) : FnG P w K mg base (L2.CX P w) 4 T.a_Heights___init__ T.f_Heights___init__ ["self", "web", "order"] (liftX K cn (S_Heights___init__ cn)) := by
  refine okGX T.d_Heights___init__.fn sc_Heights___init__ (fun vs H Q E h => liftX_len (len_Heights___init__ cn) h) (fun cdv A outer s H vs Q E hg hr h => ⟨t_Heights___init__ K cn (fun cls d _ H => E cls d H), ?_, liftX_WsC (n := 3) (m := 0) (Fx := fun K c => XF K c ∧ c = cn) ⟨T.xf, rfl⟩ (len_Heights___init__ cn) rfl (ws_Heights___init__ cn) h⟩)
  exact (pss_cons (ps_expr (pe_callSG G_need_order hg (hr.mono (by decide)) (by rfl) T.d_need_order.g T.d_need_order.fn.kp T.d_need_order.b (fun σ => passAt tkX σ) (pa_cons (pv 1) (pa_cons (pv 2) pa_nil))))
      (pss_cons (ps_fld (pv 0) (pv 1) (by rfl))
      (pss_cons (ps_fld (pv 0) (pe_callTy (call_listB rfl) (by rfl) T.n_list (by decide +kernel) (pa_cons (pv 2) pa_nil)) (by rfl))
      (pss_one (ps_fld (pv 0) (pe_callG G_bridged hg (hr.mono (by decide)) (by rfl) T.d_bridged.g T.d_bridged.fn.kp T.d_bridged.b .nil passL (pa_cons (pv 1) (pa_cons (pv 2) pa_nil))) (by rfl))))))
theorem ok_Heights_order (T : Txt K mg cn) : FnG P w K mg base (L2.CX P w) 1 T.a_Heights_order T.f_Heights_order ["self"] (lift K (S_Heights_order cn)) := by
  refine okGX T.d_Heights_order.fn sc_Heights_order (fun vs H Q E h => lift_len (len_Heights_order cn) h) (fun cdv A outer s H vs Q E hg hr h => ⟨t_Heights_order K cn, ?_, lift_WsC (n := 1) (m := 0) (Fx := fun K c => XF K c ∧ c = cn) ⟨T.xf, rfl⟩ (len_Heights_order cn) rfl (ws_Heights_order cn) h⟩)
  exact (pss_one (ps_ret (pe_callTy (call_listB rfl) (by rfl) T.n_list (by decide +kernel) (pa_cons (pe_fld (pv 0) (by rfl)) pa_nil))))
theorem ok_Heights_above (T : Txt K mg cn) : FnG P w K mg base (L2.CX P w) 1 T.a_Heights_above T.f_Heights_above ["self", "place"] (lift K (S_Heights_above cn)) := by
  refine okGX T.d_Heights_above.fn sc_Heights_above (fun vs H Q E h => lift_len (len_Heights_above cn) h) (fun cdv A outer s H vs Q E hg hr h => ⟨t_Heights_above K cn, ?_, lift_WsC (n := 2) (m := 2) (Fx := fun K c => XF K c ∧ c = cn) ⟨T.xf, rfl⟩ (len_Heights_above cn) rfl (ws_Heights_above cn) h⟩)
  exact (pss_cons (ps_set (i := 2) sc_Heights_above.nd rfl (.inl rfl) (pe_bm PySem.F.plainAttrs_list PySem.F.slot_list_index PySem.F.type_list_index mt_indexA (pe_fld (pv 0) (by rfl)) (pa_cons (pv 1) pa_nil)))
      (pss_one (ps_ret (pe_lc (own := [("other", 3)]) (g := (gName 3)) (tt := (tTest (tOp (rInB K) (tTup (tCons (tVar 1) (tCons (tVar 3) tNil))) (tFld K (tVar 0) "links")))) rfl sc_Heights_above.nd (pi_any (pe_slice sl_A (pe_fld (pv 0) (by rfl)) (po_some (pe_op op_addA (pv 2) pe_int)) po_none)) (blkOk_by (own := [("other", 3)]) (N := N_Heights_above) (sc := defScope s_Heights_above) (by decide +kernel)) (fun _ _ _ _ _ => (pg_name (i := 3) sc_Heights_above.nd rfl (.inl rfl))) (fun _ _ _ _ _ => (pts_one (pt_cmpR (op_inB hr.units) (pe_tup (pa_cons (pv 1) (pa_cons (pv 3) pa_nil))) (pe_fld (pv 0) (by rfl)) (by rfl)))) (fun _ _ _ _ _ => (pv 3))))))
theorem ok_Heights_up (T : Txt K mg cn) (G_Heights_above : FnG P w K mg base (L2.CX P w) 1 T.a_Heights_above T.f_Heights_above ["self", "place"] (lift K (S_Heights_above cn))) (G_need_place : FnG P w K mg base (L2.CX P w) 3 T.a_need_place T.f_need_place ["web", "thing"] (liftX K cn (S_need_place cn))) : FnG P w K mg base (L2.CX P w) 4 T.a_Heights_up T.f_Heights_up ["self", "place"] (liftX K cn (S_Heights_up cn)) := by
  refine okGX T.d_Heights_up.fn sc_Heights_up (fun vs H Q E h => liftX_len (len_Heights_up cn) h) (fun cdv A outer s H vs Q E hg hr h => ⟨t_Heights_up K cn (fun cls d _ H => E cls d H), ?_, liftX_WsC (n := 2) (m := 1) (Fx := fun K c => XF K c ∧ c = cn) ⟨T.xf, rfl⟩ (len_Heights_up cn) rfl (ws_Heights_up cn) h⟩)
  exact (pss_cons (ps_expr (pe_callSG G_need_place hg (hr.mono (by decide)) (by rfl) T.d_need_place.g T.d_need_place.fn.kp T.d_need_place.b (fun σ => passAt tkX σ) (pa_cons (pe_fld (pv 0) (by rfl)) (pa_cons (pv 1) pa_nil))))
      (pss_one (ps_ret (pe_lc (own := [("other", 2)]) (g := (gName 2)) (tt := tYes) rfl sc_Heights_up.nd (pi_any (pe_methSG (pv 0) T.cls_Heights T.d_Heights_above.m G_Heights_above hg (hr.mono (by decide)) T.d_Heights_above.b (fun σ => passLA σ) (pa_cons (pv 1) pa_nil))) (blkOk_by (own := [("other", 2)]) (N := N_Heights_up) (sc := defScope s_Heights_up) (by decide +kernel)) (fun _ _ _ _ _ => (pg_name (i := 2) sc_Heights_up.nd rfl (.inl rfl))) (fun _ _ _ _ _ => pts_nil) (fun _ _ _ _ _ => (pe_op op_catA (pe_tup (pa_cons (pv 2) pa_nil)) (pe_ix (ix_any hr.units) (pe_fld (pv 0) (by rfl)) (pe_tup (pa_cons (pv 1) (pa_cons (pv 2) pa_nil))) (fun _ _ => rfl))))))))
theorem ok_Heights_bridges (T : Txt K mg cn) (G_Heights_above : FnG P w K mg base (L2.CX P w) 1 T.a_Heights_above T.f_Heights_above ["self", "place"] (lift K (S_Heights_above cn))) : FnG P w K mg base (L2.CX P w) 2 T.a_Heights_bridges T.f_Heights_bridges ["self"] (lift K (S_Heights_bridges cn)) := by
  refine okGX T.d_Heights_bridges.fn sc_Heights_bridges (fun vs H Q E h => lift_len (len_Heights_bridges cn) h) (fun cdv A outer s H vs Q E hg hr h => ⟨t_Heights_bridges K cn, ?_, lift_WsC (n := 1) (m := 3) (Fx := fun K c => XF K c ∧ c = cn) ⟨T.xf, rfl⟩ (len_Heights_bridges cn) rfl (ws_Heights_bridges cn) h⟩)
  exact (pss_cons (ps_set (i := 1) sc_Heights_bridges.nd rfl (.inl rfl) (pe_lst pa_nil))
      (pss_cons (ps_for psX rfl (pi_any (pe_fld (pv 0) (by rfl))) (pg_name (i := 2) sc_Heights_bridges.nd rfl (.inr rfl)) (pss_one (ps_expr (pe_bm PySem.F.plainAttrs_list PySem.F.slot_list_extend PySem.F.type_list_extend mt_extendA (pv 1) (pa_cons (pe_lc (own := [("high", 3)]) (g := (gName 3)) (tt := tYes) rfl sc_Heights_bridges.nd (pi_any (pe_methSG (pv 0) T.cls_Heights T.d_Heights_above.m G_Heights_above hg (hr.mono (by decide)) T.d_Heights_above.b (fun σ => passLA σ) (pa_cons (pv 2) pa_nil))) (blkOk_by (own := [("high", 3)]) (N := N_Heights_bridges) (sc := defScope s_Heights_bridges) (by decide +kernel)) (fun _ _ _ _ _ => (pg_name (i := 3) sc_Heights_bridges.nd rfl (.inl rfl))) (fun _ _ _ _ _ => pts_nil) (fun _ _ _ _ _ => (pe_tup (pa_cons (pv 2) (pa_cons (pv 3) (pa_cons (pe_ix (ix_any hr.units) (pe_ix (ix_any hr.units) (pe_fld (pv 0) (by rfl)) (pe_tup (pa_cons (pv 2) (pa_cons (pv 3) pa_nil))) (fun _ _ => rfl)) pe_int (fun _ _ => rfl)) pa_nil)))))) pa_nil)))))
      (pss_one (ps_ret (pv 1)))))
theorem ok_is_whole (T : Txt K mg cn) : FnG P w K mg base (L2.CX P w) 1 T.a_is_whole T.f_is_whole ["thing", "low", "high"] (lift K S_is_whole) := by
  refine okGX T.d_is_whole.fn sc_is_whole (fun vs H Q E h => lift_len len_is_whole h) (fun cdv A outer s H vs Q E hg hr h => ⟨t_is_whole K cn, ?_, lift_WsC (n := 3) (m := 0) T.xf len_is_whole rfl ws_is_whole h⟩)
  exact (pss_cons (ps_if (PW.pt (pw_or (pt_not (pt_tru (pe_callB call_isiB (by rfl) T.n_isinstance (by decide +kernel) (pa_cons (pv 0) (pa_cons (pe_bltn (v := .ty "int") (u := .type "int") (by rfl) T.n_int (by decide +kernel) rfl) pa_nil))) (fun _ => rfl))) (pw_or1 (pt_tru (pe_callB call_isiB (by rfl) T.n_isinstance (by decide +kernel) (pa_cons (pv 0) (pa_cons (pe_bltn (v := .ty "bool") (u := .type "bool") (by rfl) T.n_bool (by decide +kernel) rfl) pa_nil))) (fun _ => rfl))))) (pss_one (ps_ret pe_bl)) pss_nil)
      (pss_one (ps_ret (pe_chain op_leA op_leA (pv 1) (pv 0) (pv 2)))))
theorem ok_is_name (T : Txt K mg cn) : FnG P w K mg base (L2.CX P w) 1 T.a_is_name T.f_is_name ["thing"] (lift K S_is_name) := by
  refine okGX T.d_is_name.fn sc_is_name (fun vs H Q E h => lift_len len_is_name h) (fun cdv A outer s H vs Q E hg hr h => ⟨t_is_name K cn, ?_, lift_WsC (n := 1) (m := 1) T.xf len_is_name rfl ws_is_name h⟩)
  exact (pss_cons (ps_if (PW.pt (pw_or (pt_not (pt_tru (pe_callB call_isiB (by rfl) T.n_isinstance (by decide +kernel) (pa_cons (pv 0) (pa_cons (pe_bltn (v := .ty "str") (u := .type "str") (by rfl) T.n_str (by decide +kernel) rfl) pa_nil))) (fun _ => rfl))) (pw_or1 (pt_not (pt_chain op_leA op_leA pe_int (pe_callB call_lenB (by rfl) T.n_len (by decide +kernel) (pa_cons (pv 0) pa_nil)) pe_int))))) (pss_one (ps_ret pe_bl)) pss_nil)
      (pss_one (ps_ret (pe_callB (cr_all rfl) (by rfl) T.n_all (by decide +kernel) (pa_cons (pe_lc (own := [("sign", 1)]) (g := (gName 1)) (tt := tYes) rfl sc_is_name.nd (pi_any (pv 0)) (blkOk_by (own := [("sign", 1)]) (N := N_is_name) (sc := defScope s_is_name) (by decide +kernel)) (fun _ _ _ _ _ => (pg_name (i := 1) sc_is_name.nd rfl (.inl rfl))) (fun _ _ _ _ _ => pts_nil) (fun _ _ _ _ _ => (pe_cmpR (op_inB hr.units) (pv 1) (pe_glob rfl T.c_LETTERS.choose_spec ⟨_, rfl⟩) (by rfl)))) pa_nil)))))
theorem ok_spots_of (T : Txt K mg cn) (G_is_name : FnG P w K mg base (L2.CX P w) 1 T.a_is_name T.f_is_name ["thing"] (lift K S_is_name)) : FnG P w K mg base (L2.CX P w) 3 T.a_spots_of T.f_spots_of ["places"] (liftX K cn S_spots_of) := by
  refine okGX T.d_spots_of.fn sc_spots_of (fun vs H Q E h => liftX_len len_spots_of h) (fun cdv A outer s H vs Q E hg hr h => ⟨t_spots_of K cn (fun cls d _ H => E cls d H), ?_, liftX_WsC (n := 1) (m := 2) T.xf len_spots_of rfl ws_spots_of h⟩)
  exact (pss_cons (ps_if (PW.pt (pw_or (pt_not (pt_tru (pe_callB call_isiB (by rfl) T.n_isinstance (by decide +kernel) (pa_cons (pv 0) (pa_cons (pe_tup (pa_cons (pe_bltn (v := .ty "list") (u := .type "list") (by rfl) T.n_list (by decide +kernel) rfl) (pa_cons (pe_bltn (v := .ty "tuple") (u := .type "tuple") (by rfl) T.n_tuple (by decide +kernel) rfl) pa_nil))) pa_nil))) (fun _ => rfl))) (pw_or1 (pt_not (pt_chain op_leA op_leA pe_int (pe_callB call_lenB (by rfl) T.n_len (by decide +kernel) (pa_cons (pv 0) pa_nil)) (pe_glob rfl T.c_MOST_PLACES.choose_spec ⟨_, rfl⟩)))))) (pss_one (ps_raise rfl tkX (pmk_oex T.x_NoPlaces.all.oex T.x_NoPlaces.iC T.x_NoPlaces.tI (ini_NoPlaces T) (hr.mono (by decide)) T.x_NoPlaces.b .nil pass0 (by rfl) T.x_NoPlaces.g (pa_cons (pv 0) pa_nil)))) pss_nil)
      (pss_cons (ps_set (i := 1) sc_spots_of.nd rfl (.inl rfl) pe_dnewK)
      (pss_cons (ps_for psX rfl (pi_any (pv 0)) (pg_name (i := 2) sc_spots_of.nd rfl (.inl rfl)) (pss_cons (ps_if (pt_not (pt_tru (pe_callG G_is_name hg (hr.mono (by decide)) (by rfl) T.d_is_name.g T.d_is_name.fn.kp T.d_is_name.b .nil passL (pa_cons (pv 2) pa_nil)) (fun _ => rfl))) (pss_one (ps_raise rfl tkX (pmk_oex T.x_NoName.all.oex T.x_NoName.iC T.x_NoName.tI (ini_NoName T) (hr.mono (by decide)) T.x_NoName.b .nil pass0 (by rfl) T.x_NoName.g (pa_cons (pv 2) pa_nil)))) pss_nil)
      (pss_cons (ps_if (pt_cmpR (op_inB hr.units) (pv 2) (pv 1) (by rfl)) (pss_one (ps_raise rfl tkX (pmk_oex T.x_Twice.all.oex T.x_Twice.iC T.x_Twice.tI (ini_Twice T) (hr.mono (by decide)) T.x_Twice.b .nil pass0 (by rfl) T.x_Twice.g (pa_cons (pv 2) pa_nil)))) pss_nil)
      (pss_one (ps_asg (pe_callB call_lenB (by rfl) T.n_len (by decide +kernel) (pa_cons (pv 1) pa_nil)) (pg_sub (pv 1) (pv 2) (set_any hr.units)))))))
      (pss_one (ps_ret (pv 1))))))
theorem ok_spot_of (T : Txt K mg cn) (G_is_name : FnG P w K mg base (L2.CX P w) 1 T.a_is_name T.f_is_name ["thing"] (lift K S_is_name)) : FnG P w K mg base (L2.CX P w) 3 T.a_spot_of T.f_spot_of ["spots", "place"] (liftX K cn S_spot_of) := by
  refine okGX T.d_spot_of.fn sc_spot_of (fun vs H Q E h => liftX_len len_spot_of h) (fun cdv A outer s H vs Q E hg hr h => ⟨t_spot_of K cn (fun cls d _ H => E cls d H), ?_, liftX_WsC (n := 2) (m := 0) T.xf len_spot_of rfl ws_spot_of h⟩)
  exact (pss_cons (ps_if (PW.pt (pw_or (pt_not (pt_tru (pe_callG G_is_name hg (hr.mono (by decide)) (by rfl) T.d_is_name.g T.d_is_name.fn.kp T.d_is_name.b .nil passL (pa_cons (pv 1) pa_nil)) (fun _ => rfl))) (pw_or1 (pt_cmpR (op_notInB hr.units) (pv 1) (pv 0) (by rfl))))) (pss_one (ps_raise rfl tkX (pmk_oex T.x_NoPlace.all.oex T.x_NoPlace.iC T.x_NoPlace.tI (ini_NoPlace T) (hr.mono (by decide)) T.x_NoPlace.b .nil pass0 (by rfl) T.x_NoPlace.g (pa_cons (pv 1) pa_nil)))) pss_nil)
      (pss_one (ps_ret (pe_ix (ix_any hr.units) (pv 0) (pv 1) (fun _ _ => rfl)))))
theorem ok_pair_of (T : Txt K mg cn) : FnG P w K mg base (L2.CX P w) 1 T.a_pair_of T.f_pair_of ["here", "there"] (lift K S_pair_of) := by
  refine okGX T.d_pair_of.fn sc_pair_of (fun vs H Q E h => lift_len len_pair_of h) (fun cdv A outer s H vs Q E hg hr h => ⟨t_pair_of K cn, ?_, lift_WsC (n := 2) (m := 0) T.xf len_pair_of rfl ws_pair_of h⟩)
  exact (pss_one (ps_ret (pe_tup (pa_cons (pe_callB (call_minA rfl) (by rfl) T.n_min (by decide +kernel) (pa_cons (pv 0) (pa_cons (pv 1) pa_nil))) (pa_cons (pe_callB (call_maxA rfl) (by rfl) T.n_max (by decide +kernel) (pa_cons (pv 0) (pa_cons (pv 1) pa_nil))) pa_nil)))))
theorem ok_lengths_of (T : Txt K mg cn) (G_is_whole : FnG P w K mg base (L2.CX P w) 1 T.a_is_whole T.f_is_whole ["thing", "low", "high"] (lift K S_is_whole)) (G_pair_of : FnG P w K mg base (L2.CX P w) 1 T.a_pair_of T.f_pair_of ["here", "there"] (lift K S_pair_of)) (G_spot_of : FnG P w K mg base (L2.CX P w) 3 T.a_spot_of T.f_spot_of ["spots", "place"] (liftX K cn S_spot_of)) : FnG P w K mg base (L2.CX P w) 4 T.a_lengths_of T.f_lengths_of ["spots", "ties"] (liftX K cn S_lengths_of) := by
  refine okGX T.d_lengths_of.fn sc_lengths_of (fun vs H Q E h => liftX_len len_lengths_of h) (fun cdv A outer s H vs Q E hg hr h => ⟨t_lengths_of K cn (fun cls d _ H => E cls d H), ?_, liftX_WsC (n := 2) (m := 3) T.xf len_lengths_of rfl ws_lengths_of h⟩)
  exact (pss_cons (ps_if (PW.pt (pw_or (pt_not (pt_tru (pe_callB call_isiB (by rfl) T.n_isinstance (by decide +kernel) (pa_cons (pv 1) (pa_cons (pe_tup (pa_cons (pe_bltn (v := .ty "list") (u := .type "list") (by rfl) T.n_list (by decide +kernel) rfl) (pa_cons (pe_bltn (v := .ty "tuple") (u := .type "tuple") (by rfl) T.n_tuple (by decide +kernel) rfl) pa_nil))) pa_nil))) (fun _ => rfl))) (pw_or1 (pt_cmpR op_gtA (pe_callB call_lenB (by rfl) T.n_len (by decide +kernel) (pa_cons (pv 1) pa_nil)) (pe_glob rfl T.c_MOST_TIES.choose_spec ⟨_, rfl⟩) (nomark _))))) (pss_one (ps_raise rfl tkX (pmk_oex T.x_NoTies.all.oex T.x_NoTies.iC T.x_NoTies.tI (ini_NoTies T) (hr.mono (by decide)) T.x_NoTies.b .nil pass0 (by rfl) T.x_NoTies.g (pa_cons (pv 1) pa_nil)))) pss_nil)
      (pss_cons (ps_set (i := 2) sc_lengths_of.nd rfl (.inl rfl) pe_dnewT)
      (pss_cons (ps_for psX rfl (pi_any (pv 1)) (pg_name (i := 3) sc_lengths_of.nd rfl (.inl rfl)) (pss_cons (ps_if (PW.pt (pw_or (pt_not (pt_tru (pe_callB call_isiB (by rfl) T.n_isinstance (by decide +kernel) (pa_cons (pv 3) (pa_cons (pe_bltn (v := .ty "tuple") (u := .type "tuple") (by rfl) T.n_tuple (by decide +kernel) rfl) pa_nil))) (fun _ => rfl))) (pw_or1 (pt_cmpR (op_neA hr.units) (pe_callB call_lenB (by rfl) T.n_len (by decide +kernel) (pa_cons (pv 3) pa_nil)) pe_int (nomark _))))) (pss_one (ps_raise rfl tkX (pmk_oex T.x_NoTie.all.oex T.x_NoTie.iC T.x_NoTie.tI (ini_NoTie T) (hr.mono (by decide)) T.x_NoTie.b .nil pass0 (by rfl) T.x_NoTie.g (pa_cons (pv 3) pa_nil)))) pss_nil)
      (pss_cons (ps_set (i := 4) sc_lengths_of.nd rfl (.inl rfl) (pe_callG G_pair_of hg (hr.mono (by decide)) (by rfl) T.d_pair_of.g T.d_pair_of.fn.kp T.d_pair_of.b .nil passL (pa_cons (pe_callSG G_spot_of hg (hr.mono (by decide)) (by rfl) T.d_spot_of.g T.d_spot_of.fn.kp T.d_spot_of.b (fun σ => passAt tkX σ) (pa_cons (pv 0) (pa_cons (pe_ix (ix_any hr.units) (pv 3) pe_int (fun _ _ => rfl)) pa_nil))) (pa_cons (pe_callSG G_spot_of hg (hr.mono (by decide)) (by rfl) T.d_spot_of.g T.d_spot_of.fn.kp T.d_spot_of.b (fun σ => passAt tkX σ) (pa_cons (pv 0) (pa_cons (pe_ix (ix_any hr.units) (pv 3) pe_int (fun _ _ => rfl)) pa_nil))) pa_nil))))
      (pss_cons (ps_if (pt_cmpR (op_eqA hr.units) (pe_ix (ix_any hr.units) (pv 4) pe_int (fun _ _ => rfl)) (pe_ix (ix_any hr.units) (pv 4) pe_int (fun _ _ => rfl)) (nomark _)) (pss_one (ps_raise rfl tkX (pmk_oex T.x_Loop.all.oex T.x_Loop.iC T.x_Loop.tI (ini_Loop T) (hr.mono (by decide)) T.x_Loop.b .nil pass0 (by rfl) T.x_Loop.g (pa_cons (pv 3) pa_nil)))) pss_nil)
      (pss_cons (ps_if (pt_not (pt_tru (pe_callG G_is_whole hg (hr.mono (by decide)) (by rfl) T.d_is_whole.g T.d_is_whole.fn.kp T.d_is_whole.b .nil passL (pa_cons (pe_ix (ix_any hr.units) (pv 3) pe_int (fun _ _ => rfl)) (pa_cons pe_int (pa_cons (pe_glob rfl T.c_MOST_LENGTH.choose_spec ⟨_, rfl⟩) pa_nil)))) (fun _ => rfl))) (pss_one (ps_raise rfl tkX (pmk_oex T.x_NoLength.all.oex T.x_NoLength.iC T.x_NoLength.tI (ini_NoLength T) (hr.mono (by decide)) T.x_NoLength.b .nil pass0 (by rfl) T.x_NoLength.g (pa_cons (pe_ix (ix_any hr.units) (pv 3) pe_int (fun _ _ => rfl)) pa_nil)))) pss_nil)
      (pss_cons (ps_if (pt_cmpR (op_inB hr.units) (pv 4) (pv 2) (by rfl)) (pss_one (ps_raise rfl tkX (pmk_oex T.x_Tied.all.oex T.x_Tied.iC T.x_Tied.tI (ini_Tied T) (hr.mono (by decide)) T.x_Tied.b .nil pass0 (by rfl) T.x_Tied.g (pa_cons (pe_ix (ix_any hr.units) (pv 3) pe_int (fun _ _ => rfl)) (pa_cons (pe_ix (ix_any hr.units) (pv 3) pe_int (fun _ _ => rfl)) pa_nil))))) pss_nil)
      (pss_one (ps_asg (pe_ix (ix_any hr.units) (pv 3) pe_int (fun _ _ => rfl)) (pg_sub (pv 2) (pv 4) (set_any hr.units))))))))))
      (pss_one (ps_ret (pv 2))))))
theorem ok_Web___init__ (T : Txt K mg cn) (G_lengths_of : FnG P w K mg base (L2.CX P w) 4 T.a_lengths_of T.f_lengths_of ["spots", "ties"] (liftX K cn S_lengths_of)) (G_spots_of : FnG P w K mg base (L2.CX P w) 3 T.a_spots_of T.f_spots_of ["places"] (liftX K cn S_spots_of)) : FnG P w K mg base (L2.CX P w) 5 T.a_Web___init__ T.f_Web___init__ ["self", "places", "ties"] (liftX K cn (S_Web___init__ cn)) := by
  refine okGX T.d_Web___init__.fn sc_Web___init__ (fun vs H Q E h => liftX_len (len_Web___init__ cn) h) (fun cdv A outer s H vs Q E hg hr h => ⟨t_Web___init__ K cn (fun cls d _ H => E cls d H), ?_, liftX_WsC (n := 3) (m := 0) (Fx := fun K c => XF K c ∧ c = cn) ⟨T.xf, rfl⟩ (len_Web___init__ cn) rfl (ws_Web___init__ cn) h⟩)
  exact (pss_cons (ps_fld (pv 0) (pe_callSG G_spots_of hg (hr.mono (by decide)) (by rfl) T.d_spots_of.g T.d_spots_of.fn.kp T.d_spots_of.b (fun σ => passAt tkX σ) (pa_cons (pv 1) pa_nil)) (by rfl))
      (pss_cons (ps_fld (pv 0) (pe_callTy (call_listB rfl) (by rfl) T.n_list (by decide +kernel) (pa_cons (pv 1) pa_nil)) (by rfl))
      (pss_one (ps_fld (pv 0) (pe_callSG G_lengths_of hg (hr.mono (by decide)) (by rfl) T.d_lengths_of.g T.d_lengths_of.fn.kp T.d_lengths_of.b (fun σ => passAt tkX σ) (pa_cons (pe_fld (pv 0) (by rfl)) (pa_cons (pv 2) pa_nil))) (by rfl)))))
theorem ok_l_cell (T : Txt K mg cn) : FnG P w K mg base (L2.CX P w) 1 T.a_l_cell T.f_l_cell ["_law_script", "_law_k"] (lift K S_l_cell) := by
  refine okGX T.d_l_cell.fn sc_l_cell (fun vs H Q E h => lift_len len_l_cell h) (fun cdv A outer s H vs Q E hg hr h => ⟨t_l_cell K cn, ?_, lift_WsC (n := 2) (m := 0) T.xf len_l_cell rfl ws_l_cell h⟩)
  exact (pss_cons (ps_if (pt_cmpR op_ltA (pv 1) (pe_callB call_lenB (by rfl) T.n_len (by decide +kernel) (pa_cons (pv 0) pa_nil)) (nomark _)) (pss_one (ps_ret (pe_ix (ix_any hr.units) (pv 0) (pv 1) (fun _ _ => rfl)))) pss_nil)
      (pss_one (ps_ret (pe_op op_addA (pe_op op_mulB pe_int (pv 1)) pe_int))))
theorem ok_l_box (T : Txt K mg cn) : FnG P w K mg base (L2.CX P w) 1 T.a_l_box T.f_l_box ["_law_cell_here"] (lift K S_l_box) := by
  refine okGX T.d_l_box.fn sc_l_box (fun vs H Q E h => lift_len len_l_box h) (fun cdv A outer s H vs Q E hg hr h => ⟨t_l_box K cn, ?_, lift_WsC (n := 1) (m := 0) T.xf len_l_box rfl ws_l_box h⟩)
  exact (pss_one (ps_ret (pe_lst (pa_cons (pe_callB (call_maxA rfl) (by rfl) T.n_max (by decide +kernel) (pa_cons pe_int (pa_cons (pe_op op_subA (pv 0) (pe_op op_powA pe_int pe_int)) pa_nil))) (pa_cons (pe_op op_modA (pv 0) pe_int) (pa_cons (pe_op op_modA (pv 0) pe_int) (pa_cons pe_int pa_nil)))))))
theorem ok_l_take (T : Txt K mg cn) : FnG P w K mg base (L2.CX P w) 1 T.a_l_take T.f_l_take ["_law_box_here", "_law_many"] (lift K S_l_take) := by
  refine okGX T.d_l_take.fn sc_l_take (fun vs H Q E h => lift_len len_l_take h) (fun cdv A outer s H vs Q E hg hr h => ⟨t_l_take K cn, ?_, lift_WsC (n := 2) (m := 3) T.xf len_l_take rfl ws_l_take h⟩)
  exact (pss_cons (ps_if (pt_cmpR op_gtA (pe_ix (ix_any hr.units) (pv 0) pe_int (fun _ _ => rfl)) pe_int (nomark _)) (pss_cons (ps_set (i := 2) sc_l_take.nd rfl (.inl rfl) (pe_op op_modA (pe_ix (ix_any hr.units) (pv 0) pe_int (fun _ _ => rfl)) (pv 1)))
      (pss_cons (ps_asg (pe_op op_divA (pe_ix (ix_any hr.units) (pv 0) pe_int (fun _ _ => rfl)) (pv 1)) (pg_sub (pv 0) pe_int (set_any hr.units)))
      (pss_one (ps_ret (pv 2))))) pss_nil)
      (pss_cons (ps_asg (pe_op op_addA (pe_ix (ix_any hr.units) (pv 0) pe_int (fun _ _ => rfl)) pe_int) (pg_sub (pv 0) pe_int (set_any hr.units)))
      (pss_cons (ps_set (i := 3) sc_l_take.nd rfl (.inl rfl) (pe_ix (ix_any hr.units) (pv 0) pe_int (fun _ _ => rfl)))
      (pss_cons (ps_set (i := 4) sc_l_take.nd rfl (.inl rfl) (pe_op op_modA (pe_op op_powA (pe_op op_addA (pe_op op_mulB (pe_ix (ix_any hr.units) (pv 0) pe_int (fun _ _ => rfl)) (pe_op op_addA (pe_op op_mulB pe_int (pv 3)) pe_int)) (pe_op op_mulB (pe_op op_mulB pe_int (pv 3)) (pv 3))) pe_int) pe_int))
      (pss_one (ps_ret (pe_op op_modA (pe_op op_divA (pe_op op_modA (pe_op op_powA (pe_op op_addA (pe_op op_addA (pv 4) (pe_op op_mulB (pe_ix (ix_any hr.units) (pv 0) pe_int (fun _ _ => rfl)) (pv 3))) pe_int) pe_int) pe_int) pe_int) (pv 1))))))))
theorem ok_l_names (T : Txt K mg cn) (G_l_take : FnG P w K mg base (L2.CX P w) 1 T.a_l_take T.f_l_take ["_law_box_here", "_law_many"] (lift K S_l_take)) : FnG P w K mg base (L2.CX P w) 2 T.a_l_names T.f_l_names ["_law_box_here", "_law_many"] (lift K S_l_names) := by
  refine okGX T.d_l_names.fn sc_l_names (fun vs H Q E h => lift_len len_l_names h) (fun cdv A outer s H vs Q E hg hr h => ⟨t_l_names K cn, ?_, lift_WsC (n := 2) (m := 7) T.xf len_l_names rfl ws_l_names h⟩)
  exact (pss_cons (ps_set (i := 2) sc_l_names.nd rfl (.inr rfl) pe_str)
      (pss_cons (ps_set (i := 3) sc_l_names.nd rfl (.inl rfl) (pe_cmpR (op_eqA hr.units) (pe_callG G_l_take hg (hr.mono (by decide)) (by rfl) T.d_l_take.g T.d_l_take.fn.kp T.d_l_take.b .nil passL (pa_cons (pv 0) (pa_cons pe_int pa_nil))) pe_int (nomark _)))
      (pss_cons (ps_set (i := 4) sc_l_names.nd rfl (.inl rfl) (pe_callG G_l_take hg (hr.mono (by decide)) (by rfl) T.d_l_take.g T.d_l_take.fn.kp T.d_l_take.b .nil passL (pa_cons (pv 0) (pa_cons pe_int pa_nil))))
      (pss_cons (ps_set (i := 5) sc_l_names.nd rfl (.inl rfl) (pe_lst pa_nil))
      (pss_cons (ps_for psX rfl (pi_range1 (by rfl) T.n_range (pa_cons (pv 1) pa_nil)) (pg_name (i := 6) sc_l_names.nd rfl (.inl rfl)) (pss_cons (ps_set (i := 7) sc_l_names.nd rfl (.inl rfl) (pe_bm PySem.F.plainAttrs_str PySem.F.slot_str_join PySem.F.type_str_join mt_joinA pe_str (pa_cons (pe_lc (own := [("_law_j", 8)]) (g := (gName 8)) (tt := tYes) rfl sc_l_names.nd (pi_range1 (by rfl) T.n_range (pa_cons (pe_callG G_l_take hg (hr.mono (by decide)) (by rfl) T.d_l_take.g T.d_l_take.fn.kp T.d_l_take.b .nil passL (pa_cons (pv 0) (pa_cons pe_int pa_nil))) pa_nil)) (blkOk_by (own := [("_law_j", 8)]) (N := N_l_names) (sc := defScope s_l_names) (by decide +kernel)) (fun _ _ _ _ _ => (pg_name (i := 8) sc_l_names.nd rfl (.inl rfl))) (fun _ _ _ _ _ => pts_nil) (fun _ _ _ _ _ => (pe_ix (ix_any hr.units) (pv 2) (pe_callG G_l_take hg (hr.mono (by decide)) (by rfl) T.d_l_take.g T.d_l_take.fn.kp T.d_l_take.b .nil passL (pa_cons (pv 0) (pa_cons pe_int pa_nil))) (fun _ _ => rfl)))) pa_nil)))
      (pss_cons (ps_expr (pe_bm PySem.F.plainAttrs_list PySem.F.slot_list_append PySem.F.type_list_append mt_appendA (pv 5) (pa_cons (pe_op op_addA (pe_ix (ix_any hr.units) (pv 2) (pe_op op_modA (pe_op op_addA (pv 4) (pe_op op_mulB pe_int (pv 6))) pe_int) (fun _ _ => rfl)) (pv 7)) pa_nil)))
      (pss_one (ps_if (PW.pt (pw_and (pt_tru (pv 3) (fun _ => rfl)) (pw_and (pt_cmpR (op_eqA hr.units) (pe_op op_modA (pv 6) pe_int) pe_int (nomark _)) (pw_and1 (pt_cmpR op_ltA (pe_callB call_lenB (by rfl) T.n_len (by decide +kernel) (pa_cons (pe_ix (ix_any hr.units) (pv 5) (pe_op op_subA (pv 6) pe_int) (fun _ _ => rfl)) pa_nil)) pe_int (nomark _)))))) (pss_one (ps_asg (pe_op op_addA (pe_ix (ix_any hr.units) (pv 5) (pe_op op_subA (pv 6) pe_int) (fun _ _ => rfl)) (pe_ix (ix_any hr.units) (pv 2) (pe_callG G_l_take hg (hr.mono (by decide)) (by rfl) T.d_l_take.g T.d_l_take.fn.kp T.d_l_take.b .nil passL (pa_cons (pv 0) (pa_cons pe_int pa_nil))) (fun _ _ => rfl))) (pg_sub (pv 5) (pv 6) (set_any hr.units)))) pss_nil)))))
      (pss_one (ps_ret (pv 5))))))))
theorem ok_l_is_tied (T : Txt K mg cn) (G_l_take : FnG P w K mg base (L2.CX P w) 1 T.a_l_take T.f_l_take ["_law_box_here", "_law_many"] (lift K S_l_take)) : FnG P w K mg base (L2.CX P w) 2 T.a_l_is_tied T.f_l_is_tied ["_law_box_here", "_law_shape", "_law_k", "_law_j", "_law_near"] (lift K S_l_is_tied) := by
  refine okGX T.d_l_is_tied.fn sc_l_is_tied (fun vs H Q E h => lift_len len_l_is_tied h) (fun cdv A outer s H vs Q E hg hr h => ⟨t_l_is_tied K cn, ?_, lift_WsC (n := 5) (m := 0) T.xf len_l_is_tied rfl ws_l_is_tied h⟩)
  exact (pss_cons (ps_if (pt_cmpR (op_eqA hr.units) (pv 1) pe_int (nomark _)) (pss_one (ps_ret (pe_cmpR (op_eqA hr.units) (pv 2) (pv 4) (nomark _)))) pss_nil)
      (pss_cons (ps_if (pt_cmpR (op_eqA hr.units) (pv 1) pe_int (nomark _)) (pss_one (ps_ret (pe_cmpR (op_eqA hr.units) (pv 2) (pe_op op_subA (pv 3) pe_int) (nomark _)))) pss_nil)
      (pss_cons (ps_if (pt_cmpR (op_eqA hr.units) (pv 1) pe_int (nomark _)) (pss_one (ps_ret (pe_or (pe_cmpR (op_eqA hr.units) (pv 2) (pv 4) (nomark _)) (pe_one (pe_cmpR (op_eqA hr.units) (pe_callG G_l_take hg (hr.mono (by decide)) (by rfl) T.d_l_take.g T.d_l_take.fn.kp T.d_l_take.b .nil passL (pa_cons (pv 0) (pa_cons pe_int pa_nil))) pe_int (nomark _)))))) pss_nil)
      (pss_one (ps_ret (pe_or (pe_cmpR (op_eqA hr.units) (pv 1) pe_int (nomark _)) (pe_one (pe_cmpR (op_eqA hr.units) (pe_callG G_l_take hg (hr.mono (by decide)) (by rfl) T.d_l_take.g T.d_l_take.fn.kp T.d_l_take.b .nil passL (pa_cons (pv 0) (pa_cons pe_int pa_nil))) pe_int (nomark _)))))))))
theorem ok_l_length (T : Txt K mg cn) (G_l_take : FnG P w K mg base (L2.CX P w) 1 T.a_l_take T.f_l_take ["_law_box_here", "_law_many"] (lift K S_l_take)) : FnG P w K mg base (L2.CX P w) 2 T.a_l_length T.f_l_length ["_law_box_here", "_law_style"] (lift K S_l_length) := by
  refine okGX T.d_l_length.fn sc_l_length (fun vs H Q E h => lift_len len_l_length h) (fun cdv A outer s H vs Q E hg hr h => ⟨t_l_length K cn, ?_, lift_WsC (n := 2) (m := 0) T.xf len_l_length rfl ws_l_length h⟩)
  exact (pss_cons (ps_if (pt_cmpR (op_eqA hr.units) (pv 1) pe_int (nomark _)) (pss_one (ps_ret (pe_op op_subA (pe_op op_powA pe_int pe_int) (pe_callG G_l_take hg (hr.mono (by decide)) (by rfl) T.d_l_take.g T.d_l_take.fn.kp T.d_l_take.b .nil passL (pa_cons (pv 0) (pa_cons pe_int pa_nil)))))) pss_nil)
      (pss_one (ps_ret (pe_op op_addA pe_int (pe_callG G_l_take hg (hr.mono (by decide)) (by rfl) T.d_l_take.g T.d_l_take.fn.kp T.d_l_take.b .nil passL (pa_cons (pv 0) (pa_cons (pe_ix (ix_any hr.units) (pe_lst (pa_cons pe_int (pa_cons pe_int (pa_cons (pe_op op_powA pe_int pe_int) pa_nil)))) (pv 1) (fun _ _ => rfl)) pa_nil)))))))
theorem ok_l_turned (T : Txt K mg cn) (G_l_take : FnG P w K mg base (L2.CX P w) 1 T.a_l_take T.f_l_take ["_law_box_here", "_law_many"] (lift K S_l_take)) : FnG P w K mg base (L2.CX P w) 2 T.a_l_turned T.f_l_turned ["_law_box_here", "_law_many"] (lift K S_l_turned) := by
  refine okGX T.d_l_turned.fn sc_l_turned (fun vs H Q E h => lift_len len_l_turned h) (fun cdv A outer s H vs Q E hg hr h => ⟨t_l_turned K cn, ?_, lift_WsC (n := 2) (m := 2) T.xf len_l_turned rfl ws_l_turned h⟩)
  exact (pss_cons (ps_set (i := 2) sc_l_turned.nd rfl (.inl rfl) (pe_listRg rfl (by rfl) T.n_list (prg_1 (by rfl) T.n_range (pv 1))))
      (pss_cons (ps_set (i := 3) sc_l_turned.nd rfl (.inl rfl) (pe_lst pa_nil))
      (pss_cons (ps_while psX (pt_cmpR (op_neA hr.units) (pv 2) (pe_lst pa_nil) (nomark _)) (pss_one (ps_expr (pe_bm PySem.F.plainAttrs_list PySem.F.slot_list_append PySem.F.type_list_append mt_appendA (pv 3) (pa_cons (pe_bm PySem.F.plainAttrs_list PySem.F.slot_list_pop PySem.F.type_list_pop mt_popAtA (pv 2) (pa_cons (pe_callG G_l_take hg (hr.mono (by decide)) (by rfl) T.d_l_take.g T.d_l_take.fn.kp T.d_l_take.b .nil passL (pa_cons (pv 0) (pa_cons (pe_callB call_lenB (by rfl) T.n_len (by decide +kernel) (pa_cons (pv 2) pa_nil)) pa_nil))) pa_nil)) pa_nil)))))
      (pss_one (ps_ret (pv 3))))))
theorem ok_l_named (T : Txt K mg cn) (G_l_names : FnG P w K mg base (L2.CX P w) 2 T.a_l_names T.f_l_names ["_law_box_here", "_law_many"] (lift K S_l_names)) (G_l_take : FnG P w K mg base (L2.CX P w) 1 T.a_l_take T.f_l_take ["_law_box_here", "_law_many"] (lift K S_l_take)) (G_l_turned : FnG P w K mg base (L2.CX P w) 2 T.a_l_turned T.f_l_turned ["_law_box_here", "_law_many"] (lift K S_l_turned)) : FnG P w K mg base (L2.CX P w) 3 T.a_l_named T.f_l_named ["_law_box_here", "_law_ties", "_law_many"] (lift K S_l_named) := by
  refine okGX T.d_l_named.fn sc_l_named (fun vs H Q E h => lift_len len_l_named h) (fun cdv A outer s H vs Q E hg hr h => ⟨t_l_named K cn, ?_, lift_WsC (n := 3) (m := 7) T.xf len_l_named rfl ws_l_named h⟩)
  exact (pss_cons (ps_set (i := 3) sc_l_named.nd rfl (.inl rfl) (pe_callG G_l_names hg (hr.mono (by decide)) (by rfl) T.d_l_names.g T.d_l_names.fn.kp T.d_l_names.b .nil passL (pa_cons (pv 0) (pa_cons (pv 2) pa_nil))))
      (pss_cons (ps_set (i := 4) sc_l_named.nd rfl (.inl rfl) (pe_callG G_l_turned hg (hr.mono (by decide)) (by rfl) T.d_l_turned.g T.d_l_turned.fn.kp T.d_l_turned.b .nil passL (pa_cons (pv 0) (pa_cons (pv 2) pa_nil))))
      (pss_cons (ps_set (i := 5) sc_l_named.nd rfl (.inl rfl) (pe_lst pa_nil))
      (pss_cons (ps_for psX rfl (pi_any (pv 1)) (pg_seq rfl (pgs_cons (pg_name (i := 6) sc_l_named.nd rfl (.inl rfl)) (pgs_cons (pg_name (i := 7) sc_l_named.nd rfl (.inl rfl)) (pgs_cons (pg_name (i := 8) sc_l_named.nd rfl (.inl rfl)) pgs_nil)))) (pss_cons (ps_set (i := 9) sc_l_named.nd rfl (.inl rfl) (pe_lst (pa_cons (pe_tup (pa_cons (pe_ix (ix_any hr.units) (pv 3) (pe_ix (ix_any hr.units) (pv 4) (pv 6) (fun _ _ => rfl)) (fun _ _ => rfl)) (pa_cons (pe_ix (ix_any hr.units) (pv 3) (pe_ix (ix_any hr.units) (pv 4) (pv 7) (fun _ _ => rfl)) (fun _ _ => rfl)) pa_nil))) (pa_cons (pe_tup (pa_cons (pe_ix (ix_any hr.units) (pv 3) (pe_ix (ix_any hr.units) (pv 4) (pv 7) (fun _ _ => rfl)) (fun _ _ => rfl)) (pa_cons (pe_ix (ix_any hr.units) (pv 3) (pe_ix (ix_any hr.units) (pv 4) (pv 6) (fun _ _ => rfl)) (fun _ _ => rfl)) pa_nil))) pa_nil))))
      (pss_cons (ps_asg (pe_ix (ix_any hr.units) (pv 9) (pe_callG G_l_take hg (hr.mono (by decide)) (by rfl) T.d_l_take.g T.d_l_take.fn.kp T.d_l_take.b .nil passL (pa_cons (pv 0) (pa_cons pe_int pa_nil))) (fun _ _ => rfl)) (pg_seq rfl (pgs_cons (pg_name (i := 6) sc_l_named.nd rfl (.inl rfl)) (pgs_cons (pg_name (i := 7) sc_l_named.nd rfl (.inl rfl)) pgs_nil))))
      (pss_one (ps_expr (pe_bm PySem.F.plainAttrs_list PySem.F.slot_list_append PySem.F.type_list_append mt_appendA (pv 5) (pa_cons (pe_tup (pa_cons (pv 6) (pa_cons (pv 7) (pa_cons (pv 8) pa_nil)))) pa_nil)))))))
      (pss_one (ps_ret (pe_tup (pa_cons (pv 3) (pa_cons (pv 5) pa_nil)))))))))
theorem ok_l_drawn (T : Txt K mg cn) (G_l_is_tied : FnG P w K mg base (L2.CX P w) 2 T.a_l_is_tied T.f_l_is_tied ["_law_box_here", "_law_shape", "_law_k", "_law_j", "_law_near"] (lift K S_l_is_tied)) (G_l_length : FnG P w K mg base (L2.CX P w) 2 T.a_l_length T.f_l_length ["_law_box_here", "_law_style"] (lift K S_l_length)) (G_l_named : FnG P w K mg base (L2.CX P w) 3 T.a_l_named T.f_l_named ["_law_box_here", "_law_ties", "_law_many"] (lift K S_l_named)) (G_l_take : FnG P w K mg base (L2.CX P w) 1 T.a_l_take T.f_l_take ["_law_box_here", "_law_many"] (lift K S_l_take)) : FnG P w K mg base (L2.CX P w) 4 T.a_l_drawn T.f_l_drawn ["_law_box_here", "_law_most"] (lift K S_l_drawn) := by
  refine okGX T.d_l_drawn.fn sc_l_drawn (fun vs H Q E h => lift_len len_l_drawn h) (fun cdv A outer s H vs Q E hg hr h => ⟨t_l_drawn K cn, ?_, lift_WsC (n := 2) (m := 8) T.xf len_l_drawn rfl ws_l_drawn h⟩)
  exact (pss_cons (ps_set (i := 2) sc_l_drawn.nd rfl (.inl rfl) (pe_callG G_l_take hg (hr.mono (by decide)) (by rfl) T.d_l_take.g T.d_l_take.fn.kp T.d_l_take.b .nil passL (pa_cons (pv 0) (pa_cons pe_int pa_nil))))
      (pss_cons (ps_set (i := 3) sc_l_drawn.nd rfl (.inl rfl) (pe_callG G_l_take hg (hr.mono (by decide)) (by rfl) T.d_l_take.g T.d_l_take.fn.kp T.d_l_take.b .nil passL (pa_cons (pv 0) (pa_cons pe_int pa_nil))))
      (pss_cons (ps_set (i := 4) sc_l_drawn.nd rfl (.inl rfl) (pe_op op_mulB (pe_op op_divA (pe_callG G_l_take hg (hr.mono (by decide)) (by rfl) T.d_l_take.g T.d_l_take.fn.kp T.d_l_take.b .nil passL (pa_cons (pv 0) (pa_cons pe_int pa_nil))) pe_int) (pe_callG G_l_take hg (hr.mono (by decide)) (by rfl) T.d_l_take.g T.d_l_take.fn.kp T.d_l_take.b .nil passL (pa_cons (pv 0) (pa_cons pe_int pa_nil)))))
      (pss_cons (ps_set (i := 5) sc_l_drawn.nd rfl (.inl rfl) (pe_op op_addA pe_int (pe_callG G_l_take hg (hr.mono (by decide)) (by rfl) T.d_l_take.g T.d_l_take.fn.kp T.d_l_take.b .nil passL (pa_cons (pv 0) (pa_cons (pv 1) pa_nil)))))
      (pss_cons (ps_set (i := 6) sc_l_drawn.nd rfl (.inl rfl) (pe_lst pa_nil))
      (pss_cons (ps_for psX rfl (pi_range2 (by rfl) T.n_range (pa_cons pe_int (pa_cons (pv 5) pa_nil))) (pg_name (i := 7) sc_l_drawn.nd rfl (.inl rfl)) (pss_cons (ps_set (i := 8) sc_l_drawn.nd rfl (.inl rfl) (pe_callG G_l_take hg (hr.mono (by decide)) (by rfl) T.d_l_take.g T.d_l_take.fn.kp T.d_l_take.b .nil passL (pa_cons (pv 0) (pa_cons (pv 7) pa_nil))))
      (pss_one (ps_for psX rfl (pi_range1 (by rfl) T.n_range (pa_cons (pv 7) pa_nil)) (pg_name (i := 9) sc_l_drawn.nd rfl (.inl rfl)) (pss_one (ps_if (PW.pt (pw_and (pt_cmpR op_ltA (pe_callB call_lenB (by rfl) T.n_len (by decide +kernel) (pa_cons (pv 6) pa_nil)) pe_int (nomark _)) (pw_and1 (pt_tru (pe_callG G_l_is_tied hg (hr.mono (by decide)) (by rfl) T.d_l_is_tied.g T.d_l_is_tied.fn.kp T.d_l_is_tied.b .nil passL (pa_cons (pv 0) (pa_cons (pv 2) (pa_cons (pv 9) (pa_cons (pv 7) (pa_cons (pv 8) pa_nil)))))) (fun _ => rfl))))) (pss_one (ps_expr (pe_bm PySem.F.plainAttrs_list PySem.F.slot_list_append PySem.F.type_list_append mt_appendA (pv 6) (pa_cons (pe_tup (pa_cons (pv 9) (pa_cons (pv 7) (pa_cons (pe_callG G_l_length hg (hr.mono (by decide)) (by rfl) T.d_l_length.g T.d_l_length.fn.kp T.d_l_length.b .nil passL (pa_cons (pv 0) (pa_cons (pv 3) pa_nil))) pa_nil)))) pa_nil)))) pss_nil))))))
      (pss_cons (ps_for psX rfl (pi_range1 (by rfl) T.n_range (pa_cons (pv 4) pa_nil)) (pg_name (i := 9) sc_l_drawn.nd rfl (.inl rfl)) (pss_one (ps_if (pt_cmpR (op_neA hr.units) (pv 6) (pe_lst pa_nil) (nomark _)) (pss_one (ps_expr (pe_bm PySem.F.plainAttrs_list PySem.F.slot_list_pop PySem.F.type_list_pop mt_popAtA (pv 6) (pa_cons (pe_callG G_l_take hg (hr.mono (by decide)) (by rfl) T.d_l_take.g T.d_l_take.fn.kp T.d_l_take.b .nil passL (pa_cons (pv 0) (pa_cons (pe_callB call_lenB (by rfl) T.n_len (by decide +kernel) (pa_cons (pv 6) pa_nil)) pa_nil))) pa_nil)))) pss_nil)))
      (pss_one (ps_ret (pe_callG G_l_named hg (hr.mono (by decide)) (by rfl) T.d_l_named.g T.d_l_named.fn.kp T.d_l_named.b .nil passL (pa_cons (pv 0) (pa_cons (pv 6) (pa_cons (pv 5) pa_nil)))))))))))))
theorem ok_l_order (T : Txt K mg cn) (G_l_turned : FnG P w K mg base (L2.CX P w) 2 T.a_l_turned T.f_l_turned ["_law_box_here", "_law_many"] (lift K S_l_turned)) : FnG P w K mg base (L2.CX P w) 3 T.a_l_order T.f_l_order ["_law_box_here", "_law_names_here"] (lift K S_l_order) := by
  refine okGX T.d_l_order.fn sc_l_order (fun vs H Q E h => lift_len len_l_order h) (fun cdv A outer s H vs Q E hg hr h => ⟨t_l_order K cn, ?_, lift_WsC (n := 2) (m := 1) T.xf len_l_order rfl ws_l_order h⟩)
  exact (pss_one (ps_ret (pe_lc (own := [("_law_k", 2)]) (g := (gName 2)) (tt := tYes) rfl sc_l_order.nd (pi_any (pe_callG G_l_turned hg (hr.mono (by decide)) (by rfl) T.d_l_turned.g T.d_l_turned.fn.kp T.d_l_turned.b .nil passL (pa_cons (pv 0) (pa_cons (pe_callB call_lenB (by rfl) T.n_len (by decide +kernel) (pa_cons (pv 1) pa_nil)) pa_nil)))) (blkOk_by (own := [("_law_k", 2)]) (N := N_l_order) (sc := defScope s_l_order) (by decide +kernel)) (fun _ _ _ _ _ => (pg_name (i := 2) sc_l_order.nd rfl (.inl rfl))) (fun _ _ _ _ _ => pts_nil) (fun _ _ _ _ _ => (pe_ix (ix_any hr.units) (pv 1) (pv 2) (fun _ _ => rfl))))))
theorem ok_l_bridges (T : Txt K mg cn) : FnG P w K mg base (L2.CX P w) 1 T.a_l_bridges T.f_l_bridges ["_law_ties", "_law_order_here"] (lift K S_l_bridges) := by
  refine okGX T.d_l_bridges.fn sc_l_bridges (fun vs H Q E h => lift_len len_l_bridges h) (fun cdv A outer s H vs Q E hg hr h => ⟨t_l_bridges K cn, ?_, lift_WsC (n := 2) (m := 9) T.xf len_l_bridges rfl ws_l_bridges h⟩)
  exact (pss_cons (ps_set (i := 2) sc_l_bridges.nd rfl (.inl rfl) pe_dnewT)
      (pss_cons (ps_for psX rfl (pi_enum (by rfl) T.n_enumerate (pa_cons (pv 1) pa_nil)) (pg_seq rfl (pgs_cons (pg_name (i := 3) sc_l_bridges.nd rfl (.inl rfl)) (pgs_cons (pg_name (i := 4) sc_l_bridges.nd rfl (.inl rfl)) pgs_nil))) (pss_cons (ps_set (i := 5) sc_l_bridges.nd rfl (.inl rfl) (pe_disp (pps_cons (pv 4) pe_int pps_nil) (by rfl) (by rfl) (fun z => by cases z) (by decide)))
      (pss_cons (ps_for psX rfl (pi_range1 (by rfl) T.n_range (pa_cons (pe_op op_addA (pv 3) pe_int) pa_nil)) (pg_name (i := 6) sc_l_bridges.nd rfl (.inl rfl)) (pss_one (ps_for psX rfl (pi_any (pe_op op_addA (pv 0) (pe_lc (own := [("_law_tie", 7)]) (g := (gName 7)) (tt := tYes) rfl sc_l_bridges.nd (pi_any (pv 0)) (blkOk_by (own := [("_law_tie", 7)]) (N := N_l_bridges) (sc := defScope s_l_bridges) (by decide +kernel)) (fun _ _ _ _ _ => (pg_name (i := 7) sc_l_bridges.nd rfl (.inl rfl))) (fun _ _ _ _ _ => pts_nil) (fun _ _ _ _ _ => (pe_tup (pa_cons (pe_ix (ix_any hr.units) (pv 7) pe_int (fun _ _ => rfl)) (pa_cons (pe_ix (ix_any hr.units) (pv 7) pe_int (fun _ _ => rfl)) (pa_cons (pe_ix (ix_any hr.units) (pv 7) pe_int (fun _ _ => rfl)) pa_nil)))))))) (pg_name (i := 7) sc_l_bridges.nd rfl (.inl rfl)) (pss_cons (ps_asg (pv 7) (pg_seq rfl (pgs_cons (pg_name (i := 8) sc_l_bridges.nd rfl (.inl rfl)) (pgs_cons (pg_name (i := 9) sc_l_bridges.nd rfl (.inl rfl)) (pgs_cons (pg_name (i := 10) sc_l_bridges.nd rfl (.inl rfl)) pgs_nil)))))
      (pss_one (ps_if (PW.pt (pw_and (pt_cmpR (op_inB hr.units) (pv 8) (pv 5) (by rfl)) (pw_and (pt_cmpR (op_inB hr.units) (pv 9) (pe_slice sl_A (pv 1) po_none (po_some (pv 3))) (by rfl)) (pw_and1 (pt_cmpR op_ltA (pe_op op_addA (pe_ix (ix_any hr.units) (pv 5) (pv 8) (fun _ _ => rfl)) (pv 10)) (pe_dget2 hr.units1 (pv 5) (pv 9) (pe_op op_powA pe_int pe_int) ⟨by rfl, by rfl, by rfl, by rfl⟩) (nomark _)))))) (pss_one (ps_asg (pe_op op_addA (pe_ix (ix_any hr.units) (pv 5) (pv 8) (fun _ _ => rfl)) (pv 10)) (pg_sub (pv 5) (pv 9) (set_any hr.units)))) pss_nil))))))
      (pss_one (ps_for psX rfl (pi_any (pe_op op_addA (pv 0) (pe_lc (own := [("_law_tie", 7)]) (g := (gName 7)) (tt := tYes) rfl sc_l_bridges.nd (pi_any (pv 0)) (blkOk_by (own := [("_law_tie", 7)]) (N := N_l_bridges) (sc := defScope s_l_bridges) (by decide +kernel)) (fun _ _ _ _ _ => (pg_name (i := 7) sc_l_bridges.nd rfl (.inl rfl))) (fun _ _ _ _ _ => pts_nil) (fun _ _ _ _ _ => (pe_tup (pa_cons (pe_ix (ix_any hr.units) (pv 7) pe_int (fun _ _ => rfl)) (pa_cons (pe_ix (ix_any hr.units) (pv 7) pe_int (fun _ _ => rfl)) (pa_cons (pe_ix (ix_any hr.units) (pv 7) pe_int (fun _ _ => rfl)) pa_nil)))))))) (pg_name (i := 7) sc_l_bridges.nd rfl (.inl rfl)) (pss_cons (ps_asg (pv 7) (pg_seq rfl (pgs_cons (pg_name (i := 8) sc_l_bridges.nd rfl (.inl rfl)) (pgs_cons (pg_name (i := 9) sc_l_bridges.nd rfl (.inl rfl)) (pgs_cons (pg_name (i := 10) sc_l_bridges.nd rfl (.inl rfl)) pgs_nil)))))
      (pss_one (ps_if (PW.pt (pw_and (pt_cmpR (op_inB hr.units) (pv 8) (pv 5) (by rfl)) (pw_and1 (pt_cmpR (op_inB hr.units) (pv 9) (pe_slice sl_A (pv 1) (po_some (pe_op op_addA (pv 3) pe_int)) po_none) (by rfl))))) (pss_one (ps_asg (pe_callB (call_minA rfl) (by rfl) T.n_min (by decide +kernel) (pa_cons (pe_dget2 hr.units1 (pv 2) (pe_tup (pa_cons (pv 4) (pa_cons (pv 9) pa_nil))) (pe_op op_powA pe_int pe_int) ⟨by rfl, by rfl, by rfl, by rfl⟩) (pa_cons (pe_op op_addA (pe_ix (ix_any hr.units) (pv 5) (pv 8) (fun _ _ => rfl)) (pv 10)) pa_nil))) (pg_sub (pv 2) (pe_tup (pa_cons (pv 4) (pa_cons (pv 9) pa_nil))) (set_any hr.units)))) pss_nil))))))))
      (pss_one (ps_ret (pv 2)))))
theorem ok_l_tied (T : Txt K mg cn) : FnG P w K mg base (L2.CX P w) 1 T.a_l_tied T.f_l_tied ["_law_ties", "_law_one", "_law_other", "_law_length_here"] (lift K S_l_tied) := by
  refine okGX T.d_l_tied.fn sc_l_tied (fun vs H Q E h => lift_len len_l_tied h) (fun cdv A outer s H vs Q E hg hr h => ⟨t_l_tied K cn, ?_, lift_WsC (n := 4) (m := 1) T.xf len_l_tied rfl ws_l_tied h⟩)
  exact (pss_one (ps_ret (pe_callB (cr_any rfl) (by rfl) T.n_any (by decide +kernel) (pa_cons (pe_lc (own := [("_law_tie", 4)]) (g := (gName 4)) (tt := tYes) rfl sc_l_tied.nd (pi_any (pv 0)) (blkOk_by (own := [("_law_tie", 4)]) (N := N_l_tied) (sc := defScope s_l_tied) (by decide +kernel)) (fun _ _ _ _ _ => (pg_name (i := 4) sc_l_tied.nd rfl (.inl rfl))) (fun _ _ _ _ _ => pts_nil) (fun _ _ _ _ _ => (pe_cmpR (op_inG hr.units) (pe_tup (pa_cons (pe_ix (ix_any hr.units) (pv 4) pe_int (fun _ _ => rfl)) (pa_cons (pe_ix (ix_any hr.units) (pv 4) pe_int (fun _ _ => rfl)) (pa_cons (pe_ix (ix_any hr.units) (pv 4) pe_int (fun _ _ => rfl)) pa_nil)))) (pe_tup (pa_cons (pe_tup (pa_cons (pv 1) (pa_cons (pv 2) (pa_cons (pv 3) pa_nil)))) (pa_cons (pe_tup (pa_cons (pv 2) (pa_cons (pv 1) (pa_cons (pv 3) pa_nil)))) pa_nil))) (by rfl)))) pa_nil))))
theorem ok_l_up_right (T : Txt K mg cn) (G_l_tied : FnG P w K mg base (L2.CX P w) 1 T.a_l_tied T.f_l_tied ["_law_ties", "_law_one", "_law_other", "_law_length_here"] (lift K S_l_tied)) : FnG P w K mg base (L2.CX P w) 2 T.a_l_up_right T.f_l_up_right ["_law_ties", "_law_due", "_law_order_here", "_law_place", "_law_found"] (lift K S_l_up_right) := by
  refine okGX T.d_l_up_right.fn sc_l_up_right (fun vs H Q E h => lift_len len_l_up_right h) (fun cdv A outer s H vs Q E hg hr h => ⟨t_l_up_right K cn, ?_, lift_WsC (n := 5) (m := 5) T.xf len_l_up_right rfl ws_l_up_right h⟩)
  exact (pss_cons (ps_setLc (i := 5) (own := [("_law_high", 6)]) (g := (gName 6)) (tt := (tTest (tOp (rInB K) (tTup (tCons (tVar 3) (tCons (tVar 6) tNil))) (tVar 1)))) rfl sc_l_up_right.nd rfl rfl (sw_true rfl rfl rfl (by decide +kernel)) (pi_any (pv 2)) (blkOk_by (own := [("_law_high", 6)]) (N := N_l_up_right) (sc := defScope s_l_up_right) (by decide +kernel)) (fun _ _ _ _ _ => (pg_name (i := 6) sc_l_up_right.nd rfl (.inl rfl))) (fun _ _ _ _ _ => (pts_one (pt_cmpR (op_inB hr.units) (pe_tup (pa_cons (pv 3) (pa_cons (pv 6) pa_nil))) (pv 1) (by rfl)))) (fun _ _ _ _ _ => (pv 6)))
      (pss_cons (ps_if (PW.pt (pw_or (pt_not (pt_tru (pe_callB call_isiB (by rfl) T.n_isinstance (by decide +kernel) (pa_cons (pv 4) (pa_cons (pe_bltn (v := .ty "list") (u := .type "list") (by rfl) T.n_list (by decide +kernel) rfl) pa_nil))) (fun _ => rfl))) (pw_or1 (pt_cmpR (op_neA hr.units) (pe_callB call_lenB (by rfl) T.n_len (by decide +kernel) (pa_cons (pv 4) pa_nil)) (pe_callB call_lenB (by rfl) T.n_len (by decide +kernel) (pa_cons (pv 5) pa_nil)) (nomark _))))) (pss_one (ps_ret pe_bl)) pss_nil)
      (pss_cons (ps_for psX rfl (pi_zip (by rfl) T.n_zip (pa_cons (pv 5) (pa_cons (pv 4) pa_nil))) (pg_seq rfl (pgs_cons (pg_name (i := 6) sc_l_up_right.nd rfl (.inl rfl)) (pgs_cons (pg_name (i := 7) sc_l_up_right.nd rfl (.inl rfl)) pgs_nil))) (pss_cons (ps_if (PW.pt (pw_or (pt_not (pt_tru (pe_callB call_isiB (by rfl) T.n_isinstance (by decide +kernel) (pa_cons (pv 7) (pa_cons (pe_bltn (v := .ty "tuple") (u := .type "tuple") (by rfl) T.n_tuple (by decide +kernel) rfl) pa_nil))) (fun _ => rfl))) (pw_or (pt_cmpR (op_neA hr.units) (pe_callB call_lenB (by rfl) T.n_len (by decide +kernel) (pa_cons (pv 7) pa_nil)) pe_int (nomark _)) (pw_or1 (pt_cmpR (op_neA hr.units) (pe_ix (ix_any hr.units) (pv 7) pe_int (fun _ _ => rfl)) (pv 6) (nomark _)))))) (pss_one (ps_ret pe_bl)) pss_nil)
      (pss_cons (ps_asg (pe_slice sl_tup (pv 7) (po_some pe_int) po_none) (pg_seq rfl (pgs_cons (pg_name (i := 8) sc_l_up_right.nd rfl (.inl rfl)) (pgs_cons (pg_name (i := 9) sc_l_up_right.nd rfl (.inl rfl)) pgs_nil))))
      (pss_cons (ps_if (PW.pt (pw_or (pt_cmpR (op_neA hr.units) (pe_callB (call_reprA hg hr.units) (by rfl) T.n_repr (by decide +kernel) (pa_cons (pv 8) pa_nil)) (pe_callB (call_reprA hg hr.units) (by rfl) T.n_repr (by decide +kernel) (pa_cons (pe_ix (ix_any hr.units) (pv 1) (pe_tup (pa_cons (pv 3) (pa_cons (pv 6) pa_nil))) (fun _ _ => rfl)) pa_nil)) (nomark _)) (pw_or1 (pt_cmpR (op_neA hr.units) (pe_cmpR op_isNA (pv 9) pe_non (nomark _)) (pe_callG G_l_tied hg (hr.mono (by decide)) (by rfl) T.d_l_tied.g T.d_l_tied.fn.kp T.d_l_tied.b .nil passL (pa_cons (pv 0) (pa_cons (pv 3) (pa_cons (pv 6) (pa_cons (pv 8) pa_nil))))) (nomark _))))) (pss_one (ps_ret pe_bl)) pss_nil)
      (pss_one (ps_if (pt_cmpR op_notNA (pv 9) pe_non (nomark _)) (pss_cons (ps_if (PW.pt (pw_or (pt_cmpR (op_notInB hr.units) (pe_tup (pa_cons (pv 9) (pa_cons (pv 3) pa_nil))) (pv 1) (by rfl)) (pw_or1 (pt_cmpR (op_notInB hr.units) (pe_tup (pa_cons (pv 9) (pa_cons (pv 6) pa_nil))) (pv 1) (by rfl))))) (pss_one (ps_ret pe_bl)) pss_nil)
      (pss_one (ps_if (pt_cmpR (op_neA hr.units) (pe_op op_addA (pe_ix (ix_any hr.units) (pv 1) (pe_tup (pa_cons (pv 9) (pa_cons (pv 3) pa_nil))) (fun _ _ => rfl)) (pe_ix (ix_any hr.units) (pv 1) (pe_tup (pa_cons (pv 9) (pa_cons (pv 6) pa_nil))) (fun _ _ => rfl))) (pv 8) (nomark _)) (pss_one (ps_ret pe_bl)) pss_nil))) pss_nil))))))
      (pss_one (ps_ret pe_bl)))))
theorem ok_l_right (T : Txt K mg cn) (G_Heights_bridges : FnG P w K mg base (L2.CX P w) 2 T.a_Heights_bridges T.f_Heights_bridges ["self"] (lift K (S_Heights_bridges cn))) (G_Heights_order : FnG P w K mg base (L2.CX P w) 1 T.a_Heights_order T.f_Heights_order ["self"] (lift K (S_Heights_order cn))) (G_Heights_up : FnG P w K mg base (L2.CX P w) 4 T.a_Heights_up T.f_Heights_up ["self", "place"] (liftX K cn (S_Heights_up cn))) (G_l_bridges : FnG P w K mg base (L2.CX P w) 1 T.a_l_bridges T.f_l_bridges ["_law_ties", "_law_order_here"] (lift K S_l_bridges)) (G_l_up_right : FnG P w K mg base (L2.CX P w) 2 T.a_l_up_right T.f_l_up_right ["_law_ties", "_law_due", "_law_order_here", "_law_place", "_law_found"] (lift K S_l_up_right)) : FnG P w K mg base (L2.CX P w) 5 T.a_l_right T.f_l_right ["_law_heights", "_law_names_here", "_law_ties", "_law_order_here"] (lift K (S_l_right cn)) := by
  refine okGX T.d_l_right.fn sc_l_right (fun vs H Q E h => lift_len (len_l_right cn) h) (fun cdv A outer s H vs Q E hg hr h => ⟨t_l_right K cn, ?_, lift_WsC (n := 4) (m := 8) (Fx := fun K c => XF K c ∧ c = cn) ⟨T.xf, rfl⟩ (len_l_right cn) rfl (ws_l_right cn) h⟩)
  exact (pss_cons (ps_set (i := 4) sc_l_right.nd rfl (.inr rfl) (pe_callG G_l_bridges hg (hr.mono (by decide)) (by rfl) T.d_l_bridges.g T.d_l_bridges.fn.kp T.d_l_bridges.b .nil passL (pa_cons (pv 2) (pa_cons (pv 3) pa_nil))))
      (pss_cons (ps_set (i := 5) sc_l_right.nd rfl (.inl rfl) (pe_lst pa_nil))
      (pss_cons (ps_for psX rfl (pi_any (pv 3)) (pg_name (i := 6) sc_l_right.nd rfl (.inr rfl)) (pss_one (ps_expr (pe_bm PySem.F.plainAttrs_list PySem.F.slot_list_extend PySem.F.type_list_extend mt_extendA (pv 5) (pa_cons (pe_lc (own := [("_law_high", 7)]) (g := (gName 7)) (tt := (tTest (tOp (rInB K) (tTup (tCons (tVar 6) (tCons (tVar 7) tNil))) (tVar 4)))) rfl sc_l_right.nd (pi_any (pv 3)) (blkOk_by (own := [("_law_high", 7)]) (N := N_l_right) (sc := defScope s_l_right) (by decide +kernel)) (fun _ _ _ _ _ => (pg_name (i := 7) sc_l_right.nd rfl (.inl rfl))) (fun _ _ _ _ _ => (pts_one (pt_cmpR (op_inB hr.units) (pe_tup (pa_cons (pv 6) (pa_cons (pv 7) pa_nil))) (pv 4) (by rfl)))) (fun _ _ _ _ _ => (pe_tup (pa_cons (pv 6) (pa_cons (pv 7) (pa_cons (pe_ix (ix_any hr.units) (pv 4) (pe_tup (pa_cons (pv 6) (pa_cons (pv 7) pa_nil))) (fun _ _ => rfl)) pa_nil)))))) pa_nil)))))
      (pss_cons (ps_set (i := 8) sc_l_right.nd rfl (.inl rfl) pe_dnewK)
      (pss_cons (ps_for psX rfl (pi_range1 (by rfl) T.n_range (pa_cons pe_int pa_nil)) (pg_name (i := 9) sc_l_right.nd rfl (.inl rfl)) (pss_cons (ps_if (pt_cmpR (op_neA hr.units) (pe_callB (call_reprA hg hr.units) (by rfl) T.n_repr (by decide +kernel) (pa_cons (pe_methSG0 (pv 0) T.cls_Heights T.d_Heights_order.m G_Heights_order hg (hr.mono (by decide)) T.d_Heights_order.b (fun σ => passLA σ)) pa_nil)) (pe_callB (call_reprA hg hr.units) (by rfl) T.n_repr (by decide +kernel) (pa_cons (pv 3) pa_nil)) (nomark _)) (pss_one (ps_ret pe_bl)) pss_nil)
      (pss_cons (ps_for psX rfl (pi_any (pv 1)) (pg_name (i := 10) sc_l_right.nd rfl (.inl rfl)) (pss_cons (ps_set (i := 11) sc_l_right.nd rfl (.inl rfl) (pe_methSG (pv 0) T.cls_Heights T.d_Heights_up.m G_Heights_up hg (hr.mono (by decide)) T.d_Heights_up.b (fun σ => passLA σ) (pa_cons (pv 10) pa_nil)))
      (pss_cons (ps_if (pt_not (pt_tru (pe_callG G_l_up_right hg (hr.mono (by decide)) (by rfl) T.d_l_up_right.g T.d_l_up_right.fn.kp T.d_l_up_right.b .nil passL (pa_cons (pv 2) (pa_cons (pv 4) (pa_cons (pv 3) (pa_cons (pv 10) (pa_cons (pv 11) pa_nil)))))) (fun _ => rfl))) (pss_one (ps_ret pe_bl)) pss_nil)
      (pss_cons (ps_if (pt_cmpR (op_neA hr.units) (pe_dsetd (pv 8) (pv 10) (pe_callB (call_reprA hg hr.units) (by rfl) T.n_repr (by decide +kernel) (pa_cons (pv 11) pa_nil)) ⟨by rfl, by rfl, by rfl, by rfl⟩) (pe_callB (call_reprA hg hr.units) (by rfl) T.n_repr (by decide +kernel) (pa_cons (pv 11) pa_nil)) (nomark _)) (pss_one (ps_ret pe_bl)) pss_nil)
      (pss_one (ps_expr (pe_bm0 PySem.F.plainAttrs_list PySem.F.slot_list_clear PySem.F.type_list_clear mt_clearA (pv 11))))))))
      (pss_cons (ps_set (i := 11) sc_l_right.nd rfl (.inl rfl) (pe_methSG0 (pv 0) T.cls_Heights T.d_Heights_bridges.m G_Heights_bridges hg (hr.mono (by decide)) T.d_Heights_bridges.b (fun σ => passLA σ)))
      (pss_cons (ps_if (pt_cmpR (op_neA hr.units) (pe_callB (call_reprA hg hr.units) (by rfl) T.n_repr (by decide +kernel) (pa_cons (pv 11) pa_nil)) (pe_callB (call_reprA hg hr.units) (by rfl) T.n_repr (by decide +kernel) (pa_cons (pv 5) pa_nil)) (nomark _)) (pss_one (ps_ret pe_bl)) pss_nil)
      (pss_cons (ps_expr (pe_bm PySem.F.plainAttrs_list PySem.F.slot_list_append PySem.F.type_list_append mt_appendA (pv 11) (pa_cons pe_int pa_nil)))
      (pss_one (ps_expr (pe_bm0 PySem.F.plainAttrs_list PySem.F.slot_list_clear PySem.F.type_list_clear mt_clearA (pe_methSG0 (pv 0) T.cls_Heights T.d_Heights_order.m G_Heights_order hg (hr.mono (by decide)) T.d_Heights_order.b (fun σ => passLA σ)))))))))))
      (pss_one (ps_ret pe_bl)))))))
theorem ok_law (T : Txt K mg cn) (G_Heights___init__ : FnG P w K mg base (L2.CX P w) 4 T.a_Heights___init__ T.f_Heights___init__ ["self", "web", "order"] (liftX K cn (S_Heights___init__ cn))) (G_Web___init__ : FnG P w K mg base (L2.CX P w) 5 T.a_Web___init__ T.f_Web___init__ ["self", "places", "ties"] (liftX K cn (S_Web___init__ cn))) (G_l_box : FnG P w K mg base (L2.CX P w) 1 T.a_l_box T.f_l_box ["_law_cell_here"] (lift K S_l_box)) (G_l_cell : FnG P w K mg base (L2.CX P w) 1 T.a_l_cell T.f_l_cell ["_law_script", "_law_k"] (lift K S_l_cell)) (G_l_drawn : FnG P w K mg base (L2.CX P w) 4 T.a_l_drawn T.f_l_drawn ["_law_box_here", "_law_most"] (lift K S_l_drawn)) (G_l_order : FnG P w K mg base (L2.CX P w) 3 T.a_l_order T.f_l_order ["_law_box_here", "_law_names_here"] (lift K S_l_order)) (G_l_right : FnG P w K mg base (L2.CX P w) 5 T.a_l_right T.f_l_right ["_law_heights", "_law_names_here", "_law_ties", "_law_order_here"] (lift K (S_l_right cn))) : FnG P w K mg base (L2.CX P w) 7 T.a_law T.f_law ["_law_script"] (lift K S_law) := by
  refine okGX T.d_law.fn sc_law (fun vs H Q E h => lift_len len_law h) (fun cdv A outer s H vs Q E hg hr h => ⟨t_law K cn, ?_, lift_WsC (n := 1) (m := 10) T.xf len_law rfl ws_law h⟩)
  exact (pss_cons (ps_for psX rfl (pi_range1 (by rfl) T.n_range (pa_cons (pe_callB (call_maxA rfl) (by rfl) T.n_max (by decide +kernel) (pa_cons pe_int (pa_cons (pe_callB (call_minA rfl) (by rfl) T.n_min (by decide +kernel) (pa_cons (pe_callB call_lenB (by rfl) T.n_len (by decide +kernel) (pa_cons (pv 0) pa_nil)) (pa_cons pe_int pa_nil))) pa_nil))) pa_nil)) (pg_name (i := 1) sc_law.nd rfl (.inl rfl)) (pss_cons (ps_set (i := 2) sc_law.nd rfl (.inl rfl) (pe_callG G_l_box hg (hr.mono (by decide)) (by rfl) T.d_l_box.g T.d_l_box.fn.kp T.d_l_box.b .nil passL (pa_cons (pe_callG G_l_cell hg (hr.mono (by decide)) (by rfl) T.d_l_cell.g T.d_l_cell.fn.kp T.d_l_cell.b .nil passL (pa_cons (pv 0) (pa_cons (pv 1) pa_nil))) pa_nil)))
      (pss_cons (ps_asg (pe_callG G_l_drawn hg (hr.mono (by decide)) (by rfl) T.d_l_drawn.g T.d_l_drawn.fn.kp T.d_l_drawn.b .nil passL (pa_cons (pv 2) (pa_cons pe_int pa_nil))) (pg_seq rfl (pgs_cons (pg_name (i := 3) sc_law.nd rfl (.inl rfl)) (pgs_cons (pg_name (i := 4) sc_law.nd rfl (.inl rfl)) pgs_nil))))
      (pss_cons (ps_set (i := 5) sc_law.nd rfl (.inl rfl) (pe_makeSG T.mk_Web G_Web___init__ hg (hr.mono (by decide)) (by rfl) T.g_Web T.d_Web___init__.b (fun σ => passLA σ) (pa_cons (pv 3) (pa_cons (pv 4) pa_nil))))
      (pss_cons (ps_par (i := 6) (j := 7) rfl sc_law.nd rfl rfl (by decide) rfl rfl (pa_cons (pe_callG G_l_order hg (hr.mono (by decide)) (by rfl) T.d_l_order.g T.d_l_order.fn.kp T.d_l_order.b .nil passL (pa_cons (pv 2) (pa_cons (pv 3) pa_nil))) (pa_cons (pe_callG G_l_order hg (hr.mono (by decide)) (by rfl) T.d_l_order.g T.d_l_order.fn.kp T.d_l_order.b .nil passL (pa_cons (pv 2) (pa_cons (pv 3) pa_nil))) pa_nil)) (by rfl))
      (pss_cons (ps_set (i := 8) sc_law.nd rfl (.inl rfl) (pe_callTy (call_listB rfl) (by rfl) T.n_list (by decide +kernel) (pa_cons (pv 6) pa_nil)))
      (pss_cons (ps_set (i := 9) sc_law.nd rfl (.inl rfl) (pe_makeSG T.mk_Heights G_Heights___init__ hg (hr.mono (by decide)) (by rfl) T.g_Heights T.d_Heights___init__.b (fun σ => passLA σ) (pa_cons (pv 5) (pa_cons (pv 8) pa_nil))))
      (pss_cons (ps_set (i := 10) sc_law.nd rfl (.inl rfl) (pe_makeSG T.mk_Heights G_Heights___init__ hg (hr.mono (by decide)) (by rfl) T.g_Heights T.d_Heights___init__.b (fun σ => passLA σ) (pa_cons (pv 5) (pa_cons (pe_callTy call_tupA (by rfl) T.n_tuple (by decide +kernel) (pa_cons (pv 7) pa_nil)) pa_nil))))
      (pss_cons (ps_expr (pe_bm0 PySem.F.plainAttrs_list PySem.F.slot_list_reverse PySem.F.type_list_reverse mt_reverseA (pv 8)))
      (pss_cons (ps_if (PW.pt (pw_or (pt_not (pt_tru (pe_callG G_l_right hg (hr.mono (by decide)) (by rfl) T.d_l_right.g T.d_l_right.fn.kp T.d_l_right.b .nil passL (pa_cons (pv 9) (pa_cons (pv 3) (pa_cons (pv 4) (pa_cons (pv 6) pa_nil))))) (fun _ => rfl))) (pw_or1 (pt_not (pt_tru (pe_callG G_l_right hg (hr.mono (by decide)) (by rfl) T.d_l_right.g T.d_l_right.fn.kp T.d_l_right.b .nil passL (pa_cons (pv 10) (pa_cons (pv 3) (pa_cons (pv 4) (pa_cons (pv 7) pa_nil))))) (fun _ => rfl)))))) (pss_one (ps_ret pe_bl)) pss_nil)
      (pss_one (ps_if (pt_not (pt_tru (pe_callG G_l_right hg (hr.mono (by decide)) (by rfl) T.d_l_right.g T.d_l_right.fn.kp T.d_l_right.b .nil passL (pa_cons (pv 9) (pa_cons (pv 3) (pa_cons (pv 4) (pa_cons (pv 6) pa_nil))))) (fun _ => rfl))) (pss_one (ps_ret pe_bl)) pss_nil))))))))))))
      (pss_one (ps_ret pe_bl)))
theorem ok_all (T : Txt K mg cn) : FnG P w K mg base (L2.CX P w) 7 T.a_law T.f_law ["_law_script"] (lift K S_law) := by
  have G_Web_places : FnG P w K mg base (L2.CX P w) 1 T.a_Web_places T.f_Web_places ["self"] (lift K (S_Web_places cn)) := ok_Web_places T
  have G_need_place : FnG P w K mg base (L2.CX P w) 3 T.a_need_place T.f_need_place ["web", "thing"] (liftX K cn (S_need_place cn)) := ok_need_place T G_Web_places
  have G_Web_many : FnG P w K mg base (L2.CX P w) 1 T.a_Web_many T.f_Web_many ["self"] (lift K (S_Web_many cn)) := ok_Web_many T
  have G_need_order : FnG P w K mg base (L2.CX P w) 3 T.a_need_order T.f_need_order ["web", "thing"] (liftX K cn (S_need_order cn)) := ok_need_order T G_Web_many G_Web_places
  have G_Web_ties : FnG P w K mg base (L2.CX P w) 1 T.a_Web_ties T.f_Web_ties ["self"] (lift K (S_Web_ties cn)) := ok_Web_ties T
  have G_linked : FnG P w K mg base (L2.CX P w) 2 T.a_linked T.f_linked ["web"] (lift K (S_linked cn)) := ok_linked T G_Web_ties
  have G_bridged : FnG P w K mg base (L2.CX P w) 3 T.a_bridged T.f_bridged ["web", "order"] (lift K (S_bridged cn)) := ok_bridged T G_linked
  have G_Heights___init__ : FnG P w K mg base (L2.CX P w) 4 T.a_Heights___init__ T.f_Heights___init__ ["self", "web", "order"] (liftX K cn (S_Heights___init__ cn)) := ok_Heights___init__ T G_bridged G_need_order
  have G_Heights_order : FnG P w K mg base (L2.CX P w) 1 T.a_Heights_order T.f_Heights_order ["self"] (lift K (S_Heights_order cn)) := ok_Heights_order T
  have G_Heights_above : FnG P w K mg base (L2.CX P w) 1 T.a_Heights_above T.f_Heights_above ["self", "place"] (lift K (S_Heights_above cn)) := ok_Heights_above T
  have G_Heights_up : FnG P w K mg base (L2.CX P w) 4 T.a_Heights_up T.f_Heights_up ["self", "place"] (liftX K cn (S_Heights_up cn)) := ok_Heights_up T G_Heights_above G_need_place
  have G_Heights_bridges : FnG P w K mg base (L2.CX P w) 2 T.a_Heights_bridges T.f_Heights_bridges ["self"] (lift K (S_Heights_bridges cn)) := ok_Heights_bridges T G_Heights_above
  have G_is_whole : FnG P w K mg base (L2.CX P w) 1 T.a_is_whole T.f_is_whole ["thing", "low", "high"] (lift K S_is_whole) := ok_is_whole T
  have G_is_name : FnG P w K mg base (L2.CX P w) 1 T.a_is_name T.f_is_name ["thing"] (lift K S_is_name) := ok_is_name T
  have G_spots_of : FnG P w K mg base (L2.CX P w) 3 T.a_spots_of T.f_spots_of ["places"] (liftX K cn S_spots_of) := ok_spots_of T G_is_name
  have G_spot_of : FnG P w K mg base (L2.CX P w) 3 T.a_spot_of T.f_spot_of ["spots", "place"] (liftX K cn S_spot_of) := ok_spot_of T G_is_name
  have G_pair_of : FnG P w K mg base (L2.CX P w) 1 T.a_pair_of T.f_pair_of ["here", "there"] (lift K S_pair_of) := ok_pair_of T
  have G_lengths_of : FnG P w K mg base (L2.CX P w) 4 T.a_lengths_of T.f_lengths_of ["spots", "ties"] (liftX K cn S_lengths_of) := ok_lengths_of T G_is_whole G_pair_of G_spot_of
  have G_Web___init__ : FnG P w K mg base (L2.CX P w) 5 T.a_Web___init__ T.f_Web___init__ ["self", "places", "ties"] (liftX K cn (S_Web___init__ cn)) := ok_Web___init__ T G_lengths_of G_spots_of
  have G_l_cell : FnG P w K mg base (L2.CX P w) 1 T.a_l_cell T.f_l_cell ["_law_script", "_law_k"] (lift K S_l_cell) := ok_l_cell T
  have G_l_box : FnG P w K mg base (L2.CX P w) 1 T.a_l_box T.f_l_box ["_law_cell_here"] (lift K S_l_box) := ok_l_box T
  have G_l_take : FnG P w K mg base (L2.CX P w) 1 T.a_l_take T.f_l_take ["_law_box_here", "_law_many"] (lift K S_l_take) := ok_l_take T
  have G_l_names : FnG P w K mg base (L2.CX P w) 2 T.a_l_names T.f_l_names ["_law_box_here", "_law_many"] (lift K S_l_names) := ok_l_names T G_l_take
  have G_l_is_tied : FnG P w K mg base (L2.CX P w) 2 T.a_l_is_tied T.f_l_is_tied ["_law_box_here", "_law_shape", "_law_k", "_law_j", "_law_near"] (lift K S_l_is_tied) := ok_l_is_tied T G_l_take
  have G_l_length : FnG P w K mg base (L2.CX P w) 2 T.a_l_length T.f_l_length ["_law_box_here", "_law_style"] (lift K S_l_length) := ok_l_length T G_l_take
  have G_l_turned : FnG P w K mg base (L2.CX P w) 2 T.a_l_turned T.f_l_turned ["_law_box_here", "_law_many"] (lift K S_l_turned) := ok_l_turned T G_l_take
  have G_l_named : FnG P w K mg base (L2.CX P w) 3 T.a_l_named T.f_l_named ["_law_box_here", "_law_ties", "_law_many"] (lift K S_l_named) := ok_l_named T G_l_names G_l_take G_l_turned
  have G_l_drawn : FnG P w K mg base (L2.CX P w) 4 T.a_l_drawn T.f_l_drawn ["_law_box_here", "_law_most"] (lift K S_l_drawn) := ok_l_drawn T G_l_is_tied G_l_length G_l_named G_l_take
  have G_l_order : FnG P w K mg base (L2.CX P w) 3 T.a_l_order T.f_l_order ["_law_box_here", "_law_names_here"] (lift K S_l_order) := ok_l_order T G_l_turned
  have G_l_bridges : FnG P w K mg base (L2.CX P w) 1 T.a_l_bridges T.f_l_bridges ["_law_ties", "_law_order_here"] (lift K S_l_bridges) := ok_l_bridges T
  have G_l_tied : FnG P w K mg base (L2.CX P w) 1 T.a_l_tied T.f_l_tied ["_law_ties", "_law_one", "_law_other", "_law_length_here"] (lift K S_l_tied) := ok_l_tied T
  have G_l_up_right : FnG P w K mg base (L2.CX P w) 2 T.a_l_up_right T.f_l_up_right ["_law_ties", "_law_due", "_law_order_here", "_law_place", "_law_found"] (lift K S_l_up_right) := ok_l_up_right T G_l_tied
  have G_l_right : FnG P w K mg base (L2.CX P w) 5 T.a_l_right T.f_l_right ["_law_heights", "_law_names_here", "_law_ties", "_law_order_here"] (lift K (S_l_right cn)) := ok_l_right T G_Heights_bridges G_Heights_order G_Heights_up G_l_bridges G_l_up_right
  have G_law : FnG P w K mg base (L2.CX P w) 7 T.a_law T.f_law ["_law_script"] (lift K S_law) := ok_law T G_Heights___init__ G_Web___init__ G_l_box G_l_cell G_l_drawn G_l_order G_l_right
  exact G_law
end
theorem all_mk {l : PySem.W.OpenLaw} {w : World} {K : PySem.W.Frag} {h : Heap} {mg : Str → Option Value} {fa : Addr} (X : K.In h) (G : h.Ns mainGlobals mg) (hfa : mg "law" = some (.ref fa))
    {od1 an1 od2 an2 od3 an3 od4 an4 od5 an5 od6 an6 od7 an7 od8 an8 od9 an9 od10 an10 od11 an11 od12 an12 od13 an13 od14 an14 od15 an15 od16 an16 od17 an17 od18 an18 od19 an19 od20 an20 od21 an21 od22 an22 od23 an23 od24 an24 od25 an25 od26 an26 od27 an27 od28 an28 od29 an29 od30 an30 od31 an31 od32 an32 od33 an33 od34 an34 : Option Addr}
    {sl1 sl2 sl3 sl4 sl5 sl6 sl7 sl8 sl9 sl10 sl11 sl12 sl13 sl14 sl15 sl16 sl17 sl18 sl19 sl20 sl21 sl22 sl23 sl24 sl25 sl26 sl27 sl28 sl29 sl30 sl31 sl32 sl33 sl34 : Array (Option Value)}
    {oc1 kV1 dc1 pm1 cd1 ct1 oc2 kV2 dc2 pm2 cd2 ct2 oc3 kV3 dc3 pm3 cd3 ct3 oc4 kV4 dc4 pm4 cd4 ct4 oc5 kV5 dc5 pm5 cd5 ct5 oc6 kV6 dc6 pm6 cd6 ct6 oc7 kV7 dc7 pm7 cd7 ct7 oc8 kV8 dc8 pm8 cd8 ct8 oc9 kV9 dc9 pm9 cd9 ct9 oc10 kV10 dc10 pm10 cd10 ct10 oc11 kV11 dc11 pm11 cd11 ct11 oc12 kV12 dc12 pm12 cd12 ct12 oc13 kV13 dc13 pm13 cd13 ct13 oc14 kV14 dc14 pm14 cd14 ct14 oc15 kV15 dc15 pm15 cd15 ct15 oc16 kV16 dc16 pm16 cd16 ct16 oc17 kV17 dc17 pm17 cd17 ct17 oc18 kV18 dc18 pm18 cd18 ct18 oc19 kV19 dc19 pm19 cd19 ct19 oc20 kV20 dc20 pm20 cd20 ct20 oc21 kV21 dc21 pm21 cd21 ct21 oc22 kV22 dc22 pm22 cd22 ct22 oc23 kV23 dc23 pm23 cd23 ct23 oc24 kV24 dc24 pm24 cd24 ct24 oc25 kV25 dc25 pm25 cd25 ct25 oc26 kV26 dc26 pm26 cd26 ct26 oc27 kV27 dc27 pm27 cd27 ct27 oc28 kV28 dc28 pm28 cd28 ct28 oc29 kV29 dc29 pm29 cd29 ct29 oc30 kV30 dc30 pm30 cd30 ct30 oc31 kV31 dc31 pm31 cd31 ct31 oc32 kV32 dc32 pm32 cd32 ct32 oc33 kV33 dc33 pm33 cd33 ct33 oc34 kV34 dc34 pm34 cd34 ct34 : Value}
    {f1 f2 f3 f4 f5 f6 f7 f8 f9 f10 f11 f12 f13 f14 f15 f16 f17 f18 f19 f20 f21 f22 f23 f24 f25 f26 f27 f28 f29 f30 f31 f32 f33 f34 : Addr}
    {tk_LETTERS tk_MOST_LENGTH tk_MOST_PLACES tk_MOST_TIES : Tok}
    {C10 : Addr}
    {C11 : Addr}
    {CB : Addr}
    {C0 fI0 N0 : Addr} {nm0 q0 : Str} {bs0 bm0 sub0 : List Value} {sn0 : List Str} {ab0 : Bool} {col0 : Option Bool} {dd0 od_0 an_0 : Option Addr} {k0_0 k1_0 k2_0 k3_0 k5_0 : Option Value} {oc_0 kV_0 dc_0 pm_0 cd_0 ct_0 : Value} {sl_0 : Array (Option Value)}
    {C1 fI1 N1 : Addr} {nm1 q1 : Str} {bs1 bm1 sub1 : List Value} {sn1 : List Str} {ab1 : Bool} {col1 : Option Bool} {dd1 od_1 an_1 : Option Addr} {k0_1 k1_1 k2_1 k3_1 k5_1 : Option Value} {oc_1 kV_1 dc_1 pm_1 cd_1 ct_1 : Value} {sl_1 : Array (Option Value)}
    {C2 fI2 N2 : Addr} {nm2 q2 : Str} {bs2 bm2 sub2 : List Value} {sn2 : List Str} {ab2 : Bool} {col2 : Option Bool} {dd2 od_2 an_2 : Option Addr} {k0_2 k1_2 k2_2 k3_2 k5_2 : Option Value} {oc_2 kV_2 dc_2 pm_2 cd_2 ct_2 : Value} {sl_2 : Array (Option Value)}
    {C3 fI3 N3 : Addr} {nm3 q3 : Str} {bs3 bm3 sub3 : List Value} {sn3 : List Str} {ab3 : Bool} {col3 : Option Bool} {dd3 od_3 an_3 : Option Addr} {k0_3 k1_3 k2_3 k3_3 k5_3 : Option Value} {oc_3 kV_3 dc_3 pm_3 cd_3 ct_3 : Value} {sl_3 : Array (Option Value)}
    {C4 fI4 N4 : Addr} {nm4 q4 : Str} {bs4 bm4 sub4 : List Value} {sn4 : List Str} {ab4 : Bool} {col4 : Option Bool} {dd4 od_4 an_4 : Option Addr} {k0_4 k1_4 k2_4 k3_4 k5_4 : Option Value} {oc_4 kV_4 dc_4 pm_4 cd_4 ct_4 : Value} {sl_4 : Array (Option Value)}
    {C5 fI5 N5 : Addr} {nm5 q5 : Str} {bs5 bm5 sub5 : List Value} {sn5 : List Str} {ab5 : Bool} {col5 : Option Bool} {dd5 od_5 an_5 : Option Addr} {k0_5 k1_5 k2_5 k3_5 k5_5 : Option Value} {oc_5 kV_5 dc_5 pm_5 cd_5 ct_5 : Value} {sl_5 : Array (Option Value)}
    {C6 fI6 N6 : Addr} {nm6 q6 : Str} {bs6 bm6 sub6 : List Value} {sn6 : List Str} {ab6 : Bool} {col6 : Option Bool} {dd6 od_6 an_6 : Option Addr} {k0_6 k1_6 k2_6 k3_6 k5_6 : Option Value} {oc_6 kV_6 dc_6 pm_6 cd_6 ct_6 : Value} {sl_6 : Array (Option Value)}
    {C7 fI7 N7 : Addr} {nm7 q7 : Str} {bs7 bm7 sub7 : List Value} {sn7 : List Str} {ab7 : Bool} {col7 : Option Bool} {dd7 od_7 an_7 : Option Addr} {k0_7 k1_7 k2_7 k3_7 k5_7 : Option Value} {oc_7 kV_7 dc_7 pm_7 cd_7 ct_7 : Value} {sl_7 : Array (Option Value)}
    {C8 fI8 N8 : Addr} {nm8 q8 : Str} {bs8 bm8 sub8 : List Value} {sn8 : List Str} {ab8 : Bool} {col8 : Option Bool} {dd8 od_8 an_8 : Option Addr} {k0_8 k1_8 k2_8 k3_8 k5_8 : Option Value} {oc_8 kV_8 dc_8 pm_8 cd_8 ct_8 : Value} {sl_8 : Array (Option Value)}
    {C9 fI9 N9 : Addr} {nm9 q9 : Str} {bs9 bm9 sub9 : List Value} {sn9 : List Str} {ab9 : Bool} {col9 : Option Bool} {dd9 od_9 an_9 : Option Addr} {k0_9 k1_9 k2_9 k3_9 k5_9 : Option Value} {oc_9 kV_9 dc_9 pm_9 cd_9 ct_9 : Value} {sl_9 : Array (Option Value)}
    (yc10 : PySem.W.nsIn K mainGlobals "Heights" = some (some (.ref C10)))
    (yp10 : PySem.W.plainGet K C10 Str.empty = true)
    (yh10 : PySem.W.hasDictIn K C10 = true)
    (yo10 : PySem.W.plainOver K C10 = true)
    (ys10 : PySem.W.findIn K (.ref C10) "__setattr__" = some (some (.builtin "object.__setattr__")))
    (ym10 : PySem.W.makesIn K C10 = true)
    (yk10 : PySem.W.keepIn K (.ref C10) = true)
    (ynhigh_web_10 : PySem.W.findIn K (.ref C10) "high_web" = some none)
    (ynclimbed_10 : PySem.W.findIn K (.ref C10) "climbed" = some none)
    (ynlinks_10 : PySem.W.findIn K (.ref C10) "links" = some none)
    (yc11 : PySem.W.nsIn K mainGlobals "Web" = some (some (.ref C11)))
    (yp11 : PySem.W.plainGet K C11 Str.empty = true)
    (yh11 : PySem.W.hasDictIn K C11 = true)
    (yo11 : PySem.W.plainOver K C11 = true)
    (ys11 : PySem.W.findIn K (.ref C11) "__setattr__" = some (some (.builtin "object.__setattr__")))
    (ym11 : PySem.W.makesIn K C11 = true)
    (yk11 : PySem.W.keepIn K (.ref C11) = true)
    (ynspots_11 : PySem.W.findIn K (.ref C11) "spots" = some none)
    (ynnames_11 : PySem.W.findIn K (.ref C11) "names" = some none)
    (ynlengths_11 : PySem.W.findIn K (.ref C11) "lengths" = some none)
    (a1 : PySem.W.findIn K (.ref C11) "places" = some (some (.ref f1))) (y1 : PySem.W.isFn K (.ref f1) = true)
    (l1 : K.lookup f1 = some ⟨oc1, od1, .func (PySem.W.fnOf "places" "Web.places" (defArgs s_Web_places) (defBody s_Web_places) (defScope s_Web_places) .none kV1 dc1 pm1 an1 cd1 ct1), sl1⟩)
    (c1 : PySem.W.codeIn K cd1 "Web.places" = true) (k1 : PySem.W.keepIn K (.ref f1) = true)
    (a2 : PySem.W.nsIn K mainGlobals "need_place" = some (some (.ref f2)))
    (l2 : K.lookup f2 = some ⟨oc2, od2, .func (PySem.W.fnOf "need_place" "need_place" (defArgs s_need_place) (defBody s_need_place) (defScope s_need_place) .none kV2 dc2 pm2 an2 cd2 ct2), sl2⟩)
    (c2 : PySem.W.codeIn K cd2 "need_place" = true) (k2 : PySem.W.keepIn K (.ref f2) = true)
    (a3 : PySem.W.findIn K (.ref C11) "many" = some (some (.ref f3))) (y3 : PySem.W.isFn K (.ref f3) = true)
    (l3 : K.lookup f3 = some ⟨oc3, od3, .func (PySem.W.fnOf "many" "Web.many" (defArgs s_Web_many) (defBody s_Web_many) (defScope s_Web_many) .none kV3 dc3 pm3 an3 cd3 ct3), sl3⟩)
    (c3 : PySem.W.codeIn K cd3 "Web.many" = true) (k3 : PySem.W.keepIn K (.ref f3) = true)
    (a4 : PySem.W.nsIn K mainGlobals "need_order" = some (some (.ref f4)))
    (l4 : K.lookup f4 = some ⟨oc4, od4, .func (PySem.W.fnOf "need_order" "need_order" (defArgs s_need_order) (defBody s_need_order) (defScope s_need_order) .none kV4 dc4 pm4 an4 cd4 ct4), sl4⟩)
    (c4 : PySem.W.codeIn K cd4 "need_order" = true) (k4 : PySem.W.keepIn K (.ref f4) = true)
    (a5 : PySem.W.findIn K (.ref C11) "ties" = some (some (.ref f5))) (y5 : PySem.W.isFn K (.ref f5) = true)
    (l5 : K.lookup f5 = some ⟨oc5, od5, .func (PySem.W.fnOf "ties" "Web.ties" (defArgs s_Web_ties) (defBody s_Web_ties) (defScope s_Web_ties) .none kV5 dc5 pm5 an5 cd5 ct5), sl5⟩)
    (c5 : PySem.W.codeIn K cd5 "Web.ties" = true) (k5 : PySem.W.keepIn K (.ref f5) = true)
    (a6 : PySem.W.nsIn K mainGlobals "linked" = some (some (.ref f6)))
    (l6 : K.lookup f6 = some ⟨oc6, od6, .func (PySem.W.fnOf "linked" "linked" (defArgs s_linked) (defBody s_linked) (defScope s_linked) .none kV6 dc6 pm6 an6 cd6 ct6), sl6⟩)
    (c6 : PySem.W.codeIn K cd6 "linked" = true) (k6 : PySem.W.keepIn K (.ref f6) = true)
    (a7 : PySem.W.nsIn K mainGlobals "bridged" = some (some (.ref f7)))
    (l7 : K.lookup f7 = some ⟨oc7, od7, .func (PySem.W.fnOf "bridged" "bridged" (defArgs s_bridged) (defBody s_bridged) (defScope s_bridged) .none kV7 dc7 pm7 an7 cd7 ct7), sl7⟩)
    (c7 : PySem.W.codeIn K cd7 "bridged" = true) (k7 : PySem.W.keepIn K (.ref f7) = true)
    (a8 : PySem.W.findIn K (.ref C10) "__init__" = some (some (.ref f8))) (y8 : PySem.W.isFn K (.ref f8) = true)
    (l8 : K.lookup f8 = some ⟨oc8, od8, .func (PySem.W.fnOf "__init__" "Heights.__init__" (defArgs s_Heights___init__) (defBody s_Heights___init__) (defScope s_Heights___init__) .none kV8 dc8 pm8 an8 cd8 ct8), sl8⟩)
    (c8 : PySem.W.codeIn K cd8 "Heights.__init__" = true) (k8 : PySem.W.keepIn K (.ref f8) = true)
    (a9 : PySem.W.findIn K (.ref C10) "order" = some (some (.ref f9))) (y9 : PySem.W.isFn K (.ref f9) = true)
    (l9 : K.lookup f9 = some ⟨oc9, od9, .func (PySem.W.fnOf "order" "Heights.order" (defArgs s_Heights_order) (defBody s_Heights_order) (defScope s_Heights_order) .none kV9 dc9 pm9 an9 cd9 ct9), sl9⟩)
    (c9 : PySem.W.codeIn K cd9 "Heights.order" = true) (k9 : PySem.W.keepIn K (.ref f9) = true)
    (a10 : PySem.W.findIn K (.ref C10) "above" = some (some (.ref f10))) (y10 : PySem.W.isFn K (.ref f10) = true)
    (l10 : K.lookup f10 = some ⟨oc10, od10, .func (PySem.W.fnOf "above" "Heights.above" (defArgs s_Heights_above) (defBody s_Heights_above) (defScope s_Heights_above) .none kV10 dc10 pm10 an10 cd10 ct10), sl10⟩)
    (c10 : PySem.W.codeIn K cd10 "Heights.above" = true) (k10 : PySem.W.keepIn K (.ref f10) = true)
    (a11 : PySem.W.findIn K (.ref C10) "up" = some (some (.ref f11))) (y11 : PySem.W.isFn K (.ref f11) = true)
    (l11 : K.lookup f11 = some ⟨oc11, od11, .func (PySem.W.fnOf "up" "Heights.up" (defArgs s_Heights_up) (defBody s_Heights_up) (defScope s_Heights_up) .none kV11 dc11 pm11 an11 cd11 ct11), sl11⟩)
    (c11 : PySem.W.codeIn K cd11 "Heights.up" = true) (k11 : PySem.W.keepIn K (.ref f11) = true)
    (a12 : PySem.W.findIn K (.ref C10) "bridges" = some (some (.ref f12))) (y12 : PySem.W.isFn K (.ref f12) = true)
    (l12 : K.lookup f12 = some ⟨oc12, od12, .func (PySem.W.fnOf "bridges" "Heights.bridges" (defArgs s_Heights_bridges) (defBody s_Heights_bridges) (defScope s_Heights_bridges) .none kV12 dc12 pm12 an12 cd12 ct12), sl12⟩)
    (c12 : PySem.W.codeIn K cd12 "Heights.bridges" = true) (k12 : PySem.W.keepIn K (.ref f12) = true)
    (a13 : PySem.W.nsIn K mainGlobals "is_whole" = some (some (.ref f13)))
    (l13 : K.lookup f13 = some ⟨oc13, od13, .func (PySem.W.fnOf "is_whole" "is_whole" (defArgs s_is_whole) (defBody s_is_whole) (defScope s_is_whole) .none kV13 dc13 pm13 an13 cd13 ct13), sl13⟩)
    (c13 : PySem.W.codeIn K cd13 "is_whole" = true) (k13 : PySem.W.keepIn K (.ref f13) = true)
    (a14 : PySem.W.nsIn K mainGlobals "is_name" = some (some (.ref f14)))
    (l14 : K.lookup f14 = some ⟨oc14, od14, .func (PySem.W.fnOf "is_name" "is_name" (defArgs s_is_name) (defBody s_is_name) (defScope s_is_name) .none kV14 dc14 pm14 an14 cd14 ct14), sl14⟩)
    (c14 : PySem.W.codeIn K cd14 "is_name" = true) (k14 : PySem.W.keepIn K (.ref f14) = true)
    (a15 : PySem.W.nsIn K mainGlobals "spots_of" = some (some (.ref f15)))
    (l15 : K.lookup f15 = some ⟨oc15, od15, .func (PySem.W.fnOf "spots_of" "spots_of" (defArgs s_spots_of) (defBody s_spots_of) (defScope s_spots_of) .none kV15 dc15 pm15 an15 cd15 ct15), sl15⟩)
    (c15 : PySem.W.codeIn K cd15 "spots_of" = true) (k15 : PySem.W.keepIn K (.ref f15) = true)
    (a16 : PySem.W.nsIn K mainGlobals "spot_of" = some (some (.ref f16)))
    (l16 : K.lookup f16 = some ⟨oc16, od16, .func (PySem.W.fnOf "spot_of" "spot_of" (defArgs s_spot_of) (defBody s_spot_of) (defScope s_spot_of) .none kV16 dc16 pm16 an16 cd16 ct16), sl16⟩)
    (c16 : PySem.W.codeIn K cd16 "spot_of" = true) (k16 : PySem.W.keepIn K (.ref f16) = true)
    (a17 : PySem.W.nsIn K mainGlobals "pair_of" = some (some (.ref f17)))
    (l17 : K.lookup f17 = some ⟨oc17, od17, .func (PySem.W.fnOf "pair_of" "pair_of" (defArgs s_pair_of) (defBody s_pair_of) (defScope s_pair_of) .none kV17 dc17 pm17 an17 cd17 ct17), sl17⟩)
    (c17 : PySem.W.codeIn K cd17 "pair_of" = true) (k17 : PySem.W.keepIn K (.ref f17) = true)
    (a18 : PySem.W.nsIn K mainGlobals "lengths_of" = some (some (.ref f18)))
    (l18 : K.lookup f18 = some ⟨oc18, od18, .func (PySem.W.fnOf "lengths_of" "lengths_of" (defArgs s_lengths_of) (defBody s_lengths_of) (defScope s_lengths_of) .none kV18 dc18 pm18 an18 cd18 ct18), sl18⟩)
    (c18 : PySem.W.codeIn K cd18 "lengths_of" = true) (k18 : PySem.W.keepIn K (.ref f18) = true)
    (a19 : PySem.W.findIn K (.ref C11) "__init__" = some (some (.ref f19))) (y19 : PySem.W.isFn K (.ref f19) = true)
    (l19 : K.lookup f19 = some ⟨oc19, od19, .func (PySem.W.fnOf "__init__" "Web.__init__" (defArgs s_Web___init__) (defBody s_Web___init__) (defScope s_Web___init__) .none kV19 dc19 pm19 an19 cd19 ct19), sl19⟩)
    (c19 : PySem.W.codeIn K cd19 "Web.__init__" = true) (k19 : PySem.W.keepIn K (.ref f19) = true)
    (a20 : PySem.W.nsIn K mainGlobals "_law_cell" = some (some (.ref f20)))
    (l20 : K.lookup f20 = some ⟨oc20, od20, .func (PySem.W.fnOf "_law_cell" "_law_cell" (defArgs s_l_cell) (defBody s_l_cell) (defScope s_l_cell) .none kV20 dc20 pm20 an20 cd20 ct20), sl20⟩)
    (c20 : PySem.W.codeIn K cd20 "_law_cell" = true) (k20 : PySem.W.keepIn K (.ref f20) = true)
    (a21 : PySem.W.nsIn K mainGlobals "_law_box" = some (some (.ref f21)))
    (l21 : K.lookup f21 = some ⟨oc21, od21, .func (PySem.W.fnOf "_law_box" "_law_box" (defArgs s_l_box) (defBody s_l_box) (defScope s_l_box) .none kV21 dc21 pm21 an21 cd21 ct21), sl21⟩)
    (c21 : PySem.W.codeIn K cd21 "_law_box" = true) (k21 : PySem.W.keepIn K (.ref f21) = true)
    (a22 : PySem.W.nsIn K mainGlobals "_law_take" = some (some (.ref f22)))
    (l22 : K.lookup f22 = some ⟨oc22, od22, .func (PySem.W.fnOf "_law_take" "_law_take" (defArgs s_l_take) (defBody s_l_take) (defScope s_l_take) .none kV22 dc22 pm22 an22 cd22 ct22), sl22⟩)
    (c22 : PySem.W.codeIn K cd22 "_law_take" = true) (k22 : PySem.W.keepIn K (.ref f22) = true)
    (a23 : PySem.W.nsIn K mainGlobals "_law_names" = some (some (.ref f23)))
    (l23 : K.lookup f23 = some ⟨oc23, od23, .func (PySem.W.fnOf "_law_names" "_law_names" (defArgs s_l_names) (defBody s_l_names) (defScope s_l_names) .none kV23 dc23 pm23 an23 cd23 ct23), sl23⟩)
    (c23 : PySem.W.codeIn K cd23 "_law_names" = true) (k23 : PySem.W.keepIn K (.ref f23) = true)
    (a24 : PySem.W.nsIn K mainGlobals "_law_is_tied" = some (some (.ref f24)))
    (l24 : K.lookup f24 = some ⟨oc24, od24, .func (PySem.W.fnOf "_law_is_tied" "_law_is_tied" (defArgs s_l_is_tied) (defBody s_l_is_tied) (defScope s_l_is_tied) .none kV24 dc24 pm24 an24 cd24 ct24), sl24⟩)
    (c24 : PySem.W.codeIn K cd24 "_law_is_tied" = true) (k24 : PySem.W.keepIn K (.ref f24) = true)
    (a25 : PySem.W.nsIn K mainGlobals "_law_length" = some (some (.ref f25)))
    (l25 : K.lookup f25 = some ⟨oc25, od25, .func (PySem.W.fnOf "_law_length" "_law_length" (defArgs s_l_length) (defBody s_l_length) (defScope s_l_length) .none kV25 dc25 pm25 an25 cd25 ct25), sl25⟩)
    (c25 : PySem.W.codeIn K cd25 "_law_length" = true) (k25 : PySem.W.keepIn K (.ref f25) = true)
    (a26 : PySem.W.nsIn K mainGlobals "_law_turned" = some (some (.ref f26)))
    (l26 : K.lookup f26 = some ⟨oc26, od26, .func (PySem.W.fnOf "_law_turned" "_law_turned" (defArgs s_l_turned) (defBody s_l_turned) (defScope s_l_turned) .none kV26 dc26 pm26 an26 cd26 ct26), sl26⟩)
    (c26 : PySem.W.codeIn K cd26 "_law_turned" = true) (k26 : PySem.W.keepIn K (.ref f26) = true)
    (a27 : PySem.W.nsIn K mainGlobals "_law_named" = some (some (.ref f27)))
    (l27 : K.lookup f27 = some ⟨oc27, od27, .func (PySem.W.fnOf "_law_named" "_law_named" (defArgs s_l_named) (defBody s_l_named) (defScope s_l_named) .none kV27 dc27 pm27 an27 cd27 ct27), sl27⟩)
    (c27 : PySem.W.codeIn K cd27 "_law_named" = true) (k27 : PySem.W.keepIn K (.ref f27) = true)
    (a28 : PySem.W.nsIn K mainGlobals "_law_drawn" = some (some (.ref f28)))
    (l28 : K.lookup f28 = some ⟨oc28, od28, .func (PySem.W.fnOf "_law_drawn" "_law_drawn" (defArgs s_l_drawn) (defBody s_l_drawn) (defScope s_l_drawn) .none kV28 dc28 pm28 an28 cd28 ct28), sl28⟩)
    (c28 : PySem.W.codeIn K cd28 "_law_drawn" = true) (k28 : PySem.W.keepIn K (.ref f28) = true)
    (a29 : PySem.W.nsIn K mainGlobals "_law_order" = some (some (.ref f29)))
    (l29 : K.lookup f29 = some ⟨oc29, od29, .func (PySem.W.fnOf "_law_order" "_law_order" (defArgs s_l_order) (defBody s_l_order) (defScope s_l_order) .none kV29 dc29 pm29 an29 cd29 ct29), sl29⟩)
    (c29 : PySem.W.codeIn K cd29 "_law_order" = true) (k29 : PySem.W.keepIn K (.ref f29) = true)
    (a30 : PySem.W.nsIn K mainGlobals "_law_bridges" = some (some (.ref f30)))
    (l30 : K.lookup f30 = some ⟨oc30, od30, .func (PySem.W.fnOf "_law_bridges" "_law_bridges" (defArgs s_l_bridges) (defBody s_l_bridges) (defScope s_l_bridges) .none kV30 dc30 pm30 an30 cd30 ct30), sl30⟩)
    (c30 : PySem.W.codeIn K cd30 "_law_bridges" = true) (k30 : PySem.W.keepIn K (.ref f30) = true)
    (a31 : PySem.W.nsIn K mainGlobals "_law_tied" = some (some (.ref f31)))
    (l31 : K.lookup f31 = some ⟨oc31, od31, .func (PySem.W.fnOf "_law_tied" "_law_tied" (defArgs s_l_tied) (defBody s_l_tied) (defScope s_l_tied) .none kV31 dc31 pm31 an31 cd31 ct31), sl31⟩)
    (c31 : PySem.W.codeIn K cd31 "_law_tied" = true) (k31 : PySem.W.keepIn K (.ref f31) = true)
    (a32 : PySem.W.nsIn K mainGlobals "_law_up_right" = some (some (.ref f32)))
    (l32 : K.lookup f32 = some ⟨oc32, od32, .func (PySem.W.fnOf "_law_up_right" "_law_up_right" (defArgs s_l_up_right) (defBody s_l_up_right) (defScope s_l_up_right) .none kV32 dc32 pm32 an32 cd32 ct32), sl32⟩)
    (c32 : PySem.W.codeIn K cd32 "_law_up_right" = true) (k32 : PySem.W.keepIn K (.ref f32) = true)
    (a33 : PySem.W.nsIn K mainGlobals "_law_right" = some (some (.ref f33)))
    (l33 : K.lookup f33 = some ⟨oc33, od33, .func (PySem.W.fnOf "_law_right" "_law_right" (defArgs s_l_right) (defBody s_l_right) (defScope s_l_right) .none kV33 dc33 pm33 an33 cd33 ct33), sl33⟩)
    (c33 : PySem.W.codeIn K cd33 "_law_right" = true) (k33 : PySem.W.keepIn K (.ref f33) = true)
    (a34 : PySem.W.nsIn K mainGlobals "law" = some (some (.ref f34)))
    (l34 : K.lookup f34 = some ⟨oc34, od34, .func (PySem.W.fnOf "law" "law" (defArgs s_law) (defBody s_law) (defScope s_law) .none kV34 dc34 pm34 an34 cd34 ct34), sl34⟩)
    (c34 : PySem.W.codeIn K cd34 "law" = true) (k34 : PySem.W.keepIn K (.ref f34) = true)
    (aB : PySem.W.nsIn K mainGlobals "MarkError" = some (some (.ref CB))) (bB1 : PySem.W.readsIn K CB (.type "type") = true) (bB2 : PySem.W.specialIn K (.ref CB) "__getattribute__" = some (some (.builtin "type.__getattribute__"))) (bB3 : PySem.W.findCls K (.ref CB) (.type "type") "__init__" = some (.val (.builtin "ValueError.__init__"))) (bB4 : PySem.W.subIn K (.ref CB) (.type "BaseException") = some true) (bB5 : PySem.W.hasDictIn K CB = true) (bB6 : PySem.W.typeIn K (.ref CB) = some (.type "type"))
    (oN : PySem.W.specialIn K (.builtin "object.__class__") "__get__" = some (some (.builtin "getset_descriptor.__get__"))) (oT : PySem.W.takesIn K (.builtin "object.__class__") = some true)
    (xa0 : PySem.W.nsIn K mainGlobals "NoPlaces" = some (some (.ref C0)))
    (xl0 : K.lookup C0 = some (excClassObj nm0 q0 C0 N0 bs0 bm0 true sn0 sub0 ab0 col0 dd0 k0_0 k1_0 k2_0 k3_0 k5_0 "ValueError.__new__"))
    (xm0 : PySem.HandSPX.refsVE bm0 = true)
    (xs0 : PySem.W.findIn K (.ref C0) "__setattr__" = some (some (.builtin "object.__setattr__")))
    (xe0 : PySem.W.subIn K (.ref C0) (.type "BaseException") = some true)
    (xt0 : PySem.W.typeIn K (.ref C0) = some (.type "type"))
    (xk0 : PySem.W.keepIn K (.ref C0) = true)
    (xga0 : PySem.W.findIn K (.ref C0) "__getattribute__" = some (some (.builtin "BaseException.__getattribute__")))
    (xgg0 : PySem.W.findIn K (.ref C0) "__getattr__" = some none)
    (xhd0 : PySem.W.hasDictIn K C0 = true)
    (xat0 : PySem.W.findIn K (.ref C0) "__class__" = some (some (.builtin "object.__class__")))
    (xmo0 : PySem.W.mroIn K C0 (.type "object") = some true)
    (xi0 : PySem.W.findIn K (.ref C0) "__init__" = some (some (.ref fI0)))
    (xti0 : PySem.W.typeIn K (.ref fI0) = some (.type "function"))
    (xli0 : K.lookup fI0 = some ⟨oc_0, od_0, .func (PySem.W.fnOf "__init__" "NoPlaces.__init__" (defArgs s_NoPlaces) (defBody s_NoPlaces) (defScope s_NoPlaces) .none kV_0 dc_0 pm_0 an_0 cd_0 ct_0), sl_0⟩)
    (xci0 : PySem.W.codeIn K cd_0 "NoPlaces.__init__" = true)
    (xki0 : PySem.W.keepIn K (.ref fI0) = true)
    (xsb0 : PySem.W.subIn K (.ref C0) (.ref CB) = some true)
    (xfo_0_0 : PySem.W.findIn K (.ref C0) "found" = some none)
    (xa1 : PySem.W.nsIn K mainGlobals "NoName" = some (some (.ref C1)))
    (xl1 : K.lookup C1 = some (excClassObj nm1 q1 C1 N1 bs1 bm1 true sn1 sub1 ab1 col1 dd1 k0_1 k1_1 k2_1 k3_1 k5_1 "ValueError.__new__"))
    (xm1 : PySem.HandSPX.refsVE bm1 = true)
    (xs1 : PySem.W.findIn K (.ref C1) "__setattr__" = some (some (.builtin "object.__setattr__")))
    (xe1 : PySem.W.subIn K (.ref C1) (.type "BaseException") = some true)
    (xt1 : PySem.W.typeIn K (.ref C1) = some (.type "type"))
    (xk1 : PySem.W.keepIn K (.ref C1) = true)
    (xga1 : PySem.W.findIn K (.ref C1) "__getattribute__" = some (some (.builtin "BaseException.__getattribute__")))
    (xgg1 : PySem.W.findIn K (.ref C1) "__getattr__" = some none)
    (xhd1 : PySem.W.hasDictIn K C1 = true)
    (xat1 : PySem.W.findIn K (.ref C1) "__class__" = some (some (.builtin "object.__class__")))
    (xmo1 : PySem.W.mroIn K C1 (.type "object") = some true)
    (xi1 : PySem.W.findIn K (.ref C1) "__init__" = some (some (.ref fI1)))
    (xti1 : PySem.W.typeIn K (.ref fI1) = some (.type "function"))
    (xli1 : K.lookup fI1 = some ⟨oc_1, od_1, .func (PySem.W.fnOf "__init__" "NoName.__init__" (defArgs s_NoName) (defBody s_NoName) (defScope s_NoName) .none kV_1 dc_1 pm_1 an_1 cd_1 ct_1), sl_1⟩)
    (xci1 : PySem.W.codeIn K cd_1 "NoName.__init__" = true)
    (xki1 : PySem.W.keepIn K (.ref fI1) = true)
    (xsb1 : PySem.W.subIn K (.ref C1) (.ref CB) = some true)
    (xfo_0_1 : PySem.W.findIn K (.ref C1) "found" = some none)
    (xa2 : PySem.W.nsIn K mainGlobals "Twice" = some (some (.ref C2)))
    (xl2 : K.lookup C2 = some (excClassObj nm2 q2 C2 N2 bs2 bm2 true sn2 sub2 ab2 col2 dd2 k0_2 k1_2 k2_2 k3_2 k5_2 "ValueError.__new__"))
    (xm2 : PySem.HandSPX.refsVE bm2 = true)
    (xs2 : PySem.W.findIn K (.ref C2) "__setattr__" = some (some (.builtin "object.__setattr__")))
    (xe2 : PySem.W.subIn K (.ref C2) (.type "BaseException") = some true)
    (xt2 : PySem.W.typeIn K (.ref C2) = some (.type "type"))
    (xk2 : PySem.W.keepIn K (.ref C2) = true)
    (xga2 : PySem.W.findIn K (.ref C2) "__getattribute__" = some (some (.builtin "BaseException.__getattribute__")))
    (xgg2 : PySem.W.findIn K (.ref C2) "__getattr__" = some none)
    (xhd2 : PySem.W.hasDictIn K C2 = true)
    (xat2 : PySem.W.findIn K (.ref C2) "__class__" = some (some (.builtin "object.__class__")))
    (xmo2 : PySem.W.mroIn K C2 (.type "object") = some true)
    (xi2 : PySem.W.findIn K (.ref C2) "__init__" = some (some (.ref fI2)))
    (xti2 : PySem.W.typeIn K (.ref fI2) = some (.type "function"))
    (xli2 : K.lookup fI2 = some ⟨oc_2, od_2, .func (PySem.W.fnOf "__init__" "Twice.__init__" (defArgs s_Twice) (defBody s_Twice) (defScope s_Twice) .none kV_2 dc_2 pm_2 an_2 cd_2 ct_2), sl_2⟩)
    (xci2 : PySem.W.codeIn K cd_2 "Twice.__init__" = true)
    (xki2 : PySem.W.keepIn K (.ref fI2) = true)
    (xsb2 : PySem.W.subIn K (.ref C2) (.ref CB) = some true)
    (xfo_0_2 : PySem.W.findIn K (.ref C2) "found" = some none)
    (xa3 : PySem.W.nsIn K mainGlobals "NoTies" = some (some (.ref C3)))
    (xl3 : K.lookup C3 = some (excClassObj nm3 q3 C3 N3 bs3 bm3 true sn3 sub3 ab3 col3 dd3 k0_3 k1_3 k2_3 k3_3 k5_3 "ValueError.__new__"))
    (xm3 : PySem.HandSPX.refsVE bm3 = true)
    (xs3 : PySem.W.findIn K (.ref C3) "__setattr__" = some (some (.builtin "object.__setattr__")))
    (xe3 : PySem.W.subIn K (.ref C3) (.type "BaseException") = some true)
    (xt3 : PySem.W.typeIn K (.ref C3) = some (.type "type"))
    (xk3 : PySem.W.keepIn K (.ref C3) = true)
    (xga3 : PySem.W.findIn K (.ref C3) "__getattribute__" = some (some (.builtin "BaseException.__getattribute__")))
    (xgg3 : PySem.W.findIn K (.ref C3) "__getattr__" = some none)
    (xhd3 : PySem.W.hasDictIn K C3 = true)
    (xat3 : PySem.W.findIn K (.ref C3) "__class__" = some (some (.builtin "object.__class__")))
    (xmo3 : PySem.W.mroIn K C3 (.type "object") = some true)
    (xi3 : PySem.W.findIn K (.ref C3) "__init__" = some (some (.ref fI3)))
    (xti3 : PySem.W.typeIn K (.ref fI3) = some (.type "function"))
    (xli3 : K.lookup fI3 = some ⟨oc_3, od_3, .func (PySem.W.fnOf "__init__" "NoTies.__init__" (defArgs s_NoTies) (defBody s_NoTies) (defScope s_NoTies) .none kV_3 dc_3 pm_3 an_3 cd_3 ct_3), sl_3⟩)
    (xci3 : PySem.W.codeIn K cd_3 "NoTies.__init__" = true)
    (xki3 : PySem.W.keepIn K (.ref fI3) = true)
    (xsb3 : PySem.W.subIn K (.ref C3) (.ref CB) = some true)
    (xfo_0_3 : PySem.W.findIn K (.ref C3) "found" = some none)
    (xa4 : PySem.W.nsIn K mainGlobals "NoTie" = some (some (.ref C4)))
    (xl4 : K.lookup C4 = some (excClassObj nm4 q4 C4 N4 bs4 bm4 true sn4 sub4 ab4 col4 dd4 k0_4 k1_4 k2_4 k3_4 k5_4 "ValueError.__new__"))
    (xm4 : PySem.HandSPX.refsVE bm4 = true)
    (xs4 : PySem.W.findIn K (.ref C4) "__setattr__" = some (some (.builtin "object.__setattr__")))
    (xe4 : PySem.W.subIn K (.ref C4) (.type "BaseException") = some true)
    (xt4 : PySem.W.typeIn K (.ref C4) = some (.type "type"))
    (xk4 : PySem.W.keepIn K (.ref C4) = true)
    (xga4 : PySem.W.findIn K (.ref C4) "__getattribute__" = some (some (.builtin "BaseException.__getattribute__")))
    (xgg4 : PySem.W.findIn K (.ref C4) "__getattr__" = some none)
    (xhd4 : PySem.W.hasDictIn K C4 = true)
    (xat4 : PySem.W.findIn K (.ref C4) "__class__" = some (some (.builtin "object.__class__")))
    (xmo4 : PySem.W.mroIn K C4 (.type "object") = some true)
    (xi4 : PySem.W.findIn K (.ref C4) "__init__" = some (some (.ref fI4)))
    (xti4 : PySem.W.typeIn K (.ref fI4) = some (.type "function"))
    (xli4 : K.lookup fI4 = some ⟨oc_4, od_4, .func (PySem.W.fnOf "__init__" "NoTie.__init__" (defArgs s_NoTie) (defBody s_NoTie) (defScope s_NoTie) .none kV_4 dc_4 pm_4 an_4 cd_4 ct_4), sl_4⟩)
    (xci4 : PySem.W.codeIn K cd_4 "NoTie.__init__" = true)
    (xki4 : PySem.W.keepIn K (.ref fI4) = true)
    (xsb4 : PySem.W.subIn K (.ref C4) (.ref CB) = some true)
    (xfo_0_4 : PySem.W.findIn K (.ref C4) "found" = some none)
    (xa5 : PySem.W.nsIn K mainGlobals "NoPlace" = some (some (.ref C5)))
    (xl5 : K.lookup C5 = some (excClassObj nm5 q5 C5 N5 bs5 bm5 true sn5 sub5 ab5 col5 dd5 k0_5 k1_5 k2_5 k3_5 k5_5 "ValueError.__new__"))
    (xm5 : PySem.HandSPX.refsVE bm5 = true)
    (xs5 : PySem.W.findIn K (.ref C5) "__setattr__" = some (some (.builtin "object.__setattr__")))
    (xe5 : PySem.W.subIn K (.ref C5) (.type "BaseException") = some true)
    (xt5 : PySem.W.typeIn K (.ref C5) = some (.type "type"))
    (xk5 : PySem.W.keepIn K (.ref C5) = true)
    (xga5 : PySem.W.findIn K (.ref C5) "__getattribute__" = some (some (.builtin "BaseException.__getattribute__")))
    (xgg5 : PySem.W.findIn K (.ref C5) "__getattr__" = some none)
    (xhd5 : PySem.W.hasDictIn K C5 = true)
    (xat5 : PySem.W.findIn K (.ref C5) "__class__" = some (some (.builtin "object.__class__")))
    (xmo5 : PySem.W.mroIn K C5 (.type "object") = some true)
    (xi5 : PySem.W.findIn K (.ref C5) "__init__" = some (some (.ref fI5)))
    (xti5 : PySem.W.typeIn K (.ref fI5) = some (.type "function"))
    (xli5 : K.lookup fI5 = some ⟨oc_5, od_5, .func (PySem.W.fnOf "__init__" "NoPlace.__init__" (defArgs s_NoPlace) (defBody s_NoPlace) (defScope s_NoPlace) .none kV_5 dc_5 pm_5 an_5 cd_5 ct_5), sl_5⟩)
    (xci5 : PySem.W.codeIn K cd_5 "NoPlace.__init__" = true)
    (xki5 : PySem.W.keepIn K (.ref fI5) = true)
    (xsb5 : PySem.W.subIn K (.ref C5) (.ref CB) = some true)
    (xfo_0_5 : PySem.W.findIn K (.ref C5) "found" = some none)
    (xa6 : PySem.W.nsIn K mainGlobals "Loop" = some (some (.ref C6)))
    (xl6 : K.lookup C6 = some (excClassObj nm6 q6 C6 N6 bs6 bm6 true sn6 sub6 ab6 col6 dd6 k0_6 k1_6 k2_6 k3_6 k5_6 "ValueError.__new__"))
    (xm6 : PySem.HandSPX.refsVE bm6 = true)
    (xs6 : PySem.W.findIn K (.ref C6) "__setattr__" = some (some (.builtin "object.__setattr__")))
    (xe6 : PySem.W.subIn K (.ref C6) (.type "BaseException") = some true)
    (xt6 : PySem.W.typeIn K (.ref C6) = some (.type "type"))
    (xk6 : PySem.W.keepIn K (.ref C6) = true)
    (xga6 : PySem.W.findIn K (.ref C6) "__getattribute__" = some (some (.builtin "BaseException.__getattribute__")))
    (xgg6 : PySem.W.findIn K (.ref C6) "__getattr__" = some none)
    (xhd6 : PySem.W.hasDictIn K C6 = true)
    (xat6 : PySem.W.findIn K (.ref C6) "__class__" = some (some (.builtin "object.__class__")))
    (xmo6 : PySem.W.mroIn K C6 (.type "object") = some true)
    (xi6 : PySem.W.findIn K (.ref C6) "__init__" = some (some (.ref fI6)))
    (xti6 : PySem.W.typeIn K (.ref fI6) = some (.type "function"))
    (xli6 : K.lookup fI6 = some ⟨oc_6, od_6, .func (PySem.W.fnOf "__init__" "Loop.__init__" (defArgs s_Loop) (defBody s_Loop) (defScope s_Loop) .none kV_6 dc_6 pm_6 an_6 cd_6 ct_6), sl_6⟩)
    (xci6 : PySem.W.codeIn K cd_6 "Loop.__init__" = true)
    (xki6 : PySem.W.keepIn K (.ref fI6) = true)
    (xsb6 : PySem.W.subIn K (.ref C6) (.ref CB) = some true)
    (xfo_0_6 : PySem.W.findIn K (.ref C6) "found" = some none)
    (xa7 : PySem.W.nsIn K mainGlobals "NoLength" = some (some (.ref C7)))
    (xl7 : K.lookup C7 = some (excClassObj nm7 q7 C7 N7 bs7 bm7 true sn7 sub7 ab7 col7 dd7 k0_7 k1_7 k2_7 k3_7 k5_7 "ValueError.__new__"))
    (xm7 : PySem.HandSPX.refsVE bm7 = true)
    (xs7 : PySem.W.findIn K (.ref C7) "__setattr__" = some (some (.builtin "object.__setattr__")))
    (xe7 : PySem.W.subIn K (.ref C7) (.type "BaseException") = some true)
    (xt7 : PySem.W.typeIn K (.ref C7) = some (.type "type"))
    (xk7 : PySem.W.keepIn K (.ref C7) = true)
    (xga7 : PySem.W.findIn K (.ref C7) "__getattribute__" = some (some (.builtin "BaseException.__getattribute__")))
    (xgg7 : PySem.W.findIn K (.ref C7) "__getattr__" = some none)
    (xhd7 : PySem.W.hasDictIn K C7 = true)
    (xat7 : PySem.W.findIn K (.ref C7) "__class__" = some (some (.builtin "object.__class__")))
    (xmo7 : PySem.W.mroIn K C7 (.type "object") = some true)
    (xi7 : PySem.W.findIn K (.ref C7) "__init__" = some (some (.ref fI7)))
    (xti7 : PySem.W.typeIn K (.ref fI7) = some (.type "function"))
    (xli7 : K.lookup fI7 = some ⟨oc_7, od_7, .func (PySem.W.fnOf "__init__" "NoLength.__init__" (defArgs s_NoLength) (defBody s_NoLength) (defScope s_NoLength) .none kV_7 dc_7 pm_7 an_7 cd_7 ct_7), sl_7⟩)
    (xci7 : PySem.W.codeIn K cd_7 "NoLength.__init__" = true)
    (xki7 : PySem.W.keepIn K (.ref fI7) = true)
    (xsb7 : PySem.W.subIn K (.ref C7) (.ref CB) = some true)
    (xfo_0_7 : PySem.W.findIn K (.ref C7) "found" = some none)
    (xa8 : PySem.W.nsIn K mainGlobals "NoOrder" = some (some (.ref C8)))
    (xl8 : K.lookup C8 = some (excClassObj nm8 q8 C8 N8 bs8 bm8 true sn8 sub8 ab8 col8 dd8 k0_8 k1_8 k2_8 k3_8 k5_8 "ValueError.__new__"))
    (xm8 : PySem.HandSPX.refsVE bm8 = true)
    (xs8 : PySem.W.findIn K (.ref C8) "__setattr__" = some (some (.builtin "object.__setattr__")))
    (xe8 : PySem.W.subIn K (.ref C8) (.type "BaseException") = some true)
    (xt8 : PySem.W.typeIn K (.ref C8) = some (.type "type"))
    (xk8 : PySem.W.keepIn K (.ref C8) = true)
    (xga8 : PySem.W.findIn K (.ref C8) "__getattribute__" = some (some (.builtin "BaseException.__getattribute__")))
    (xgg8 : PySem.W.findIn K (.ref C8) "__getattr__" = some none)
    (xhd8 : PySem.W.hasDictIn K C8 = true)
    (xat8 : PySem.W.findIn K (.ref C8) "__class__" = some (some (.builtin "object.__class__")))
    (xmo8 : PySem.W.mroIn K C8 (.type "object") = some true)
    (xi8 : PySem.W.findIn K (.ref C8) "__init__" = some (some (.ref fI8)))
    (xti8 : PySem.W.typeIn K (.ref fI8) = some (.type "function"))
    (xli8 : K.lookup fI8 = some ⟨oc_8, od_8, .func (PySem.W.fnOf "__init__" "NoOrder.__init__" (defArgs s_NoOrder) (defBody s_NoOrder) (defScope s_NoOrder) .none kV_8 dc_8 pm_8 an_8 cd_8 ct_8), sl_8⟩)
    (xci8 : PySem.W.codeIn K cd_8 "NoOrder.__init__" = true)
    (xki8 : PySem.W.keepIn K (.ref fI8) = true)
    (xsb8 : PySem.W.subIn K (.ref C8) (.ref CB) = some true)
    (xfo_0_8 : PySem.W.findIn K (.ref C8) "found" = some none)
    (xa9 : PySem.W.nsIn K mainGlobals "Tied" = some (some (.ref C9)))
    (xl9 : K.lookup C9 = some (excClassObj nm9 q9 C9 N9 bs9 bm9 true sn9 sub9 ab9 col9 dd9 k0_9 k1_9 k2_9 k3_9 k5_9 "ValueError.__new__"))
    (xm9 : PySem.HandSPX.refsVE bm9 = true)
    (xs9 : PySem.W.findIn K (.ref C9) "__setattr__" = some (some (.builtin "object.__setattr__")))
    (xe9 : PySem.W.subIn K (.ref C9) (.type "BaseException") = some true)
    (xt9 : PySem.W.typeIn K (.ref C9) = some (.type "type"))
    (xk9 : PySem.W.keepIn K (.ref C9) = true)
    (xga9 : PySem.W.findIn K (.ref C9) "__getattribute__" = some (some (.builtin "BaseException.__getattribute__")))
    (xgg9 : PySem.W.findIn K (.ref C9) "__getattr__" = some none)
    (xhd9 : PySem.W.hasDictIn K C9 = true)
    (xat9 : PySem.W.findIn K (.ref C9) "__class__" = some (some (.builtin "object.__class__")))
    (xmo9 : PySem.W.mroIn K C9 (.type "object") = some true)
    (xi9 : PySem.W.findIn K (.ref C9) "__init__" = some (some (.ref fI9)))
    (xti9 : PySem.W.typeIn K (.ref fI9) = some (.type "function"))
    (xli9 : K.lookup fI9 = some ⟨oc_9, od_9, .func (PySem.W.fnOf "__init__" "Tied.__init__" (defArgs s_Tied) (defBody s_Tied) (defScope s_Tied) .none kV_9 dc_9 pm_9 an_9 cd_9 ct_9), sl_9⟩)
    (xci9 : PySem.W.codeIn K cd_9 "Tied.__init__" = true)
    (xki9 : PySem.W.keepIn K (.ref fI9) = true)
    (xsb9 : PySem.W.subIn K (.ref C9) (.ref CB) = some true)
    (xfo_0_9 : PySem.W.findIn K (.ref C9) "other" = some none)
    (xfo_1_9 : PySem.W.findIn K (.ref C9) "one" = some none)
    (z_all : PySem.W.nsIn K mainGlobals "all" = some none)
    (z_any : PySem.W.nsIn K mainGlobals "any" = some none)
    (z_bool : PySem.W.nsIn K mainGlobals "bool" = some none)
    (z_enumerate : PySem.W.nsIn K mainGlobals "enumerate" = some none)
    (z_int : PySem.W.nsIn K mainGlobals "int" = some none)
    (z_isinstance : PySem.W.nsIn K mainGlobals "isinstance" = some none)
    (z_len : PySem.W.nsIn K mainGlobals "len" = some none)
    (z_list : PySem.W.nsIn K mainGlobals "list" = some none)
    (z_max : PySem.W.nsIn K mainGlobals "max" = some none)
    (z_min : PySem.W.nsIn K mainGlobals "min" = some none)
    (z_range : PySem.W.nsIn K mainGlobals "range" = some none)
    (z_repr : PySem.W.nsIn K mainGlobals "repr" = some none)
    (z_sorted : PySem.W.nsIn K mainGlobals "sorted" = some none)
    (z_str : PySem.W.nsIn K mainGlobals "str" = some none)
    (z_tuple : PySem.W.nsIn K mainGlobals "tuple" = some none)
    (z_zip : PySem.W.nsIn K mainGlobals "zip" = some none)
    (v_LETTERS : PySem.W.nsIn K mainGlobals "LETTERS" = some (some (.str "abcdefghijklmnopqrstuvwxyz" tk_LETTERS)))
    (v_MOST_LENGTH : PySem.W.nsIn K mainGlobals "MOST_LENGTH" = some (some (.int 1000000 tk_MOST_LENGTH)))
    (v_MOST_PLACES : PySem.W.nsIn K mainGlobals "MOST_PLACES" = some (some (.int 12 tk_MOST_PLACES)))
    (v_MOST_TIES : PySem.W.nsIn K mainGlobals "MOST_TIES" = some (some (.int 40 tk_MOST_TIES))) :
    ∃ fd : FuncData, (∀ (s : Shared) (v : Value), BindsTo s fd ⟨[v], []⟩ [("_law_script", v)]) ∧ ∀ base : Heap, K.In base → base.Ns mainGlobals mg → FnG l.prog w K mg base (L2.CX l.prog w) 7 fa fd ["_law_script"] (lift K S_law) := by
  have e := hfa.symm.trans (PySem.W.mg_of X G a34)
  cases e
  have F1 := fun_mk (st := s_Web_places) l1 c1 k1
  have b1 := F1.binds (ps := ["self"]) fun _ _ _ _ _ _ us hl => match us, hl with | [_], _ => rfl
  have F2 := fun_mk (st := s_need_place) l2 c2 k2
  have b2 := F2.binds (ps := ["web", "thing"]) fun _ _ _ _ _ _ us hl => match us, hl with | [_, _], _ => rfl
  have F3 := fun_mk (st := s_Web_many) l3 c3 k3
  have b3 := F3.binds (ps := ["self"]) fun _ _ _ _ _ _ us hl => match us, hl with | [_], _ => rfl
  have F4 := fun_mk (st := s_need_order) l4 c4 k4
  have b4 := F4.binds (ps := ["web", "thing"]) fun _ _ _ _ _ _ us hl => match us, hl with | [_, _], _ => rfl
  have F5 := fun_mk (st := s_Web_ties) l5 c5 k5
  have b5 := F5.binds (ps := ["self"]) fun _ _ _ _ _ _ us hl => match us, hl with | [_], _ => rfl
  have F6 := fun_mk (st := s_linked) l6 c6 k6
  have b6 := F6.binds (ps := ["web"]) fun _ _ _ _ _ _ us hl => match us, hl with | [_], _ => rfl
  have F7 := fun_mk (st := s_bridged) l7 c7 k7
  have b7 := F7.binds (ps := ["web", "order"]) fun _ _ _ _ _ _ us hl => match us, hl with | [_, _], _ => rfl
  have F8 := fun_mk (st := s_Heights___init__) l8 c8 k8
  have b8 := F8.binds (ps := ["self", "web", "order"]) fun _ _ _ _ _ _ us hl => match us, hl with | [_, _, _], _ => rfl
  have F9 := fun_mk (st := s_Heights_order) l9 c9 k9
  have b9 := F9.binds (ps := ["self"]) fun _ _ _ _ _ _ us hl => match us, hl with | [_], _ => rfl
  have F10 := fun_mk (st := s_Heights_above) l10 c10 k10
  have b10 := F10.binds (ps := ["self", "place"]) fun _ _ _ _ _ _ us hl => match us, hl with | [_, _], _ => rfl
  have F11 := fun_mk (st := s_Heights_up) l11 c11 k11
  have b11 := F11.binds (ps := ["self", "place"]) fun _ _ _ _ _ _ us hl => match us, hl with | [_, _], _ => rfl
  have F12 := fun_mk (st := s_Heights_bridges) l12 c12 k12
  have b12 := F12.binds (ps := ["self"]) fun _ _ _ _ _ _ us hl => match us, hl with | [_], _ => rfl
  have F13 := fun_mk (st := s_is_whole) l13 c13 k13
  have b13 := F13.binds (ps := ["thing", "low", "high"]) fun _ _ _ _ _ _ us hl => match us, hl with | [_, _, _], _ => rfl
  have F14 := fun_mk (st := s_is_name) l14 c14 k14
  have b14 := F14.binds (ps := ["thing"]) fun _ _ _ _ _ _ us hl => match us, hl with | [_], _ => rfl
  have F15 := fun_mk (st := s_spots_of) l15 c15 k15
  have b15 := F15.binds (ps := ["places"]) fun _ _ _ _ _ _ us hl => match us, hl with | [_], _ => rfl
  have F16 := fun_mk (st := s_spot_of) l16 c16 k16
  have b16 := F16.binds (ps := ["spots", "place"]) fun _ _ _ _ _ _ us hl => match us, hl with | [_, _], _ => rfl
  have F17 := fun_mk (st := s_pair_of) l17 c17 k17
  have b17 := F17.binds (ps := ["here", "there"]) fun _ _ _ _ _ _ us hl => match us, hl with | [_, _], _ => rfl
  have F18 := fun_mk (st := s_lengths_of) l18 c18 k18
  have b18 := F18.binds (ps := ["spots", "ties"]) fun _ _ _ _ _ _ us hl => match us, hl with | [_, _], _ => rfl
  have F19 := fun_mk (st := s_Web___init__) l19 c19 k19
  have b19 := F19.binds (ps := ["self", "places", "ties"]) fun _ _ _ _ _ _ us hl => match us, hl with | [_, _, _], _ => rfl
  have F20 := fun_mk (st := s_l_cell) l20 c20 k20
  have b20 := F20.binds (ps := ["_law_script", "_law_k"]) fun _ _ _ _ _ _ us hl => match us, hl with | [_, _], _ => rfl
  have F21 := fun_mk (st := s_l_box) l21 c21 k21
  have b21 := F21.binds (ps := ["_law_cell_here"]) fun _ _ _ _ _ _ us hl => match us, hl with | [_], _ => rfl
  have F22 := fun_mk (st := s_l_take) l22 c22 k22
  have b22 := F22.binds (ps := ["_law_box_here", "_law_many"]) fun _ _ _ _ _ _ us hl => match us, hl with | [_, _], _ => rfl
  have F23 := fun_mk (st := s_l_names) l23 c23 k23
  have b23 := F23.binds (ps := ["_law_box_here", "_law_many"]) fun _ _ _ _ _ _ us hl => match us, hl with | [_, _], _ => rfl
  have F24 := fun_mk (st := s_l_is_tied) l24 c24 k24
  have b24 := F24.binds (ps := ["_law_box_here", "_law_shape", "_law_k", "_law_j", "_law_near"]) fun _ _ _ _ _ _ us hl => match us, hl with | [_, _, _, _, _], _ => rfl
  have F25 := fun_mk (st := s_l_length) l25 c25 k25
  have b25 := F25.binds (ps := ["_law_box_here", "_law_style"]) fun _ _ _ _ _ _ us hl => match us, hl with | [_, _], _ => rfl
  have F26 := fun_mk (st := s_l_turned) l26 c26 k26
  have b26 := F26.binds (ps := ["_law_box_here", "_law_many"]) fun _ _ _ _ _ _ us hl => match us, hl with | [_, _], _ => rfl
  have F27 := fun_mk (st := s_l_named) l27 c27 k27
  have b27 := F27.binds (ps := ["_law_box_here", "_law_ties", "_law_many"]) fun _ _ _ _ _ _ us hl => match us, hl with | [_, _, _], _ => rfl
  have F28 := fun_mk (st := s_l_drawn) l28 c28 k28
  have b28 := F28.binds (ps := ["_law_box_here", "_law_most"]) fun _ _ _ _ _ _ us hl => match us, hl with | [_, _], _ => rfl
  have F29 := fun_mk (st := s_l_order) l29 c29 k29
  have b29 := F29.binds (ps := ["_law_box_here", "_law_names_here"]) fun _ _ _ _ _ _ us hl => match us, hl with | [_, _], _ => rfl
  have F30 := fun_mk (st := s_l_bridges) l30 c30 k30
  have b30 := F30.binds (ps := ["_law_ties", "_law_order_here"]) fun _ _ _ _ _ _ us hl => match us, hl with | [_, _], _ => rfl
  have F31 := fun_mk (st := s_l_tied) l31 c31 k31
  have b31 := F31.binds (ps := ["_law_ties", "_law_one", "_law_other", "_law_length_here"]) fun _ _ _ _ _ _ us hl => match us, hl with | [_, _, _, _], _ => rfl
  have F32 := fun_mk (st := s_l_up_right) l32 c32 k32
  have b32 := F32.binds (ps := ["_law_ties", "_law_due", "_law_order_here", "_law_place", "_law_found"]) fun _ _ _ _ _ _ us hl => match us, hl with | [_, _, _, _, _], _ => rfl
  have F33 := fun_mk (st := s_l_right) l33 c33 k33
  have b33 := F33.binds (ps := ["_law_heights", "_law_names_here", "_law_ties", "_law_order_here"]) fun _ _ _ _ _ _ us hl => match us, hl with | [_, _, _, _], _ => rfl
  have F34 := fun_mk (st := s_law) l34 c34 k34
  have b34 := F34.binds (ps := ["_law_script"]) fun _ _ _ _ _ _ us hl => match us, hl with | [_], _ => rfl
  let cn : Cn := { ad := fun n => [C0, C1, C2, C3, C4, C5, C6, C7, C8, C9, C10, C11].getD n 0, fl := fun n => ([["found"], ["found"], ["found"], ["found"], ["found"], ["found"], ["found"], ["found"], ["found"], ["other", "one"]] : List (List Str)).getD n [], bs := CB }
  have hx0 : ExcAll K C0 ["found"] := ⟨⟨⟨_, _, _, _, _, _, _, _, _, _, _, _, _, _, _, xl0, xm0⟩, xs0, xe0, xt0, xk0⟩, ⟨xga0, xgg0, xe0, xhd0⟩, fun f hf => by cases List.mem_singleton.mp hf; exact xfo_0_0, by obtain ⟨_, hc, _⟩ := PySem.W.any_some xhd0; rw [hc]; rfl, xat0, xmo0, oN, oT⟩
  have hF0 := fun_mk (st := s_NoPlaces) xli0 xci0 xki0
  have hb0 := hF0.binds (ps := ["self", "found"]) fun _ _ _ _ _ _ us hl => match us, hl with | [_, _], _ => rfl
  have hx1 : ExcAll K C1 ["found"] := ⟨⟨⟨_, _, _, _, _, _, _, _, _, _, _, _, _, _, _, xl1, xm1⟩, xs1, xe1, xt1, xk1⟩, ⟨xga1, xgg1, xe1, xhd1⟩, fun f hf => by cases List.mem_singleton.mp hf; exact xfo_0_1, by obtain ⟨_, hc, _⟩ := PySem.W.any_some xhd1; rw [hc]; rfl, xat1, xmo1, oN, oT⟩
  have hF1 := fun_mk (st := s_NoName) xli1 xci1 xki1
  have hb1 := hF1.binds (ps := ["self", "found"]) fun _ _ _ _ _ _ us hl => match us, hl with | [_, _], _ => rfl
  have hx2 : ExcAll K C2 ["found"] := ⟨⟨⟨_, _, _, _, _, _, _, _, _, _, _, _, _, _, _, xl2, xm2⟩, xs2, xe2, xt2, xk2⟩, ⟨xga2, xgg2, xe2, xhd2⟩, fun f hf => by cases List.mem_singleton.mp hf; exact xfo_0_2, by obtain ⟨_, hc, _⟩ := PySem.W.any_some xhd2; rw [hc]; rfl, xat2, xmo2, oN, oT⟩
  have hF2 := fun_mk (st := s_Twice) xli2 xci2 xki2
  have hb2 := hF2.binds (ps := ["self", "found"]) fun _ _ _ _ _ _ us hl => match us, hl with | [_, _], _ => rfl
  have hx3 : ExcAll K C3 ["found"] := ⟨⟨⟨_, _, _, _, _, _, _, _, _, _, _, _, _, _, _, xl3, xm3⟩, xs3, xe3, xt3, xk3⟩, ⟨xga3, xgg3, xe3, xhd3⟩, fun f hf => by cases List.mem_singleton.mp hf; exact xfo_0_3, by obtain ⟨_, hc, _⟩ := PySem.W.any_some xhd3; rw [hc]; rfl, xat3, xmo3, oN, oT⟩
  have hF3 := fun_mk (st := s_NoTies) xli3 xci3 xki3
  have hb3 := hF3.binds (ps := ["self", "found"]) fun _ _ _ _ _ _ us hl => match us, hl with | [_, _], _ => rfl
  have hx4 : ExcAll K C4 ["found"] := ⟨⟨⟨_, _, _, _, _, _, _, _, _, _, _, _, _, _, _, xl4, xm4⟩, xs4, xe4, xt4, xk4⟩, ⟨xga4, xgg4, xe4, xhd4⟩, fun f hf => by cases List.mem_singleton.mp hf; exact xfo_0_4, by obtain ⟨_, hc, _⟩ := PySem.W.any_some xhd4; rw [hc]; rfl, xat4, xmo4, oN, oT⟩
  have hF4 := fun_mk (st := s_NoTie) xli4 xci4 xki4
  have hb4 := hF4.binds (ps := ["self", "found"]) fun _ _ _ _ _ _ us hl => match us, hl with | [_, _], _ => rfl
  have hx5 : ExcAll K C5 ["found"] := ⟨⟨⟨_, _, _, _, _, _, _, _, _, _, _, _, _, _, _, xl5, xm5⟩, xs5, xe5, xt5, xk5⟩, ⟨xga5, xgg5, xe5, xhd5⟩, fun f hf => by cases List.mem_singleton.mp hf; exact xfo_0_5, by obtain ⟨_, hc, _⟩ := PySem.W.any_some xhd5; rw [hc]; rfl, xat5, xmo5, oN, oT⟩
  have hF5 := fun_mk (st := s_NoPlace) xli5 xci5 xki5
  have hb5 := hF5.binds (ps := ["self", "found"]) fun _ _ _ _ _ _ us hl => match us, hl with | [_, _], _ => rfl
  have hx6 : ExcAll K C6 ["found"] := ⟨⟨⟨_, _, _, _, _, _, _, _, _, _, _, _, _, _, _, xl6, xm6⟩, xs6, xe6, xt6, xk6⟩, ⟨xga6, xgg6, xe6, xhd6⟩, fun f hf => by cases List.mem_singleton.mp hf; exact xfo_0_6, by obtain ⟨_, hc, _⟩ := PySem.W.any_some xhd6; rw [hc]; rfl, xat6, xmo6, oN, oT⟩
  have hF6 := fun_mk (st := s_Loop) xli6 xci6 xki6
  have hb6 := hF6.binds (ps := ["self", "found"]) fun _ _ _ _ _ _ us hl => match us, hl with | [_, _], _ => rfl
  have hx7 : ExcAll K C7 ["found"] := ⟨⟨⟨_, _, _, _, _, _, _, _, _, _, _, _, _, _, _, xl7, xm7⟩, xs7, xe7, xt7, xk7⟩, ⟨xga7, xgg7, xe7, xhd7⟩, fun f hf => by cases List.mem_singleton.mp hf; exact xfo_0_7, by obtain ⟨_, hc, _⟩ := PySem.W.any_some xhd7; rw [hc]; rfl, xat7, xmo7, oN, oT⟩
  have hF7 := fun_mk (st := s_NoLength) xli7 xci7 xki7
  have hb7 := hF7.binds (ps := ["self", "found"]) fun _ _ _ _ _ _ us hl => match us, hl with | [_, _], _ => rfl
  have hx8 : ExcAll K C8 ["found"] := ⟨⟨⟨_, _, _, _, _, _, _, _, _, _, _, _, _, _, _, xl8, xm8⟩, xs8, xe8, xt8, xk8⟩, ⟨xga8, xgg8, xe8, xhd8⟩, fun f hf => by cases List.mem_singleton.mp hf; exact xfo_0_8, by obtain ⟨_, hc, _⟩ := PySem.W.any_some xhd8; rw [hc]; rfl, xat8, xmo8, oN, oT⟩
  have hF8 := fun_mk (st := s_NoOrder) xli8 xci8 xki8
  have hb8 := hF8.binds (ps := ["self", "found"]) fun _ _ _ _ _ _ us hl => match us, hl with | [_, _], _ => rfl
  have hx9 : ExcAll K C9 ["other", "one"] := ⟨⟨⟨_, _, _, _, _, _, _, _, _, _, _, _, _, _, _, xl9, xm9⟩, xs9, xe9, xt9, xk9⟩, ⟨xga9, xgg9, xe9, xhd9⟩, fun f hf => (List.mem_cons.mp hf).elim (fun e => by subst e; exact xfo_0_9) (fun e => by cases List.mem_singleton.mp e; exact xfo_1_9), by obtain ⟨_, hc, _⟩ := PySem.W.any_some xhd9; rw [hc]; rfl, xat9, xmo9, oN, oT⟩
  have hF9 := fun_mk (st := s_Tied) xli9 xci9 xki9
  have hb9 := hF9.binds (ps := ["self", "one", "other"]) fun _ _ _ _ _ _ us hl => match us, hl with | [_, _, _], _ => rfl
  have hxf : XF K cn := { all_NoPlaces := hx0, fl_NoPlaces := rfl, ex_NoPlaces := PySem.W.exm_ref bB4 bB5 bB6 xsb0, all_NoName := hx1, fl_NoName := rfl, ex_NoName := PySem.W.exm_ref bB4 bB5 bB6 xsb1, all_Twice := hx2, fl_Twice := rfl, ex_Twice := PySem.W.exm_ref bB4 bB5 bB6 xsb2, all_NoTies := hx3, fl_NoTies := rfl, ex_NoTies := PySem.W.exm_ref bB4 bB5 bB6 xsb3, all_NoTie := hx4, fl_NoTie := rfl, ex_NoTie := PySem.W.exm_ref bB4 bB5 bB6 xsb4, all_NoPlace := hx5, fl_NoPlace := rfl, ex_NoPlace := PySem.W.exm_ref bB4 bB5 bB6 xsb5, all_Loop := hx6, fl_Loop := rfl, ex_Loop := PySem.W.exm_ref bB4 bB5 bB6 xsb6, all_NoLength := hx7, fl_NoLength := rfl, ex_NoLength := PySem.W.exm_ref bB4 bB5 bB6 xsb7, all_NoOrder := hx8, fl_NoOrder := rfl, ex_NoOrder := PySem.W.exm_ref bB4 bB5 bB6 xsb8, all_Tied := hx9, fl_Tied := rfl, ex_Tied := PySem.W.exm_ref bB4 bB5 bB6 xsb9, cls_Heights := ⟨yp10, yh10, yo10, ys10⟩, na_Heights_high_web := ynhigh_web_10, na_Heights_climbed := ynclimbed_10, na_Heights_links := ynlinks_10, cls_Web := ⟨yp11, yh11, yo11, ys11⟩, na_Web_spots := ynspots_11, na_Web_names := ynnames_11, na_Web_lengths := ynlengths_11 }
  let T : Txt K mg cn := { xf := hxf, xb := ⟨PySem.W.mg_of X G aB, ⟨bB1, bB2⟩, bB3⟩, fi_NoPlaces := _, fd_NoPlaces := _, x_NoPlaces := ⟨hx0, PySem.W.mg_of X G xa0, xi0, xti0, hF0, hb0⟩, fi_NoName := _, fd_NoName := _, x_NoName := ⟨hx1, PySem.W.mg_of X G xa1, xi1, xti1, hF1, hb1⟩, fi_Twice := _, fd_Twice := _, x_Twice := ⟨hx2, PySem.W.mg_of X G xa2, xi2, xti2, hF2, hb2⟩, fi_NoTies := _, fd_NoTies := _, x_NoTies := ⟨hx3, PySem.W.mg_of X G xa3, xi3, xti3, hF3, hb3⟩, fi_NoTie := _, fd_NoTie := _, x_NoTie := ⟨hx4, PySem.W.mg_of X G xa4, xi4, xti4, hF4, hb4⟩, fi_NoPlace := _, fd_NoPlace := _, x_NoPlace := ⟨hx5, PySem.W.mg_of X G xa5, xi5, xti5, hF5, hb5⟩, fi_Loop := _, fd_Loop := _, x_Loop := ⟨hx6, PySem.W.mg_of X G xa6, xi6, xti6, hF6, hb6⟩, fi_NoLength := _, fd_NoLength := _, x_NoLength := ⟨hx7, PySem.W.mg_of X G xa7, xi7, xti7, hF7, hb7⟩, fi_NoOrder := _, fd_NoOrder := _, x_NoOrder := ⟨hx8, PySem.W.mg_of X G xa8, xi8, xti8, hF8, hb8⟩, fi_Tied := _, fd_Tied := _, x_Tied := ⟨hx9, PySem.W.mg_of X G xa9, xi9, xti9, hF9, hb9⟩, a_Web_places := _, f_Web_places := _, d_Web_places := ⟨F1, b1, ⟨a1, y1, k1⟩⟩, a_need_place := _, f_need_place := _, d_need_place := ⟨F2, b2, PySem.W.mg_of X G a2⟩, a_Web_many := _, f_Web_many := _, d_Web_many := ⟨F3, b3, ⟨a3, y3, k3⟩⟩, a_need_order := _, f_need_order := _, d_need_order := ⟨F4, b4, PySem.W.mg_of X G a4⟩, a_Web_ties := _, f_Web_ties := _, d_Web_ties := ⟨F5, b5, ⟨a5, y5, k5⟩⟩, a_linked := _, f_linked := _, d_linked := ⟨F6, b6, PySem.W.mg_of X G a6⟩, a_bridged := _, f_bridged := _, d_bridged := ⟨F7, b7, PySem.W.mg_of X G a7⟩, a_Heights___init__ := _, f_Heights___init__ := _, d_Heights___init__ := ⟨F8, b8, ⟨a8, y8, k8⟩⟩, a_Heights_order := _, f_Heights_order := _, d_Heights_order := ⟨F9, b9, ⟨a9, y9, k9⟩⟩, a_Heights_above := _, f_Heights_above := _, d_Heights_above := ⟨F10, b10, ⟨a10, y10, k10⟩⟩, a_Heights_up := _, f_Heights_up := _, d_Heights_up := ⟨F11, b11, ⟨a11, y11, k11⟩⟩, a_Heights_bridges := _, f_Heights_bridges := _, d_Heights_bridges := ⟨F12, b12, ⟨a12, y12, k12⟩⟩, a_is_whole := _, f_is_whole := _, d_is_whole := ⟨F13, b13, PySem.W.mg_of X G a13⟩, a_is_name := _, f_is_name := _, d_is_name := ⟨F14, b14, PySem.W.mg_of X G a14⟩, a_spots_of := _, f_spots_of := _, d_spots_of := ⟨F15, b15, PySem.W.mg_of X G a15⟩, a_spot_of := _, f_spot_of := _, d_spot_of := ⟨F16, b16, PySem.W.mg_of X G a16⟩, a_pair_of := _, f_pair_of := _, d_pair_of := ⟨F17, b17, PySem.W.mg_of X G a17⟩, a_lengths_of := _, f_lengths_of := _, d_lengths_of := ⟨F18, b18, PySem.W.mg_of X G a18⟩, a_Web___init__ := _, f_Web___init__ := _, d_Web___init__ := ⟨F19, b19, ⟨a19, y19, k19⟩⟩, a_l_cell := _, f_l_cell := _, d_l_cell := ⟨F20, b20, PySem.W.mg_of X G a20⟩, a_l_box := _, f_l_box := _, d_l_box := ⟨F21, b21, PySem.W.mg_of X G a21⟩, a_l_take := _, f_l_take := _, d_l_take := ⟨F22, b22, PySem.W.mg_of X G a22⟩, a_l_names := _, f_l_names := _, d_l_names := ⟨F23, b23, PySem.W.mg_of X G a23⟩, a_l_is_tied := _, f_l_is_tied := _, d_l_is_tied := ⟨F24, b24, PySem.W.mg_of X G a24⟩, a_l_length := _, f_l_length := _, d_l_length := ⟨F25, b25, PySem.W.mg_of X G a25⟩, a_l_turned := _, f_l_turned := _, d_l_turned := ⟨F26, b26, PySem.W.mg_of X G a26⟩, a_l_named := _, f_l_named := _, d_l_named := ⟨F27, b27, PySem.W.mg_of X G a27⟩, a_l_drawn := _, f_l_drawn := _, d_l_drawn := ⟨F28, b28, PySem.W.mg_of X G a28⟩, a_l_order := _, f_l_order := _, d_l_order := ⟨F29, b29, PySem.W.mg_of X G a29⟩, a_l_bridges := _, f_l_bridges := _, d_l_bridges := ⟨F30, b30, PySem.W.mg_of X G a30⟩, a_l_tied := _, f_l_tied := _, d_l_tied := ⟨F31, b31, PySem.W.mg_of X G a31⟩, a_l_up_right := _, f_l_up_right := _, d_l_up_right := ⟨F32, b32, PySem.W.mg_of X G a32⟩, a_l_right := _, f_l_right := _, d_l_right := ⟨F33, b33, PySem.W.mg_of X G a33⟩, a_law := _, f_law := _, d_law := ⟨F34, b34, PySem.W.mg_of X G a34⟩, cls_Heights := ⟨yp10, yh10, yo10, ys10⟩, g_Heights := PySem.W.mg_of X G yc10, cls_Web := ⟨yp11, yh11, yo11, ys11⟩, g_Web := PySem.W.mg_of X G yc11, mk_Heights := ⟨ym10, a8, y8, yk10⟩, mk_Web := ⟨ym11, a19, y19, yk11⟩, n_all := PySem.W.mg_none_of X G z_all, n_any := PySem.W.mg_none_of X G z_any, n_bool := PySem.W.mg_none_of X G z_bool, n_enumerate := PySem.W.mg_none_of X G z_enumerate, n_int := PySem.W.mg_none_of X G z_int, n_isinstance := PySem.W.mg_none_of X G z_isinstance, n_len := PySem.W.mg_none_of X G z_len, n_list := PySem.W.mg_none_of X G z_list, n_max := PySem.W.mg_none_of X G z_max, n_min := PySem.W.mg_none_of X G z_min, n_range := PySem.W.mg_none_of X G z_range, n_repr := PySem.W.mg_none_of X G z_repr, n_sorted := PySem.W.mg_none_of X G z_sorted, n_str := PySem.W.mg_none_of X G z_str, n_tuple := PySem.W.mg_none_of X G z_tuple, n_zip := PySem.W.mg_none_of X G z_zip, c_LETTERS := ⟨_, PySem.W.mg_of X G v_LETTERS⟩, c_MOST_LENGTH := ⟨_, PySem.W.mg_of X G v_MOST_LENGTH⟩, c_MOST_PLACES := ⟨_, PySem.W.mg_of X G v_MOST_PLACES⟩, c_MOST_TIES := ⟨_, PySem.W.mg_of X G v_MOST_TIES⟩ }
  exact ⟨PySem.W.fnOf "law" "law" (defArgs s_law) (defBody s_law) (defScope s_law) .none kV34 dc34 pm34 an34 cd34 ct34, fun s v => .of_eq rfl, fun base _ _ => ok_all T⟩

end Lw
open PySem PySem.W PyProof.Rows
set_option maxHeartbeats 0 in
theorem PySem.Challenge.cw_farmarks_k61_bridges_told_holds : PySem.Challenge.rw_farmarks_k61_bridges_told.Holds := by
  w_on; o_law; k_head; (case hw => w_witness2)
  k_fill
  refine DL.walk_ofG (l := PySem.Challenge.rw_farmarks_k61_bridges_told) (n := 63) (k := 7) (x := "_law_script") (CX := fun w => L2.CX PySem.Challenge.rw_farmarks_k61_bridges_told.prog w) (sp := fun w => DL.lift _ Lw.S_law) (by decide +kernel) rfl (by decide) rfl ⟨rfl, by decide, by decide⟩ (fun w h Y => PySem.W.kIn_of Y) ?F (fun _ H a ns hl hb _ hS => Lw.law_in hl hb hS) (fun _ _ _ _ _ h => by obtain ⟨_, _, _, _, _, _, _, _, _, _, _, _, z⟩ := h; exact z.elim)
  case F =>
    intro w mg fa h KX G hmg
    refine' Lw.all_mk KX G hmg ?yc10 ?yp10 ?yh10 ?yo10 ?ys10 ?ym10 ?yk10 ?ynhigh_web_10 ?ynclimbed_10 ?ynlinks_10 ?yc11 ?yp11 ?yh11 ?yo11 ?ys11 ?ym11 ?yk11 ?ynspots_11 ?ynnames_11 ?ynlengths_11 ?a1 ?y1 ?l1 ?c1 ?k1 ?a2 ?l2 ?c2 ?k2 ?a3 ?y3 ?l3 ?c3 ?k3 ?a4 ?l4 ?c4 ?k4 ?a5 ?y5 ?l5 ?c5 ?k5 ?a6 ?l6 ?c6 ?k6 ?a7 ?l7 ?c7 ?k7 ?a8 ?y8 ?l8 ?c8 ?k8 ?a9 ?y9 ?l9 ?c9 ?k9 ?a10 ?y10 ?l10 ?c10 ?k10 ?a11 ?y11 ?l11 ?c11 ?k11 ?a12 ?y12 ?l12 ?c12 ?k12 ?a13 ?l13 ?c13 ?k13 ?a14 ?l14 ?c14 ?k14 ?a15 ?l15 ?c15 ?k15 ?a16 ?l16 ?c16 ?k16 ?a17 ?l17 ?c17 ?k17 ?a18 ?l18 ?c18 ?k18 ?a19 ?y19 ?l19 ?c19 ?k19 ?a20 ?l20 ?c20 ?k20 ?a21 ?l21 ?c21 ?k21 ?a22 ?l22 ?c22 ?k22 ?a23 ?l23 ?c23 ?k23 ?a24 ?l24 ?c24 ?k24 ?a25 ?l25 ?c25 ?k25 ?a26 ?l26 ?c26 ?k26 ?a27 ?l27 ?c27 ?k27 ?a28 ?l28 ?c28 ?k28 ?a29 ?l29 ?c29 ?k29 ?a30 ?l30 ?c30 ?k30 ?a31 ?l31 ?c31 ?k31 ?a32 ?l32 ?c32 ?k32 ?a33 ?l33 ?c33 ?k33 ?a34 ?l34 ?c34 ?k34 ?aB ?bB1 ?bB2 ?bB3 ?bB4 ?bB5 ?bB6 ?oN ?oT ?xa0 ?xl0 ?xm0 ?xs0 ?xe0 ?xt0 ?xk0 ?xga0 ?xgg0 ?xhd0 ?xat0 ?xmo0 ?xi0 ?xti0 ?xli0 ?xci0 ?xki0 ?xsb0 ?xfo_0_0 ?xa1 ?xl1 ?xm1 ?xs1 ?xe1 ?xt1 ?xk1 ?xga1 ?xgg1 ?xhd1 ?xat1 ?xmo1 ?xi1 ?xti1 ?xli1 ?xci1 ?xki1 ?xsb1 ?xfo_0_1 ?xa2 ?xl2 ?xm2 ?xs2 ?xe2 ?xt2 ?xk2 ?xga2 ?xgg2 ?xhd2 ?xat2 ?xmo2 ?xi2 ?xti2 ?xli2 ?xci2 ?xki2 ?xsb2 ?xfo_0_2 ?xa3 ?xl3 ?xm3 ?xs3 ?xe3 ?xt3 ?xk3 ?xga3 ?xgg3 ?xhd3 ?xat3 ?xmo3 ?xi3 ?xti3 ?xli3 ?xci3 ?xki3 ?xsb3 ?xfo_0_3 ?xa4 ?xl4 ?xm4 ?xs4 ?xe4 ?xt4 ?xk4 ?xga4 ?xgg4 ?xhd4 ?xat4 ?xmo4 ?xi4 ?xti4 ?xli4 ?xci4 ?xki4 ?xsb4 ?xfo_0_4 ?xa5 ?xl5 ?xm5 ?xs5 ?xe5 ?xt5 ?xk5 ?xga5 ?xgg5 ?xhd5 ?xat5 ?xmo5 ?xi5 ?xti5 ?xli5 ?xci5 ?xki5 ?xsb5 ?xfo_0_5 ?xa6 ?xl6 ?xm6 ?xs6 ?xe6 ?xt6 ?xk6 ?xga6 ?xgg6 ?xhd6 ?xat6 ?xmo6 ?xi6 ?xti6 ?xli6 ?xci6 ?xki6 ?xsb6 ?xfo_0_6 ?xa7 ?xl7 ?xm7 ?xs7 ?xe7 ?xt7 ?xk7 ?xga7 ?xgg7 ?xhd7 ?xat7 ?xmo7 ?xi7 ?xti7 ?xli7 ?xci7 ?xki7 ?xsb7 ?xfo_0_7 ?xa8 ?xl8 ?xm8 ?xs8 ?xe8 ?xt8 ?xk8 ?xga8 ?xgg8 ?xhd8 ?xat8 ?xmo8 ?xi8 ?xti8 ?xli8 ?xci8 ?xki8 ?xsb8 ?xfo_0_8 ?xa9 ?xl9 ?xm9 ?xs9 ?xe9 ?xt9 ?xk9 ?xga9 ?xgg9 ?xhd9 ?xat9 ?xmo9 ?xi9 ?xti9 ?xli9 ?xci9 ?xki9 ?xsb9 ?xfo_0_9 ?xfo_1_9 ?z_all ?z_any ?z_bool ?z_enumerate ?z_int ?z_isinstance ?z_len ?z_list ?z_max ?z_min ?z_range ?z_repr ?z_sorted ?z_str ?z_tuple ?z_zip ?v_LETTERS ?v_MOST_LENGTH ?v_MOST_PLACES ?v_MOST_TIES
    (case yc10 => k_is); (case yp10 => k_is); (case yh10 => k_is); (case yo10 => k_is); (case ys10 => k_is); (case ym10 => k_is); (case yk10 => k_is); (case ynhigh_web_10 => k_is); (case ynclimbed_10 => k_is); (case ynlinks_10 => k_is); (case yc11 => k_is); (case yp11 => k_is); (case yh11 => k_is); (case yo11 => k_is); (case ys11 => k_is); (case ym11 => k_is); (case yk11 => k_is); (case ynspots_11 => k_is); (case ynnames_11 => k_is); (case ynlengths_11 => k_is); (case a1 => k_is); (case y1 => k_is); (case l1 => k_is); (case c1 => k_is); (case k1 => k_is); (case a2 => k_is); (case l2 => k_is); (case c2 => k_is); (case k2 => k_is); (case a3 => k_is); (case y3 => k_is); (case l3 => k_is); (case c3 => k_is); (case k3 => k_is); (case a4 => k_is); (case l4 => k_is); (case c4 => k_is); (case k4 => k_is); (case a5 => k_is); (case y5 => k_is); (case l5 => k_is); (case c5 => k_is); (case k5 => k_is); (case a6 => k_is); (case l6 => k_is); (case c6 => k_is); (case k6 => k_is); (case a7 => k_is); (case l7 => k_is); (case c7 => k_is); (case k7 => k_is); (case a8 => k_is); (case y8 => k_is); (case l8 => k_is); (case c8 => k_is); (case k8 => k_is); (case a9 => k_is); (case y9 => k_is); (case l9 => k_is); (case c9 => k_is); (case k9 => k_is); (case a10 => k_is); (case y10 => k_is); (case l10 => k_is); (case c10 => k_is); (case k10 => k_is); (case a11 => k_is); (case y11 => k_is); (case l11 => k_is); (case c11 => k_is); (case k11 => k_is); (case a12 => k_is); (case y12 => k_is); (case l12 => k_is); (case c12 => k_is); (case k12 => k_is); (case a13 => k_is); (case l13 => k_is); (case c13 => k_is); (case k13 => k_is); (case a14 => k_is); (case l14 => k_is); (case c14 => k_is); (case k14 => k_is); (case a15 => k_is); (case l15 => k_is); (case c15 => k_is); (case k15 => k_is); (case a16 => k_is); (case l16 => k_is); (case c16 => k_is); (case k16 => k_is); (case a17 => k_is); (case l17 => k_is); (case c17 => k_is); (case k17 => k_is); (case a18 => k_is); (case l18 => k_is); (case c18 => k_is); (case k18 => k_is); (case a19 => k_is); (case y19 => k_is); (case l19 => k_is); (case c19 => k_is); (case k19 => k_is); (case a20 => k_is); (case l20 => k_is); (case c20 => k_is); (case k20 => k_is); (case a21 => k_is); (case l21 => k_is); (case c21 => k_is); (case k21 => k_is); (case a22 => k_is); (case l22 => k_is); (case c22 => k_is); (case k22 => k_is); (case a23 => k_is); (case l23 => k_is); (case c23 => k_is); (case k23 => k_is); (case a24 => k_is); (case l24 => k_is); (case c24 => k_is); (case k24 => k_is); (case a25 => k_is); (case l25 => k_is); (case c25 => k_is); (case k25 => k_is); (case a26 => k_is); (case l26 => k_is); (case c26 => k_is); (case k26 => k_is); (case a27 => k_is); (case l27 => k_is); (case c27 => k_is); (case k27 => k_is); (case a28 => k_is); (case l28 => k_is); (case c28 => k_is); (case k28 => k_is); (case a29 => k_is); (case l29 => k_is); (case c29 => k_is); (case k29 => k_is); (case a30 => k_is); (case l30 => k_is); (case c30 => k_is); (case k30 => k_is); (case a31 => k_is); (case l31 => k_is); (case c31 => k_is); (case k31 => k_is); (case a32 => k_is); (case l32 => k_is); (case c32 => k_is); (case k32 => k_is); (case a33 => k_is); (case l33 => k_is); (case c33 => k_is); (case k33 => k_is); (case a34 => k_is); (case l34 => k_is); (case c34 => k_is); (case k34 => k_is); (case aB => k_is); (case bB1 => k_is); (case bB2 => k_is); (case bB3 => k_is); (case bB4 => k_is); (case bB5 => k_is); (case bB6 => k_is); (case oN => k_is); (case oT => k_is); (case xa0 => k_is); (case xl0 => k_is); (case xm0 => rfl); (case xs0 => k_is); (case xe0 => k_is); (case xt0 => k_is); (case xk0 => k_is); (case xga0 => k_is); (case xgg0 => k_is); (case xhd0 => k_is); (case xat0 => k_is); (case xmo0 => k_is); (case xi0 => k_is); (case xti0 => k_is); (case xli0 => k_is); (case xci0 => k_is); (case xki0 => k_is); (case xsb0 => k_is); (case xfo_0_0 => k_is); (case xa1 => k_is); (case xl1 => k_is); (case xm1 => rfl); (case xs1 => k_is); (case xe1 => k_is); (case xt1 => k_is); (case xk1 => k_is); (case xga1 => k_is); (case xgg1 => k_is); (case xhd1 => k_is); (case xat1 => k_is); (case xmo1 => k_is); (case xi1 => k_is); (case xti1 => k_is); (case xli1 => k_is); (case xci1 => k_is); (case xki1 => k_is); (case xsb1 => k_is); (case xfo_0_1 => k_is); (case xa2 => k_is); (case xl2 => k_is); (case xm2 => rfl); (case xs2 => k_is); (case xe2 => k_is); (case xt2 => k_is); (case xk2 => k_is); (case xga2 => k_is); (case xgg2 => k_is); (case xhd2 => k_is); (case xat2 => k_is); (case xmo2 => k_is); (case xi2 => k_is); (case xti2 => k_is); (case xli2 => k_is); (case xci2 => k_is); (case xki2 => k_is); (case xsb2 => k_is); (case xfo_0_2 => k_is); (case xa3 => k_is); (case xl3 => k_is); (case xm3 => rfl); (case xs3 => k_is); (case xe3 => k_is); (case xt3 => k_is); (case xk3 => k_is); (case xga3 => k_is); (case xgg3 => k_is); (case xhd3 => k_is); (case xat3 => k_is); (case xmo3 => k_is); (case xi3 => k_is); (case xti3 => k_is); (case xli3 => k_is); (case xci3 => k_is); (case xki3 => k_is); (case xsb3 => k_is); (case xfo_0_3 => k_is); (case xa4 => k_is); (case xl4 => k_is); (case xm4 => rfl); (case xs4 => k_is); (case xe4 => k_is); (case xt4 => k_is); (case xk4 => k_is); (case xga4 => k_is); (case xgg4 => k_is); (case xhd4 => k_is); (case xat4 => k_is); (case xmo4 => k_is); (case xi4 => k_is); (case xti4 => k_is); (case xli4 => k_is); (case xci4 => k_is); (case xki4 => k_is); (case xsb4 => k_is); (case xfo_0_4 => k_is); (case xa5 => k_is); (case xl5 => k_is); (case xm5 => rfl); (case xs5 => k_is); (case xe5 => k_is); (case xt5 => k_is); (case xk5 => k_is); (case xga5 => k_is); (case xgg5 => k_is); (case xhd5 => k_is); (case xat5 => k_is); (case xmo5 => k_is); (case xi5 => k_is); (case xti5 => k_is); (case xli5 => k_is); (case xci5 => k_is); (case xki5 => k_is); (case xsb5 => k_is); (case xfo_0_5 => k_is); (case xa6 => k_is); (case xl6 => k_is); (case xm6 => rfl); (case xs6 => k_is); (case xe6 => k_is); (case xt6 => k_is); (case xk6 => k_is); (case xga6 => k_is); (case xgg6 => k_is); (case xhd6 => k_is); (case xat6 => k_is); (case xmo6 => k_is); (case xi6 => k_is); (case xti6 => k_is); (case xli6 => k_is); (case xci6 => k_is); (case xki6 => k_is); (case xsb6 => k_is); (case xfo_0_6 => k_is); (case xa7 => k_is); (case xl7 => k_is); (case xm7 => rfl); (case xs7 => k_is); (case xe7 => k_is); (case xt7 => k_is); (case xk7 => k_is); (case xga7 => k_is); (case xgg7 => k_is); (case xhd7 => k_is); (case xat7 => k_is); (case xmo7 => k_is); (case xi7 => k_is); (case xti7 => k_is); (case xli7 => k_is); (case xci7 => k_is); (case xki7 => k_is); (case xsb7 => k_is); (case xfo_0_7 => k_is); (case xa8 => k_is); (case xl8 => k_is); (case xm8 => rfl); (case xs8 => k_is); (case xe8 => k_is); (case xt8 => k_is); (case xk8 => k_is); (case xga8 => k_is); (case xgg8 => k_is); (case xhd8 => k_is); (case xat8 => k_is); (case xmo8 => k_is); (case xi8 => k_is); (case xti8 => k_is); (case xli8 => k_is); (case xci8 => k_is); (case xki8 => k_is); (case xsb8 => k_is); (case xfo_0_8 => k_is); (case xa9 => k_is); (case xl9 => k_is); (case xm9 => rfl); (case xs9 => k_is); (case xe9 => k_is); (case xt9 => k_is); (case xk9 => k_is); (case xga9 => k_is); (case xgg9 => k_is); (case xhd9 => k_is); (case xat9 => k_is); (case xmo9 => k_is); (case xi9 => k_is); (case xti9 => k_is); (case xli9 => k_is); (case xci9 => k_is); (case xki9 => k_is); (case xsb9 => k_is); (case xfo_0_9 => k_is); (case xfo_1_9 => k_is); (case z_all => k_is); (case z_any => k_is); (case z_bool => k_is); (case z_enumerate => k_is); (case z_int => k_is); (case z_isinstance => k_is); (case z_len => k_is); (case z_list => k_is); (case z_max => k_is); (case z_min => k_is); (case z_range => k_is); (case z_repr => k_is); (case z_sorted => k_is); (case z_str => k_is); (case z_tuple => k_is); (case z_zip => k_is); (case v_LETTERS => k_is); (case v_MOST_LENGTH => k_is); (case v_MOST_PLACES => k_is); (case v_MOST_TIES => k_is)
