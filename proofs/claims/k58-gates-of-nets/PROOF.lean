import PyProof.Rows.All
import Wide.All
import OpenK.AllK
import Wide.FinOn
import Lean
import HandS.ForMost
import HandS.Exc
import HandS.Walk
import HandS.CallSlots
import HandS.HeadEnd
import HandS.HeadHook1
import HandS.HeadHook2
import HandS.TupAny
import HandS.TupMul
import HandS.Deep
import HandS.Flow
import HandS.IsInst
import HandS.StrMore
import HandS.WideBits
import HandS.More
import PyProof.StrWalks
import KE.GoesZip
import KE.GoesMore
import KE.GoesEnum
import KE.KDictZip
import HandS.Keys
import HandS.ReplaceList
import HandS.ReplaceLit
import HandS.DictComp
import HandS.Style
import HandS.ExcOwn
import HandS.Defaults
import HandS.ForSpec
import HandS.ExcIs
import HandS.RaiseMore
import PyProof.SliceStr2
import HandS.SetFor
import HandS.Ends
import HandS.Words
import HandS.WordsExc
import HandS.Head0
import HandS.Head1
import HandS.Head2
import PyProof.StrLawsIn
import HandS.Base
import HandS.Call
import PySem.Challenge.RW_lamptables_k58_gates_of_nets
set_option Elab.async false
set_option linter.all false
set_option autoImplicit false
set_option maxRecDepth 100000
set_option maxHeartbeats 4000000
namespace Ev
open PySem PySem.Spec L2
open PyProof.Rows hiding St

/-! ### data, slots, results -/
inductive D where
  | non | bl (b : Bool) | int (i : Int) | str (s : List Nat) | tup (xs : List D) | lst (xs : List D) | ext (xs : List D)
  | dic (t : Bool) (ks : List D) (vs : List D) | set (xs : List D) | fn (x : Str) | cls (x : Str) | ty (n : String) | exn (x : Str) (ns : List Str) (vs : List D)
  deriving Inhabited
inductive Slot where
  | none | val (d : D) | own (io : Bool) (d : D)
  deriving Inhabited
abbrev EnvS := List Slot
inductive Op where
  | val (d : D) | place (i : Nat) | fresh (d : D)
inductive R (α : Type) where
  | ok (a : α) (δ : EnvS) | ex (e : D) (δ : EnvS) | bad
abbrev M (α : Type) := EnvS → R α
def M.bind {α β : Type} (f : M α) (g : α → M β) : M β := fun δ => match f δ with
  | .ok a δ' => g a δ'
  | .ex e δ' => .ex e δ'
  | .bad => .bad

/-! ### what stands for a datum -/
def Sb (F H : Hp) : Prop := ∀ a o, F a = some o → H a = some o
theorem Sb.refl {F : Hp} : Sb F F := fun _ _ h => h
theorem Sb.trans {F G H : Hp} (a : Sb F G) (b : Sb G H) : Sb F H := fun x o h => b x o (a x o h)
theorem Sb.upd_new {F : Hp} {p : Addr} {o : HO} (h : F p = none) : Sb F (upd F p o) := fun a u e => by
  rw [upd_ne (ne_of_none e h)]; exact e
/-- a frozen one that is written again as it stands -/
theorem Sb.upd_add {F : Hp} {p : Addr} {o : HO} (h : F p = none ∨ F p = some o) : Sb F (upd F p o) := fun a u e => by
  by_cases q : a = p
  · subst q
    rcases h with h | h
    · rw [h] at e; cases e
    · rw [upd_same]; rw [h] at e; exact e
  · rw [upd_ne q]; exact e
theorem Sb.nn {F H : Hp} (s : Sb F H) {p : Addr} (h : H p = none) : F p = none := by
  cases e : F p with
  | none => rfl
  | some o => rw [s p o e] at h; cases h
theorem Sb.upd_both {F H : Hp} (s : Sb F H) {p : Addr} {o : HO} : Sb (upd F p o) (upd H p o) := fun a u e => by
  by_cases q : a = p
  · subst q; rw [upd_same] at e ⊢; exact e
  · rw [upd_ne q] at e ⊢; exact s a u e
theorem Sb.upd_right {F H : Hp} (s : Sb F H) {p : Addr} {o : HO} (h : F p = none) : Sb F (upd H p o) := fun a u e => by
  rw [upd_ne (ne_of_none e h)]; exact s a u e
theorem Sb.upd_left {F H : Hp} (s : Sb F H) {p : Addr} {o : HO} (h : H p = some o) : Sb (upd F p o) H := fun a u e => by
  by_cases q : a = p
  · subst q; rw [upd_same] at e; cases e; exact h
  · rw [upd_ne q] at e; exact s a u e
theorem Rd.sub {F H : Hp} (s : Sb F H) {a : Addr} {u : HO} (h : Rd F a u) : Rd H a u := by
  rcases h with h | ⟨o, h⟩
  · exact .inl (s _ _ h)
  · exact .inr ⟨o, s _ _ h⟩
theorem SqL.sub {K : PySem.W.Frag} {F H : Hp} (s : Sb F H) {a : Addr} {xs : List V} (h : SqL K F a xs) : SqL K H a xs := h.elim (fun h => .inl (Rd.sub s h)) .inr
theorem SqT.sub {K : PySem.W.Frag} {F H : Hp} (s : Sb F H) {a : Addr} {xs : List V} (h : SqT K F a xs) : SqT K H a xs := h.elim (fun h => .inl (Rd.sub s h)) .inr

/-- keys of dicts: ints and texts -/
def keyD : D → Option Key
  | .int i => some (.inl i)
  | .str s => some (.inr ⟨s.toArray⟩)
  | _ => none
def keysD : List D → Option (List Key)
  | [] => some []
  | d :: ds => match keyD d, keysD ds with
    | some k, some ks => some (k :: ks)
    | _, _ => none
def keysT : List D → Option (List (List Key))
  | [] => some []
  | d :: ds => match d with
    | .tup xs => match keysD xs, keysT ds with
      | some k, some ks => some (k :: ks)
      | _, _ => none
    | _ => none
/-- the dict object of these keys and values (t: the keys are tuples) -/
def dictO (t : Bool) (ks : List D) (vs : List V) : Option HO :=
  if t then (keysT ks).map fun l => .dT (l.zip vs) else (keysD ks).map fun l => .dK (l.zip vs)
mutual
def Rep (K : PySem.W.Frag) (F : Hp) : D → V → Prop
  | .non, v => v = .non
  | .bl b, v => v = .bl b
  | .int i, v => v = .int i
  | .str s, v => v = .str ⟨s.toArray⟩
  | .tup xs, v => ∃ a vs, v = .ref a ∧ F a = some (.tup vs) ∧ RepL K F xs vs
  | .lst xs, v => ∃ a vs, v = .ref a ∧ F a = some (.lst vs) ∧ RepL K F xs vs
  | .ext xs, v => ∃ a vs, v = .ref a ∧ SqL K F a vs ∧ RepL K F xs vs
  | .dic t ks xs, v => ∃ a vs o, v = .ref a ∧ F a = some o ∧ dictO t ks vs = some o ∧ RepL K F xs vs
  | .ty n, v => v = .ty n
  | _, _ => False
def RepL (K : PySem.W.Frag) (F : Hp) : List D → List V → Prop
  | [], vs => vs = []
  | d :: ds, vs => ∃ v r, vs = v :: r ∧ Rep K F d v ∧ RepL K F ds r
end
mutual
theorem Rep.sub {K : PySem.W.Frag} {F H : Hp} (s : Sb F H) : ∀ (d : D) (v : V), Rep K F d v → Rep K H d v
  | .non, v, h => by unfold Rep at h ⊢; exact h
  | .bl b, v, h => by unfold Rep at h ⊢; exact h
  | .int i, v, h => by unfold Rep at h ⊢; exact h
  | .str x, v, h => by unfold Rep at h ⊢; exact h
  | .tup xs, v, h => by
    unfold Rep at h ⊢
    obtain ⟨a, vs, e, q, r⟩ := h
    exact ⟨a, vs, e, s _ _ q, RepL.sub s xs vs r⟩
  | .lst xs, v, h => by
    unfold Rep at h ⊢
    obtain ⟨a, vs, e, q, r⟩ := h
    exact ⟨a, vs, e, s _ _ q, RepL.sub s xs vs r⟩
  | .ext xs, v, h => by
    unfold Rep at h ⊢
    obtain ⟨a, vs, e, q, r⟩ := h
    exact ⟨a, vs, e, SqL.sub s q, RepL.sub s xs vs r⟩
  | .dic t ks xs, v, h => by
    unfold Rep at h ⊢
    obtain ⟨a, vs, o, e, q, q2, r⟩ := h
    exact ⟨a, vs, o, e, s _ _ q, q2, RepL.sub s xs vs r⟩
  | .ty n, v, h => by unfold Rep at h ⊢; exact h
  | .set xs, v, h => by unfold Rep at h; exact h.elim
  | .fn x, v, h => by unfold Rep at h; exact h.elim
  | .cls x, v, h => by unfold Rep at h; exact h.elim
  | .exn x ns vs, v, h => by unfold Rep at h; exact h.elim
theorem RepL.sub {K : PySem.W.Frag} {F H : Hp} (s : Sb F H) : ∀ (ds : List D) (vs : List V), RepL K F ds vs → RepL K H ds vs
  | [], vs, h => by unfold RepL at h ⊢; exact h
  | d :: ds, vs, h => by
    unfold RepL at h ⊢
    obtain ⟨v, r, e, h1, h2⟩ := h
    exact ⟨v, r, e, Rep.sub s d v h1, RepL.sub s ds r h2⟩
end
theorem RepL.length {K : PySem.W.Frag} {F : Hp} : ∀ {ds : List D} {vs : List V}, RepL K F ds vs → vs.length = ds.length
  | [], vs, h => by unfold RepL at h; subst h; rfl
  | d :: ds, vs, h => by
    unfold RepL at h
    obtain ⟨v, r, e, h1, h2⟩ := h
    subst e
    simp [RepL.length h2]
theorem RepL.get {K : PySem.W.Frag} {F : Hp} : ∀ {ds : List D} {vs : List V}, RepL K F ds vs → ∀ {i : Nat} {d : D}, ds[i]? = some d → ∃ v, vs[i]? = some v ∧ Rep K F d v
  | [], vs, h, i, d, e => by simp at e
  | d :: ds, vs, h, i, d', e => by
    unfold RepL at h
    obtain ⟨v, r, e', h1, h2⟩ := h
    subst e'
    cases i with
    | zero => simp at e; subst e; exact ⟨v, by simp, h1⟩
    | succ i => simp at e; obtain ⟨u, h3, h4⟩ := RepL.get h2 e; exact ⟨u, by simpa using h3, h4⟩
theorem RepL.getV {K : PySem.W.Frag} {F : Hp} {ds : List D} {vs : List V} (h : RepL K F ds vs) {i : Nat} {v : V} (e : vs[i]? = some v) : ∃ d, ds[i]? = some d ∧ Rep K F d v := by
  have hl := h.length
  obtain ⟨hi, _⟩ := List.getElem?_eq_some_iff.mp e
  have hd : ds[i]? = some (ds[i]'(by omega)) := List.getElem?_eq_getElem _
  obtain ⟨w, h1, h2⟩ := h.get hd
  rw [h1] at e; cases e
  exact ⟨_, hd, h2⟩
theorem RepL.append {K : PySem.W.Frag} {F : Hp} : ∀ {ds es : List D} {vs us : List V}, RepL K F ds vs → RepL K F es us → RepL K F (ds ++ es) (vs ++ us)
  | [], es, vs, us, h, g => by unfold RepL at h; subst h; exact g
  | d :: ds, es, vs, us, h, g => by
    unfold RepL at h
    obtain ⟨v, r, e, h1, h2⟩ := h
    subst e
    show RepL K F (d :: (ds ++ es)) (v :: (r ++ us))
    unfold RepL
    exact ⟨v, r ++ us, rfl, h1, RepL.append h2 g⟩
theorem RepL.nil {K : PySem.W.Frag} {F : Hp} : RepL K F [] [] := by unfold RepL; rfl
theorem RepL.cons {K : PySem.W.Frag} {F : Hp} {d : D} {v : V} {ds : List D} {vs : List V} (h : Rep K F d v) (t : RepL K F ds vs) : RepL K F (d :: ds) (v :: vs) := by
  unfold RepL; exact ⟨v, vs, rfl, h, t⟩
theorem RepL.one {K : PySem.W.Frag} {F : Hp} {d : D} {v : V} (h : Rep K F d v) : RepL K F [d] [v] := .cons h .nil
theorem RepL.take {K : PySem.W.Frag} {F : Hp} : ∀ {ds : List D} {vs : List V} (n : Nat), RepL K F ds vs → RepL K F (ds.take n) (vs.take n)
  | [], vs, n, h => by unfold RepL at h; subst h; simp; exact .nil
  | d :: ds, vs, 0, h => by simp; exact .nil
  | d :: ds, vs, n + 1, h => by
    unfold RepL at h
    obtain ⟨v, r, e, h1, h2⟩ := h
    subst e
    exact .cons h1 (RepL.take n h2)
theorem RepL.drop {K : PySem.W.Frag} {F : Hp} : ∀ {ds : List D} {vs : List V} (n : Nat), RepL K F ds vs → RepL K F (ds.drop n) (vs.drop n)
  | [], vs, n, h => by unfold RepL at h; subst h; simp; exact .nil
  | d :: ds, vs, 0, h => h
  | d :: ds, vs, n + 1, h => by
    unfold RepL at h
    obtain ⟨v, r, e, h1, h2⟩ := h
    subst e
    exact RepL.drop n h2
theorem RepL.set {K : PySem.W.Frag} {F : Hp} {d : D} {v : V} (hd : Rep K F d v) : ∀ {ds : List D} {vs : List V} (i : Nat), RepL K F ds vs → RepL K F (ds.set i d) (vs.set i v)
  | [], vs, n, h => by unfold RepL at h; subst h; simp; exact .nil
  | e :: ds, vs, 0, h => by
    unfold RepL at h
    obtain ⟨v', r, e', h1, h2⟩ := h
    subst e'
    exact .cons hd h2
  | e :: ds, vs, n + 1, h => by
    unfold RepL at h
    obtain ⟨v', r, e', h1, h2⟩ := h
    subst e'
    exact .cons h1 (RepL.set hd n h2)

/-- an own thing: a list, a dict, as it stands -/
def ObR (K : PySem.W.Frag) (F H : Hp) (a : Addr) : D → Prop
  | .lst xs => ∃ vs, H a = some (.lst vs) ∧ RepL K F xs vs
  | .dic t ks xs => ∃ vs o, H a = some o ∧ dictO t ks vs = some o ∧ RepL K F xs vs
  | _ => False
theorem ObR.there {K : PySem.W.Frag} {F H : Hp} {a : Addr} {d : D} (h : ObR K F H a d) : ∃ o, H a = some o := by
  cases d <;> first | exact h.elim | (obtain ⟨vs, h, _⟩ := h; exact ⟨_, h⟩) | (obtain ⟨vs, o, h, _⟩ := h; exact ⟨_, h⟩)
theorem ObR.mono {K : PySem.W.Frag} {F H F' H' : Hp} {a : Addr} {d : D} (h : ObR K F H a d) (s : Sb F F') (e : H' a = H a) : ObR K F' H' a d := by
  cases d with
  | lst xs => obtain ⟨vs, h1, h2⟩ := h; exact ⟨vs, e.trans h1, RepL.sub s _ _ h2⟩
  | dic t ks xs => obtain ⟨vs, o, h1, h2, h3⟩ := h; exact ⟨vs, o, e.trans h1, h2, RepL.sub s _ _ h3⟩
  | _ => exact h.elim
/-- frozen it stands for the datum -/
theorem ObR.freeze {K : PySem.W.Frag} {F H : Hp} {a : Addr} {d : D} (h : ObR K F H a d) {o : HO} (e : H a = some o) (n : F a = none ∨ F a = some o) : Rep K (upd F a o) d (.ref a) := by
  have s : Sb F (upd F a o) := Sb.upd_add n
  cases d with
  | lst xs =>
    obtain ⟨vs, h1, h2⟩ := h
    rw [h1] at e; cases e
    unfold Rep
    exact ⟨a, vs, rfl, upd_same, RepL.sub s _ _ h2⟩
  | dic t ks xs =>
    obtain ⟨vs, o', h1, h2, h3⟩ := h
    rw [h1] at e; cases e
    unfold Rep
    exact ⟨a, vs, _, rfl, upd_same, h2, RepL.sub s _ _ h3⟩
  | _ => exact h.elim

/-! ### the state -/
/-- what must stay as it is, and where the slots that are lent stand -/
structure GP where
  h : Hp
  p : Nat → Option Addr
instance : CoeFun GP fun _ => Addr → Option HO := ⟨GP.h⟩
def GP.put (G : GP) (a : Addr) (o : HO) : GP := ⟨upd G.h a o, G.p⟩
structure SbG (G G' : GP) : Prop where
  h : Sb G.h G'.h
  p : G.p = G'.p
theorem SbG.refl {G : GP} : SbG G G := ⟨.refl, rfl⟩
theorem SbG.trans {G G' G'' : GP} (a : SbG G G') (b : SbG G' G'') : SbG G G'' := ⟨a.h.trans b.h, a.p.trans b.p⟩
theorem SbG.upd_new {G : GP} {a : Addr} {o : HO} (h : G a = none) : SbG G (G.put a o) := ⟨.upd_new h, rfl⟩
theorem GP.same {G : GP} {a : Addr} {o : HO} : G.put a o a = some o := by show upd G.h a o a = _; exact upd_same
theorem GP.ne {G : GP} {a b : Addr} {o : HO} (h : b ≠ a) : G.put a o b = G b := by show upd G.h a o b = _; exact upd_ne h
def SlotOk (K : PySem.W.Frag) (G : GP) (F H : Hp) (σ : St) (i : Nat) : Slot → Prop
  | .none => True
  | .val d => ∃ v, σ[i]? = some (some v) ∧ Rep K F d v
  | .own _ d => ∃ a, σ[i]? = some (some (.ref a)) ∧ F a = none ∧ G a = none ∧ ObR K F H a d
def Slot.isOwn : Slot → Bool
  | .own _ _ => true
  | _ => false
/-- G: what must stay as it is, F: what is frozen, H: the heap; δ tells the slots -/
structure Rel (K : PySem.W.Frag) (G : GP) (F H : Hp) (σ : St) (δ : EnvS) : Prop where
  subF : Sb F H
  subG : Sb G.h H
  disj : ∀ a o, G a = some o → F a = none
  slot : ∀ (i : Nat) (s : Slot), δ[i]? = some s → SlotOk K G F H σ i s
  inj : ∀ (i j : Nat) (s t : Slot) (a : Addr), δ[i]? = some s → s.isOwn = true → δ[j]? = some t → t.isOwn = true → σ[i]? = some (some (.ref a)) → σ[j]? = some (some (.ref a)) → i = j
  len : δ.length = σ.length
  pin : ∀ (i : Nat) (d : D), δ[i]? = some (.own true d) → ∃ a, σ[i]? = some (some (.ref a)) ∧ G.p i = some a
def OwnAt (σ : St) (δ : EnvS) (a : Addr) : Prop := ∃ (i : Nat) (s : Slot), δ[i]? = some s ∧ s.isOwn = true ∧ σ[i]? = some (some (.ref a))
theorem Rel.own_of {K : PySem.W.Frag} {G : GP} {F H : Hp} {σ : St} {δ : EnvS} (r : Rel K G F H σ δ) {a : Addr} (h : OwnAt σ δ a) : F a = none ∧ G a = none ∧ ∃ d, ObR K F H a d := by
  obtain ⟨i, s, h1, h2, h3⟩ := h
  cases s with
  | none => cases h2
  | val d => cases h2
  | own io d =>
    obtain ⟨b, e, f, g, o⟩ := r.slot i _ h1
    rw [e] at h3; cases h3
    exact ⟨f, g, d, o⟩
theorem Rel.not_own {K : PySem.W.Frag} {G : GP} {F H : Hp} {σ : St} {δ : EnvS} (r : Rel K G F H σ δ) {a : Addr} {o : HO} (h : F a = some o ∨ G a = some o ∨ H a = none) : ¬ OwnAt σ δ a := fun q => by
  obtain ⟨f, g, d, ob⟩ := r.own_of q
  rcases h with h | h | h
  · rw [f] at h; cases h
  · rw [g] at h; cases h
  · obtain ⟨o, e⟩ := ob.there; rw [e] at h; cases h
/-- other heaps with the same own things -/
theorem Rel.move {K : PySem.W.Frag} {G : GP} {F H : Hp} {G' : GP} {F' H' : Hp} {σ : St} {δ : EnvS} (r : Rel K G F H σ δ) (sF : Sb F F') (hF : Sb F' H') (hG : Sb G'.h H') (dj : ∀ a o, G' a = some o → F' a = none)
    (ow : ∀ a, OwnAt σ δ a → F' a = none ∧ G' a = none ∧ H' a = H a) (hp : G'.p = G.p := by rfl) : Rel K G' F' H' σ δ := by
  refine ⟨hF, hG, dj, fun i s e => ?_, r.inj, r.len, fun i d e => by rw [hp]; exact r.pin i d e⟩
  have q := r.slot i s e
  cases s with
  | none => trivial
  | val d => obtain ⟨v, h1, h2⟩ := q; exact ⟨v, h1, Rep.sub sF _ _ h2⟩
  | own io d =>
    obtain ⟨a, h1, h2, h3, h4⟩ := q
    obtain ⟨n1, n2, n3⟩ := ow a ⟨i, _, e, rfl, h1⟩
    exact ⟨a, h1, n1, n2, h4.mono sF n3⟩
/-- a new object is laid: not frozen -/
theorem Rel.alloc {K : PySem.W.Frag} {G : GP} {F H : Hp} {σ : St} {δ : EnvS} (r : Rel K G F H σ δ) {p : Addr} {o : HO} (n : H p = none) : Rel K G F (upd H p o) σ δ := by
  refine r.move .refl (r.subF.upd_right (r.subF.nn n)) (r.subG.upd_right (r.subG.nn n)) r.disj fun a q => ?_
  obtain ⟨f, g, d, ob⟩ := r.own_of q
  obtain ⟨u, e⟩ := ob.there
  exact ⟨f, g, upd_ne (ne_of_none e n)⟩
/-- .. frozen at once -/
theorem Rel.allocF {K : PySem.W.Frag} {G : GP} {F H : Hp} {σ : St} {δ : EnvS} (r : Rel K G F H σ δ) {p : Addr} {o : HO} (n : H p = none) : Rel K G (upd F p o) (upd H p o) σ δ := by
  have nF := r.subF.nn n
  have nG := r.subG.nn n
  refine r.move (.upd_new nF) r.subF.upd_both (r.subG.upd_right nG) (fun a u e => ?_) fun a q => ?_
  · rw [upd_ne (ne_of_none e nG)]; exact r.disj a u e
  · obtain ⟨f, g, d, ob⟩ := r.own_of q
    obtain ⟨u, e⟩ := ob.there
    have ne := ne_of_none e n
    exact ⟨by rw [upd_ne ne]; exact f, g, upd_ne ne⟩
/-- an object that is nobody's is frozen -/
theorem Rel.freezeAt {K : PySem.W.Frag} {G : GP} {F H : Hp} {σ : St} {δ : EnvS} (r : Rel K G F H σ δ) {p : Addr} {o : HO} (e : H p = some o) (nG : G p = none) (no : ¬ OwnAt σ δ p) (hF : F p = none ∨ F p = some o) : Rel K G (upd F p o) H σ δ := by
  refine r.move (.upd_add hF) (r.subF.upd_left e) r.subG (fun a u q => ?_) fun a q => ?_
  · rw [upd_ne (ne_of_none q nG)]; exact r.disj a u q
  · obtain ⟨f, g, d, ob⟩ := r.own_of q
    have ne : a ≠ p := fun z => no (z ▸ q)
    exact ⟨by rw [upd_ne ne]; exact f, g, rfl⟩
/-- less must stay -/
theorem Rel.lessG {K : PySem.W.Frag} {G G' : GP} {F H : Hp} {σ : St} {δ : EnvS} (r : Rel K G' F H σ δ) (s : SbG G G') : Rel K G F H σ δ := by
  refine r.move .refl r.subF (s.h.trans r.subG) (fun a o e => r.disj a o (s.h a o e)) (fun a q => ?_) s.p
  obtain ⟨f, g, d, ob⟩ := r.own_of q
  exact ⟨f, s.h.nn g, rfl⟩
/-- more must stay: an object that is nobody's -/
theorem Rel.moreG {K : PySem.W.Frag} {G : GP} {F H : Hp} {σ : St} {δ : EnvS} (r : Rel K G F H σ δ) {p : Addr} {o : HO} (e : H p = some o) (nF : F p = none) (no : ¬ OwnAt σ δ p) : Rel K (G.put p o) F H σ δ := by
  refine r.move .refl r.subF (r.subG.upd_left e) (fun a u q => ?_) fun a q => ?_
  · by_cases h : a = p
    · subst h; exact nF
    · rw [GP.ne h] at q; exact r.disj a u q
  · obtain ⟨f, g, d, ob⟩ := r.own_of q
    have ne : a ≠ p := fun z => no (z ▸ q)
    exact ⟨f, by rw [GP.ne ne]; exact g, rfl⟩
end Ev
set_option Elab.async false
set_option linter.all false
set_option autoImplicit false
set_option maxRecDepth 100000
set_option maxHeartbeats 4000000
namespace Ev
open PySem PySem.Spec L2
open PyProof.Rows hiding St

/-! ### results of expressions -/
def OpRep (K : PySem.W.Frag) (σ : St) (G : GP) (F H : Hp) (δ : EnvS) : Op → V → Prop
  | .val d, v => Rep K F d v
  | .place i, v => σ[i]? = some (some v)
  | .fresh d, v => ∃ a, v = .ref a ∧ F a = none ∧ G a = none ∧ ObR K F H a d ∧ ¬ OwnAt σ δ a
def deref (δ : EnvS) : Op → Option D
  | .val d => some d
  | .fresh d => some d
  | .place i => match δ[i]? with
    | some (.own _ d) => some d
    | some (.val d) => some d
    | _ => none
/-- what is read of a value now: the top thing may be one's own -/
def RepB (K : PySem.W.Frag) (F H : Hp) (d : D) (v : V) : Prop := Rep K F d v ∨ ∃ a, v = .ref a ∧ ObR K F H a d
theorem deref_rep {K : PySem.W.Frag} {G : GP} {F H : Hp} {σ : St} {δ : EnvS} {op : Op} {v : V} {d : D} (r : Rel K G F H σ δ) (h : OpRep K σ G F H δ op v) (e : deref δ op = some d) : RepB K F H d v := by
  cases op with
  | val x => cases e; exact .inl h
  | fresh x => cases e; obtain ⟨a, h1, _, _, h2, _⟩ := h; exact .inr ⟨a, h1, h2⟩
  | place i =>
    have hs : σ[i]? = some (some v) := h
    unfold deref at e
    dsimp only at e
    split at e
    · rename_i d' hd
      cases e
      obtain ⟨a, h1, _, _, h2⟩ := r.slot i _ hd
      rw [hs] at h1; cases h1
      exact .inr ⟨a, rfl, h2⟩
    · rename_i d' hd
      cases e
      obtain ⟨u, h1, h2⟩ := r.slot i _ hd
      rw [hs] at h1; cases h1
      exact .inl h2
    · cases e
/-- while more is reckoned a new thing must stay -/
def pend (G : GP) (H : Hp) : Op → V → GP
  | .fresh _, .ref a => match H a with
    | some o => G.put a o
    | none => G
  | _, _ => G
theorem Rel.pend {K : PySem.W.Frag} {G : GP} {F H : Hp} {σ : St} {δ : EnvS} {op : Op} {v : V} (r : Rel K G F H σ δ) (h : OpRep K σ G F H δ op v) : Rel K (pend G H op v) F H σ δ := by
  cases op with
  | val x => exact r
  | place i => exact r
  | fresh x =>
    obtain ⟨a, rfl, h1, h2, h3, h4⟩ := h
    obtain ⟨o, e⟩ := h3.there
    show Rel K (match H a with | some o => G.put a o | none => G) F H σ δ
    rw [e]
    exact r.moreG e h1 h4
theorem pend_sub {K : PySem.W.Frag} {G : GP} {F H : Hp} {σ : St} {δ : EnvS} {op : Op} {v : V} (h : OpRep K σ G F H δ op v) : SbG G (Ev.pend G H op v) := by
  cases op with
  | val x => exact .refl
  | place i => exact .refl
  | fresh x =>
    obtain ⟨a, rfl, h1, h2, h3, h4⟩ := h
    obtain ⟨o, e⟩ := h3.there
    show SbG G (match H a with | some o => G.put a o | none => G)
    rw [e]
    exact .upd_new h2
theorem pend_keep {K : PySem.W.Frag} {G : GP} {F H F' H' : Hp} {σ : St} {δ δ' : EnvS} {op : Op} {v : V} (h : OpRep K σ G F H δ op v) (s : Sb F F') (r : Rel K (Ev.pend G H op v) F' H' σ δ') : OpRep K σ G F' H' δ' op v := by
  cases op with
  | val x => exact Rep.sub s _ _ h
  | place i => exact h
  | fresh x =>
    obtain ⟨a, rfl, h1, h2, h3, h4⟩ := h
    obtain ⟨o, e⟩ := h3.there
    have r' : Rel K (match H a with | some o => G.put a o | none => G) F' H' σ δ' := r
    rw [e] at r'
    have ea : H' a = some o := r'.subG a o upd_same
    exact ⟨a, rfl, r'.disj a o upd_same, h2, h3.mono s (ea.trans e.symm), r'.not_own (.inr (.inl upd_same))⟩

/-- an exception's datum -/
def ExRep (K : PySem.W.Frag) (F : Hp) (e : D) (cls : Value) (d : Option Addr) : Prop :=
  match e with
  | .exn x ns ds => cls = .ref (He.ga K x) ∧ ∃ a vs, d = some a ∧ F a = some (.xd (ns.zip vs)) ∧ RepL K F ds vs
  | _ => False
/-- what a result promises -/
def Sat {α β : Type} (K : PySem.W.Frag) (G : GP) (F : Hp) (σ : St) (W : WX) (r : R α) (VR : Hp → Hp → EnvS → α → β → Prop) (Q : β → Hp → Prop) : Prop :=
  match r with
  | .ok a δ' => ∀ b F' H', Sb F F' → Rel K G F' H' σ δ' → VR F' H' δ' a b → Q b H'
  | .ex e δ' => ∀ F' H' cls d, Sb F F' → Rel K G F' H' σ δ' → ExRep K F' e cls d → W cls d σ H'
  | .bad => False
section
variable {α β : Type} {K : PySem.W.Frag} {G : GP} {F F1 H : Hp} {σ : St} {W : WX}
theorem Sat.mono {r : R α} {VR VR' : Hp → Hp → EnvS → α → β → Prop} {Q Q' : β → Hp → Prop} (h : Sat K G F σ W r VR Q) (hv : ∀ F' H' δ' a b, Rel K G F' H' σ δ' → VR' F' H' δ' a b → VR F' H' δ' a b) (hq : ∀ b H', Q b H' → Q' b H') : Sat K G F σ W r VR' Q' := by
  cases r with
  | ok a δ' => exact fun b F' H' s r v => hq b H' (h b F' H' s r (hv _ _ _ _ _ r v))
  | ex e δ' => exact h
  | bad => exact h
theorem Sat.up {r : R α} {VR : Hp → Hp → EnvS → α → β → Prop} {Q : β → Hp → Prop} (h : Sat K G F σ W r VR Q) (s : Sb F F1) : Sat K G F1 σ W r VR Q := by
  cases r with
  | ok a δ' => exact fun b F' H' s' r v => h b F' H' (s.trans s') r v
  | ex e δ' => exact fun F' H' cls d s' r x => h F' H' cls d (s.trans s') r x
  | bad => exact h
theorem Sat.lessG {G' : GP} {r : R α} {VR VR' : Hp → Hp → EnvS → α → β → Prop} {Q : β → Hp → Prop} (h : Sat K G F σ W r VR Q) (s : SbG G G') (hv : ∀ F' H' δ' a b, Rel K G' F' H' σ δ' → VR' F' H' δ' a b → VR F' H' δ' a b) : Sat K G' F σ W r VR' Q := by
  cases r with
  | ok a δ' => exact fun b F' H' s' r v => h b F' H' s' (r.lessG s) (hv _ _ _ _ _ r v)
  | ex e δ' => exact fun F' H' cls d s' r x => h F' H' cls d s' (r.lessG s) x
  | bad => exact h
end
/-! ### readings -/
abbrev VE (K : PySem.W.Frag) (σ : St) (G : GP) : Hp → Hp → EnvS → Op → V → Prop := fun F' H' δ' a b => OpRep K σ G F' H' δ' a b
abbrev VT : Hp → Hp → EnvS → Bool → Bool → Prop := fun _ _ _ a b => a = b
/-- an argument list: all frozen -/
abbrev VL (K : PySem.W.Frag) : Hp → Hp → EnvS → List D → List V → Prop := fun F' _ _ a b => RepL K F' a b
def tE (K : PySem.W.Frag) (f : M Op) (W : WX) : TE := fun σ H Q => ∃ G F δ, Rel K G F H σ δ ∧ Sat K G F σ W (f δ) (VE K σ G) Q
def tT (K : PySem.W.Frag) (f : M Bool) (W : WX) : TT := fun σ H Q => ∃ G F δ, Rel K G F H σ δ ∧ Sat K G F σ W (f δ) VT Q
def tA (K : PySem.W.Frag) (f : M (List D)) (W : WX) : TA := fun σ H Q => ∃ G F δ, Rel K G F H σ δ ∧ Sat K G F σ W (f δ) (VL K) Q
structure DE (X : Cx) (e : Expr) (f : M Op) : Prop where
  run : ∀ W, Takes X W → PE X e (tE X.K f W)
structure DT (X : Cx) (e : Expr) (f : M Bool) : Prop where
  run : ∀ W, Takes X W → PT X e (tT X.K f W)
structure DW (X : Cx) (e : Expr) (f : M Bool) : Prop where
  run : ∀ W, Takes X W → PW X e (tT X.K f W)
structure DA (X : Cx) (es : List Expr) (f : M (List D)) : Prop where
  run : ∀ W, Takes X W → PA X es (tA X.K f W)
section
variable {X : Cx} {e : Expr}
theorem PE.weak {t t' : TE} (h : PE X e t) (k : ∀ pins s σ H Q, Inv X pins σ H s → t' σ H Q → t σ H Q) : PE X e t' := ⟨fun pins s σ H Q I q => h.run pins s σ H Q I (k pins s σ H Q I q)⟩
theorem PT.weak {t t' : TT} (h : PT X e t) (k : ∀ pins s σ H Q, Inv X pins σ H s → t' σ H Q → t σ H Q) : PT X e t' := ⟨fun pins s σ H Q I q => h.run pins s σ H Q I (k pins s σ H Q I q)⟩
theorem PW.weak {t t' : TT} (h : PW X e t) (k : ∀ pins s σ H Q, Inv X pins σ H s → t' σ H Q → t σ H Q) : PW X e t' := ⟨fun w pins s σ H Q I q => h.run w pins s σ H Q I (k pins s σ H Q I q)⟩
theorem PA.weak {es : List Expr} {t t' : TA} (h : PA X es t) (k : ∀ pins s σ H Q, Inv X pins σ H s → t' σ H Q → t σ H Q) : PA X es t' := ⟨fun p pins s σ H Q I q => h.run p pins s σ H Q I (k pins s σ H Q I q)⟩
end
/-- the first part of a row: fa, then g; a new thing of fa must stay meanwhile -/
theorem bindE {α β : Type} {K : PySem.W.Frag} {G G' : GP} {F H : Hp} {σ : St} {δ : EnvS} {W : WX} {fa : M Op} {g : Op → M α} {VR : Hp → Hp → EnvS → α → β → Prop} {Q : β → Hp → Prop} {P : V → Hp → Prop}
    (r : Rel K G' F H σ δ) (sG : SbG G G') (h : Sat K G F σ W (M.bind fa g δ) VR Q)
    (k : ∀ op δ1 v F1 H1, Sb F F1 → Rel K G' F1 H1 σ δ1 → OpRep K σ G' F1 H1 δ1 op v → Sat K G F1 σ W (g op δ1) VR Q → P v H1) : tE K fa W σ H P := by
  refine ⟨G', F, δ, r, ?_⟩
  unfold M.bind at h
  cases e : fa δ with
  | ok op δ1 =>
    rw [e] at h
    exact fun v F1 H1 s r1 o => k op δ1 v F1 H1 s r1 o (h.up s)
  | ex x δ1 => rw [e] at h; exact fun F' H' cls d s' r x => h F' H' cls d s' (r.lessG sG) x
  | bad => rw [e] at h; exact h.elim
theorem bindT {α β : Type} {K : PySem.W.Frag} {G G' : GP} {F H : Hp} {σ : St} {δ : EnvS} {W : WX} {fa : M Bool} {g : Bool → M α} {VR : Hp → Hp → EnvS → α → β → Prop} {Q : β → Hp → Prop} {P : Bool → Hp → Prop}
    (r : Rel K G' F H σ δ) (sG : SbG G G') (h : Sat K G F σ W (M.bind fa g δ) VR Q)
    (k : ∀ b δ1 F1 H1, Sb F F1 → Rel K G' F1 H1 σ δ1 → Sat K G F1 σ W (g b δ1) VR Q → P b H1) : tT K fa W σ H P := by
  refine ⟨G', F, δ, r, ?_⟩
  unfold M.bind at h
  cases e : fa δ with
  | ok b δ1 =>
    rw [e] at h
    exact fun b' F1 H1 s r1 o => by have o : b = b' := o; subst o; exact k b δ1 F1 H1 s r1 (h.up s)
  | ex x δ1 => rw [e] at h; exact fun F' H' cls d s' r x => h F' H' cls d s' (r.lessG sG) x
  | bad => rw [e] at h; exact h.elim
theorem bindA {α β : Type} {K : PySem.W.Frag} {G G' : GP} {F H : Hp} {σ : St} {δ : EnvS} {W : WX} {fa : M (List D)} {g : List D → M α} {VR : Hp → Hp → EnvS → α → β → Prop} {Q : β → Hp → Prop} {P : List V → Hp → Prop}
    (r : Rel K G' F H σ δ) (sG : SbG G G') (h : Sat K G F σ W (M.bind fa g δ) VR Q)
    (k : ∀ ds δ1 vs F1 H1, Sb F F1 → Rel K G' F1 H1 σ δ1 → RepL K F1 ds vs → Sat K G F1 σ W (g ds δ1) VR Q → P vs H1) : tA K fa W σ H P := by
  refine ⟨G', F, δ, r, ?_⟩
  unfold M.bind at h
  cases e : fa δ with
  | ok b δ1 =>
    rw [e] at h
    exact fun b' F1 H1 s r1 o => k b δ1 b' F1 H1 s r1 o (h.up s)
  | ex x δ1 => rw [e] at h; exact fun F' H' cls d s' r x => h F' H' cls d s' (r.lessG sG) x
  | bad => rw [e] at h; exact h.elim

/-! ### names, constants -/
def mOk {α : Type} (a : α) : M α := fun δ => .ok a δ
def mBad {α : Type} : M α := fun _ => .bad
def cVar (i : Nat) : M Op := fun δ => match δ[i]? with
  | some (.val d) => .ok (.val d) δ
  | some (.own _ _) => .ok (.place i) δ
  | _ => .bad
def cC (d : D) : M Op := mOk (.val d)
theorem de_var {X : Cx} {i : Nat} {x : Str} {pos : Pos} (hN : X.N[i]? = some x) (hv : Vis X.env.scope x) (hd : (x == ("__debug__" : Str)) = false) (hcd : (x == ("__classdict__" : Str)) = false) : DE X (.Name x pos) (cVar i) := by
  refine ⟨fun W tk => PE.weak (pe_var hN hv hd hcd) fun pins s σ H Q I h => ?_⟩
  obtain ⟨G, F, δ, r, h⟩ := h
  unfold cVar at h
  cases e : δ[i]? with
  | none => rw [e] at h; exact h.elim
  | some sl =>
    rw [e] at h
    have q := r.slot i sl e
    cases sl with
    | none => exact h.elim
    | val d =>
      obtain ⟨v, h1, h2⟩ := q
      exact ⟨v, h1, h v F H .refl r h2⟩
    | own io d =>
      obtain ⟨a, h1, _⟩ := q
      exact ⟨_, h1, h _ F H .refl r h1⟩
theorem de_c {X : Cx} {e : Expr} {v : V} {d : D} (h : PE X e (tC v)) (hd : ∀ F, Rep X.K F d v) : DE X e (cC d) := by
  refine ⟨fun W tk => PE.weak h fun pins s σ H Q I h => ?_⟩
  obtain ⟨G, F, δ, r, h⟩ := h
  exact h v F H .refl r (hd F)
theorem de_int {X : Cx} {i : Int} {j pos} : DE X (.Constant (.int i) j pos) (cC (.int i)) := de_c pe_int fun _ => by unfold Rep; rfl
theorem de_bl {X : Cx} {b : Bool} {j pos} : DE X (.Constant (.bool b) j pos) (cC (.bl b)) := de_c pe_bl fun _ => by unfold Rep; rfl
theorem de_non {X : Cx} {j pos} : DE X (.Constant .none j pos) (cC .non) := de_c pe_non fun _ => by unfold Rep; rfl
theorem de_str {X : Cx} {x : Str} {j pos} : DE X (.Constant (.str x) j pos) (cC (.str x.cps.toList)) := de_c pe_str fun _ => by unfold Rep; rfl

/-! ### operations on two values -/
def lift2 {α : Type} (g : D → D → Option α) (o1 o2 : Op) : M α := fun δ => match deref δ o1, deref δ o2 with
  | some x, some y => (match g x y with
    | some o => .ok o δ
    | none => .bad)
  | _, _ => .bad
def cBin (g : D → D → Option Op) (fa fb : M Op) : M Op := M.bind fa fun o1 => M.bind fb fun o2 => lift2 g o1 o2
/-- a rule for values is told by a function on data -/
def OpG (K : PySem.W.Frag) (r : R2) (g : D → D → Option Op) : Prop :=
  ∀ (σ : St) (G : GP) (F H : Hp) (δ : EnvS) (x y : D) (v w : V) (o : Op) (Q : VK), Rel K G F H σ δ → RepB K F H x v → RepB K F H y w → g x y = some o →
    (∀ u F' H', Sb F F' → Rel K G F' H' σ δ → OpRep K σ G F' H' δ o u → Q u H') → r v w H Q
theorem OpG.or {K : PySem.W.Frag} {r r' : R2} {g g' : D → D → Option Op} (h : OpG K r g) (h' : OpG K r' g') : OpG K (fun x y H Q => r x y H Q ∨ r' x y H Q) (fun x y => (g x y).orElse fun _ => g' x y) := by
  intro σ G F H δ x y v w o Q rel rx ry e k
  have e : (g x y).orElse (fun _ => g' x y) = some o := e
  cases eg : g x y with
  | some z => rw [eg] at e; cases e; exact .inl (h σ G F H δ x y v w _ Q rel rx ry eg k)
  | none => rw [eg] at e; exact .inr (h' σ G F H δ x y v w _ Q rel rx ry e k)
/-- an operand that is new by more stays new by less -/
theorem OpRep.lessG {K : PySem.W.Frag} {σ : St} {G G' : GP} {F H : Hp} {δ : EnvS} {o : Op} {v : V} (h : OpRep K σ G' F H δ o v) (s : SbG G G') : OpRep K σ G F H δ o v := by
  cases o with
  | val d => exact h
  | place i => exact h
  | fresh d => obtain ⟨a, e, n1, n2, ob, no⟩ := h; exact ⟨a, e, n1, s.h.nn n2, ob, no⟩
/-- behind both operands -/
theorem bin2 {α β : Type} {K : PySem.W.Frag} {G G' : GP} {F H : Hp} {σ : St} {δ : EnvS} {W : WX} {fa fb : M Op} {g : Op → Op → M α} {VR : Hp → Hp → EnvS → α → β → Prop} {Q : β → Hp → Prop} {P : V → V → Hp → Prop}
    (r : Rel K G' F H σ δ) (sG : SbG G G') (h : Sat K G F σ W (M.bind fa (fun o1 => M.bind fb fun o2 => g o1 o2) δ) VR Q)
    (k : ∀ o1 o2 δ2 v w F2 H2, Sb F F2 → Rel K G' F2 H2 σ δ2 → OpRep K σ G' F2 H2 δ2 o1 v → OpRep K σ G' F2 H2 δ2 o2 w → Sat K G F2 σ W (g o1 o2 δ2) VR Q → P v w H2) :
    tE K fa W σ H fun v H1 => tE K fb W σ H1 fun w H2 => P v w H2 := by
  refine bindE r sG h fun o1 δ1 v F1 H1 s1 r1 q1 h1 => ?_
  refine bindE (r1.pend q1) (sG.trans (pend_sub q1)) h1 fun o2 δ2 w F2 H2 s2 r2 q2 h3 => ?_
  exact k o1 o2 δ2 v w F2 H2 (s1.trans s2) (r2.lessG (pend_sub q1)) (pend_keep q1 s2 r2) (q2.lessG (pend_sub q1)) h3
theorem de_bin {X : Cx} {a b : Expr} {fa fb : M Op} {op : Operator} {r : R2} {g : D → D → Option Op} {pos : Pos} (ho : OpR X (binaryOp op) r) (hg : OpG X.K r g) (ha : DE X a fa) (hb : DE X b fb) : DE X (.BinOp a op b pos) (cBin g fa fb) := by
  refine ⟨fun W tk => PE.weak (pe_op ho (ha.run W tk) (hb.run W tk)) fun pins s σ H Q I h => ?_⟩
  obtain ⟨G, F, δ, r, h⟩ := h
  refine bin2 r .refl h fun o1 o2 δ2 v w F2 H2 s2 r2 q1 q2 h => ?_
  unfold lift2 at h
  cases e1 : deref δ2 o1 with
  | none => rw [e1] at h; exact h.elim
  | some x =>
    cases e2 : deref δ2 o2 with
    | none => rw [e1, e2] at h; exact h.elim
    | some y =>
      rw [e1, e2] at h
      dsimp only at h
      cases e3 : g x y with
      | none => rw [e3] at h; exact h.elim
      | some o =>
        rw [e3] at h
        exact hg σ G F2 H2 δ2 x y v w o Q r2 (deref_rep r2 q1 e1) (deref_rep r2 q2 e2) e3 fun u F' H' s' r' q' => h u F' H' s' r' q'
end Ev
set_option Elab.async false
set_option linter.all false
set_option autoImplicit false
set_option maxRecDepth 100000
set_option maxHeartbeats 4000000
namespace Ev
open PySem PySem.Spec L2
open PyProof.Rows hiding St
section
variable {K : PySem.W.Frag} {F : Hp} {G : GP} {H : Hp} {σ : St} {δ : EnvS} {v : V}
theorem Rep.toB {d : D} (h : Rep K F d v) : RepB K F H d v := .inl h
theorem RepB.non (h : RepB K F H .non v) : v = .non := by
  rcases h with h | ⟨a, e, h⟩
  · unfold Rep at h; exact h
  · exact h.elim
theorem RepB.int {i : Int} (h : RepB K F H (.int i) v) : v = .int i := by
  rcases h with h | ⟨a, e, h⟩
  · unfold Rep at h; exact h
  · exact h.elim
theorem RepB.bl {b : Bool} (h : RepB K F H (.bl b) v) : v = .bl b := by
  rcases h with h | ⟨a, e, h⟩
  · unfold Rep at h; exact h
  · exact h.elim
theorem RepB.str {x : List Nat} (h : RepB K F H (.str x) v) : v = .str ⟨x.toArray⟩ := by
  rcases h with h | ⟨a, e, h⟩
  · unfold Rep at h; exact h
  · exact h.elim
theorem RepB.ty {n : String} (h : RepB K F H (.ty n) v) : v = .ty n := by
  rcases h with h | ⟨a, e, h⟩
  · unfold Rep at h; exact h
  · exact h.elim
theorem RepB.tupF {xs : List D} (h : RepB K F H (.tup xs) v) : ∃ a vs, v = .ref a ∧ F a = some (.tup vs) ∧ RepL K F xs vs := by
  rcases h with h | ⟨a, e, h⟩
  · unfold Rep at h; exact h
  · exact h.elim
theorem RepB.tup {xs : List D} (h : RepB K F H (.tup xs) v) : ∃ a vs, v = .ref a ∧ SqT K F a vs ∧ RepL K F xs vs := by
  obtain ⟨a, vs, e, h1, h2⟩ := h.tupF
  exact ⟨a, vs, e, .of h1, h2⟩
theorem RepB.ext {xs : List D} (h : RepB K F H (.ext xs) v) : ∃ a vs, v = .ref a ∧ SqL K F a vs ∧ RepL K F xs vs := by
  rcases h with h | ⟨a, e, h⟩
  · unfold Rep at h; exact h
  · exact h.elim
theorem RepB.lst {xs : List D} (s : Sb F H) (h : RepB K F H (.lst xs) v) : ∃ a vs, v = .ref a ∧ H a = some (.lst vs) ∧ RepL K F xs vs := by
  rcases h with h | ⟨a, e, vs, h1, h2⟩
  · unfold Rep at h
    obtain ⟨a, vs, e, h1, h2⟩ := h
    exact ⟨a, vs, e, s _ _ h1, h2⟩
  · exact ⟨a, vs, e, h1, h2⟩
theorem RepB.dic {t : Bool} {ks xs : List D} (s : Sb F H) (h : RepB K F H (.dic t ks xs) v) : ∃ a vs o, v = .ref a ∧ H a = some o ∧ dictO t ks vs = some o ∧ RepL K F xs vs := by
  rcases h with h | ⟨a, e, vs, o, h1, h2, h3⟩
  · unfold Rep at h
    obtain ⟨a, vs, o, e, h1, h2, h3⟩ := h
    exact ⟨a, vs, o, e, s _ _ h1, h2, h3⟩
  · exact ⟨a, vs, o, e, h1, h2, h3⟩
theorem RepB.no_set {xs : List D} (h : RepB K F H (.set xs) v) : False := by
  rcases h with h | ⟨a, e, h⟩
  · unfold Rep at h; exact h
  · exact h.elim
/-- the items of a thing that is read as a row: lists, tuples -/
def seqD : D → Option (List D)
  | .lst xs => some xs
  | .ext xs => some xs
  | .tup xs => some xs
  | _ => none
theorem RepB.seq {d : D} {xs : List D} (s : Sb F H) (h : RepB K F H d v) (e : seqD d = some xs) : ∃ a vs, v = .ref a ∧ (SqL K H a vs ∨ SqT K H a vs) ∧ RepL K F xs vs := by
  cases d with
  | lst ys => cases e; obtain ⟨a, vs, e, h1, h2⟩ := h.lst s; exact ⟨a, vs, e, .inl (.of h1), h2⟩
  | ext ys => cases e; obtain ⟨a, vs, e, h1, h2⟩ := h.ext; exact ⟨a, vs, e, .inl (SqL.sub s h1), h2⟩
  | tup ys => cases e; obtain ⟨a, vs, e, h1, h2⟩ := h.tup; exact ⟨a, vs, e, .inr (SqT.sub s h1), h2⟩
  | _ => cases e
/-- a new list, a new tuple as a result -/
theorem new_lst {xs : List D} {vs : List V} {Q : VK} (r : Rel K G F H σ δ) (h : RepL K F xs vs) (k : ∀ u F' H', Sb F F' → Rel K G F' H' σ δ → OpRep K σ G F' H' δ (.fresh (.lst xs)) u → Q u H') : ∀ p, H p = none → Q (.ref p) (upd H p (.lst vs)) := fun p n => by
  refine k _ F _ .refl (r.alloc n) ⟨p, rfl, r.subF.nn n, r.subG.nn n, ⟨vs, upd_same, h⟩, ?_⟩
  exact r.not_own (o := .lst []) (.inr (.inr n))
theorem new_tup {xs : List D} {vs : List V} {Q : VK} (r : Rel K G F H σ δ) (h : RepL K F xs vs) (k : ∀ u F' H', Sb F F' → Rel K G F' H' σ δ → OpRep K σ G F' H' δ (.val (.tup xs)) u → Q u H') : ∀ p, H p = none → Q (.ref p) (upd H p (.tup vs)) := fun p n => by
  refine k _ (upd F p (.tup vs)) _ (.upd_new (r.subF.nn n)) (r.allocF n) ?_
  show Rep K _ (.tup xs) _
  unfold Rep
  exact ⟨p, vs, rfl, upd_same, RepL.sub (.upd_new (r.subF.nn n)) _ _ h⟩
end
def fits (n : Nat) : Bool := decide (n ≤ 16777216)
theorem fits_le {n : Nat} (h : fits n = true) : n ≤ sizeLine := by
  have := of_decide_eq_true h
  exact this
theorem str_app (a b : List Nat) : ((⟨a.toArray⟩ : Str) ++ ⟨b.toArray⟩) = ⟨(a ++ b).toArray⟩ := by
  show Str.append _ _ = _
  unfold Str.append
  simp
theorem str_len (a : List Nat) : (⟨a.toArray⟩ : Str).length = a.length := by
  show Array.size _ = _
  simp
/-! ### + - * // % << >> & | ^ -/
def gInt (C : Int → Int → Bool) (f : Int → Int → Int) : D → D → Option Op
  | .int i, .int j => if C i j then some (.val (.int (f i j))) else none
  | _, _ => none
theorem og_int {K : PySem.W.Frag} {C : Int → Int → Prop} {Cb : Int → Int → Bool} {f : Int → Int → Int} (hc : ∀ i j, Cb i j = true → C i j) : OpG K (rI C fun i j => .int (f i j)) (gInt Cb f) := by
  intro σ G F H δ x y v w o Q rel rx ry e k
  cases x with
  | int i =>
    cases y with
    | int j =>
      have hv := rx.int
      have hw := ry.int
      subst hv; subst hw
      have e : (if Cb i j then some (Op.val (.int (f i j))) else none) = some o := e
      split at e
      · rename_i c
        cases e
        exact ⟨i, j, rfl, rfl, hc i j c, k _ F H .refl rel (by show Rep K F (.int _) _; unfold Rep; rfl)⟩
      · cases e
    | _ => cases e
  | _ => cases e
theorem og_int0 {K : PySem.W.Frag} {f : Int → Int → Int} : OpG K (rI0 fun i j => .int (f i j)) (gInt (fun _ _ => true) f) := by
  intro σ G F H δ x y v w o Q rel rx ry e k
  obtain ⟨i, j, h1, h2, _, h4⟩ := og_int (K := K) (C := fun _ _ => True) (Cb := fun _ _ => true) (f := f) (fun _ _ _ => trivial) σ G F H δ x y v w o Q rel rx ry e k
  exact ⟨i, j, h1, h2, h4⟩
def gCatS : D → D → Option Op
  | .str a, .str b => if fits (a.length + b.length) then some (.val (.str (a ++ b))) else none
  | _, _ => none
theorem og_catS {K : PySem.W.Frag} : OpG K (fun x y H Q => ∃ i j, x = .str i ∧ y = .str j ∧ i.length + j.length ≤ sizeLine ∧ Q (.str (i ++ j)) H) gCatS := by
  intro σ G F H δ x y v w o Q rel rx ry e k
  cases x with
  | str a =>
    cases y with
    | str b =>
      have hv := rx.str
      have hw := ry.str
      subst hv; subst hw
      have e : (if fits (a.length + b.length) then some (Op.val (.str (a ++ b))) else none) = some o := e
      split at e
      · rename_i c
        cases e
        refine ⟨_, _, rfl, rfl, by rw [str_len, str_len]; exact fits_le c, ?_⟩
        rw [str_app]
        exact k _ F H .refl rel (by show Rep K F (.str _) _; unfold Rep; rfl)
      · cases e
    | _ => cases e
  | _ => cases e
def gCatL : D → D → Option Op
  | .lst a, .lst b => if fits (a.length + b.length) then some (.fresh (.lst (a ++ b))) else none
  | _, _ => none
theorem og_catL {K : PySem.W.Frag} : OpG K rCat gCatL := by
  intro σ G F H δ x y v w o Q rel rx ry e k
  cases x with
  | lst a =>
    cases y with
    | lst b =>
      obtain ⟨p, vs, rfl, h1, h2⟩ := rx.lst rel.subF
      obtain ⟨q, us, rfl, h3, h4⟩ := ry.lst rel.subF
      have e : (if fits (a.length + b.length) then some (Op.fresh (.lst (a ++ b))) else none) = some o := e
      split at e
      · rename_i c
        cases e
        refine ⟨p, q, vs, us, rfl, rfl, h1, h3, by rw [h2.length, h4.length]; exact fits_le c, ?_⟩
        exact new_lst rel (h2.append h4) k
      · cases e
    | _ => cases e
  | _ => cases e
def gCatT : D → D → Option Op
  | .tup a, .tup b => if fits (a.length + b.length) then some (.val (.tup (a ++ b))) else none
  | _, _ => none
theorem RepL.eq_nil {K : PySem.W.Frag} {F : Hp} {ds : List D} (h : RepL K F ds []) : ds = [] := by
  have := h.length
  cases ds with
  | nil => rfl
  | cons a b => simp at this
theorem og_catT {K : PySem.W.Frag} : OpG K (rCatA K) gCatT := by
  intro σ G F H δ x y v w o Q rel rx ry e k
  cases x with
  | tup a =>
    cases y with
    | tup b =>
      obtain ⟨p, vs, rfl, h1, h2⟩ := rx.tupF
      obtain ⟨q, us, rfl, h3, h4⟩ := ry.tupF
      have e : (if fits (a.length + b.length) then some (Op.val (.tup (a ++ b))) else none) = some o := e
      split at e
      · rename_i c
        cases e
        refine ⟨p, q, vs, us, rfl, rfl, .of (rel.subF _ _ h1), .of (rel.subF _ _ h3), by rw [h2.length, h4.length]; exact fits_le c, ?_, ?_, ?_⟩
        · intro z
          subst z
          have := h2.eq_nil
          subst this
          exact k _ F H .refl rel (by show Rep K F (.tup _) _; unfold Rep; exact ⟨q, us, rfl, h3, h4⟩)
        · intro _ z
          subst z
          have := h4.eq_nil
          subst this
          rw [List.append_nil] at k
          exact k _ F H .refl rel (by show Rep K F (.tup _) _; unfold Rep; exact ⟨p, vs, rfl, h1, h2⟩)
        · intro _ _
          exact new_tup rel (h2.append h4) k
      · cases e
    | _ => cases e
  | _ => cases e
def gAdd : D → D → Option Op := fun x y => (gInt (fun _ _ => true) (· + ·) x y).orElse fun _ => (gCatS x y).orElse fun _ => (gCatL x y).orElse fun _ => gCatT x y
theorem de_add {X : Cx} {a b : Expr} {fa fb : M Op} {pos : Pos} (ha : DE X a fa) (hb : DE X b fb) : DE X (.BinOp a .Add b pos) (cBin gAdd fa fb) :=
  de_bin (op_add.or (op_add_str.or (op_cat.or op_catA))) (og_int0.or (og_catS.or (og_catL.or og_catT))) ha hb
def small64 (i : Int) : Bool := decide (i.natAbs < 18446744073709551616)
def mulOk (i j : Int) : Bool := small64 i || small64 j
theorem small64_of {i : Int} (h : small64 i = true) : -(2 ^ 64) < i ∧ i < 2 ^ 64 := by
  have := of_decide_eq_true h
  omega
theorem mulOk_of {i j : Int} (h : mulOk i j = true) : CMul i j := by
  unfold mulOk at h
  rcases Bool.or_eq_true_iff.mp h with h | h
  · exact .inl (small64_of h)
  · exact .inr (small64_of h)
def repN {α : Type} (n : Nat) (xs : List α) : List α := (List.replicate n xs).flatten
theorem RepL.rep {K : PySem.W.Frag} {F : Hp} {ds : List D} {vs : List V} (h : RepL K F ds vs) : ∀ n, RepL K F (repN n ds) (repN n vs)
  | 0 => .nil
  | n + 1 => by
    unfold repN
    rw [List.replicate_succ, List.replicate_succ, List.flatten_cons, List.flatten_cons]
    exact h.append (RepL.rep h n)
def gRepL : D → D → Option Op
  | .lst a, .int k => if decide (k.natAbs < 16777216) && fits (a.length * k.toNat) then some (.fresh (.lst (repN k.toNat a))) else none
  | _, _ => none
theorem og_repL {K : PySem.W.Frag} : OpG K rRep gRepL := by
  intro σ G F H δ x y v w o Q rel rx ry e k
  cases x with
  | lst a =>
    cases y with
    | int j =>
      obtain ⟨p, vs, rfl, h1, h2⟩ := rx.lst rel.subF
      have hw := ry.int
      subst hw
      have e : (if (decide (j.natAbs < 16777216) && fits (a.length * j.toNat)) = true then some (Op.fresh (.lst (repN j.toNat a))) else none) = some o := e
      split at e
      · rename_i c
        cases e
        obtain ⟨c1, c2⟩ := Bool.and_eq_true_iff.mp c
        have c1 := of_decide_eq_true c1
        refine ⟨p, j, vs, rfl, rfl, h1, by omega, by omega, by rw [h2.length]; exact fits_le c2, ?_⟩
        exact new_lst rel (h2.rep _) k
      · cases e
    | _ => cases e
  | _ => cases e
theorem foldl_arr (xs : List Nat) : ∀ (k : Nat) (acc : List Nat), List.foldl (fun x1 x2 => x1 ++ x2) acc.toArray (List.replicate k xs.toArray) = (acc ++ (List.replicate k xs).flatten).toArray
  | 0, acc => by simp
  | k + 1, acc => by
    rw [List.replicate_succ, List.foldl_cons, List.replicate_succ, List.flatten_cons, ← List.append_assoc, ← foldl_arr xs k (acc ++ xs)]
    congr 1
    simp
theorem op_mul_str {X : Cx} : OpR X (binaryOp .Mult) (fun x y H Q => ∃ (a : List Nat) (k : Int), x = .str ⟨a.toArray⟩ ∧ y = .int k ∧ k.natAbs < 16777216 ∧ a.length * k.toNat ≤ sizeLine ∧ Q (.str ⟨(repN k.toNat a).toArray⟩) H) := by
  intro pins s σ H x y v u Q I rx ry h
  obtain ⟨a, k, rfl, rfl, hk, hz, q⟩ := h
  obtain ⟨t, rfl⟩ := rx
  obtain ⟨t', rfl⟩ := ry
  have hl : (⟨a.toArray⟩ : Str).length = a.length := str_len a
  have fin : ∀ (z : Str) (tk : Nat) (t : Tok), z = ⟨(repN k.toNat a).toArray⟩ → EP X pins σ Q (.str z t) { s with toks := tk } := fun z tk t e => by
    subst e
    exact ⟨.str _, H, I.tok _, ⟨_, rfl⟩, q⟩
  refine PySem.P.mul_str (by rw [Bool.or_eq_false_iff]; exact ⟨decide_eq_false (by omega), decide_eq_false (by omega)⟩) (fun h1 h2 => ?_) (fun h1 h2 => ?_) ?_
  · rw [hl]
    have hk1 : 0 < k := by omega
    intro h3
    have h4 : k ≤ 16777216 := by omega
    have h5 : (a.length : Int) ≤ 16777216 := by
      have : a.length * 1 ≤ a.length * k.toNat := Nat.mul_le_mul_left _ (by omega)
      have h6 : (sizeLine : Nat) = 16777216 := rfl
      omega
    have h6 : (16777216 : Int) ≤ (2 ^ 63 - 1) / k := by
      rw [Int.le_ediv_iff_mul_le hk1]
      have : (16777216 : Int) * k ≤ 16777216 * 16777216 := Int.mul_le_mul_of_nonneg_left h4 (by decide)
      omega
    omega
  · unfold Builtin.Str.tooLong
    rw [hl]
    exact decide_eq_false (by omega)
  · by_cases c1 : k < 1
    · rw [if_pos c1]
      refine ⟨by decide, ?_⟩
      refine fin _ _ _ ?_
      have : k.toNat = 0 := by omega
      rw [this]; rfl
    · rw [if_neg c1]
      by_cases c2 : (k == 1 || (⟨a.toArray⟩ : Str).length == 0) = true
      · rw [if_pos c2]
        show EP X pins σ Q _ _
        refine fin _ s.toks _ ?_
        rcases Bool.or_eq_true_iff.mp c2 with c | c
        · have : k = 1 := by simpa using c
          subst this
          simp [repN]
        · rw [hl] at c
          have : a = [] := by cases a <;> simp_all
          subst this
          congr 1
          simp [repN]
      · rw [if_neg c2]
        have e : (⟨(List.replicate k.toNat (⟨a.toArray⟩ : Str).cps).foldl (· ++ ·) #[]⟩ : Str) = ⟨(repN k.toNat a).toArray⟩ := by
          have := foldl_arr a k.toNat []
          rw [List.nil_append] at this
          exact congrArg Str.mk this
        refine ⟨?_, fin _ _ _ e⟩
        rw [e, str_len]
        have : (repN k.toNat a).length = a.length * k.toNat := by unfold repN; simp [Nat.mul_comm]
        omega
def gRepS : D → D → Option Op
  | .str a, .int k => if decide (k.natAbs < 16777216) && fits (a.length * k.toNat) then some (.val (.str (repN k.toNat a))) else none
  | _, _ => none
theorem og_repS {K : PySem.W.Frag} : OpG K (fun x y H Q => ∃ (a : List Nat) (k : Int), x = .str ⟨a.toArray⟩ ∧ y = .int k ∧ k.natAbs < 16777216 ∧ a.length * k.toNat ≤ sizeLine ∧ Q (.str ⟨(repN k.toNat a).toArray⟩) H) gRepS := by
  intro σ G F H δ x y v w o Q rel rx ry e k
  cases x with
  | str a =>
    cases y with
    | int j =>
      have hv := rx.str
      have hw := ry.int
      subst hv; subst hw
      have e : (if (decide (j.natAbs < 16777216) && fits (a.length * j.toNat)) = true then some (Op.val (.str (repN j.toNat a))) else none) = some o := e
      split at e
      · rename_i c
        cases e
        obtain ⟨c1, c2⟩ := Bool.and_eq_true_iff.mp c
        exact ⟨a, j, rfl, rfl, of_decide_eq_true c1, fits_le c2, k _ F H .refl rel (by show Rep K F (.str _) _; unfold Rep; rfl)⟩
      · cases e
    | _ => cases e
  | _ => cases e
def gMul : D → D → Option Op := fun x y => (gInt mulOk (· * ·) x y).orElse fun _ => (gRepS x y).orElse fun _ => gRepL x y
theorem de_mul {X : Cx} {a b : Expr} {fa fb : M Op} {pos : Pos} (ha : DE X a fa) (hb : DE X b fb) : DE X (.BinOp a .Mult b pos) (cBin gMul fa fb) :=
  de_bin (op_mul.or (op_mul_str.or op_rep)) ((og_int fun _ _ => mulOk_of).or (og_repS.or og_repL)) ha hb
def gSub : D → D → Option Op := gInt (fun _ _ => true) (· - ·)
theorem de_sub {X : Cx} {a b : Expr} {fa fb : M Op} {pos : Pos} (ha : DE X a fa) (hb : DE X b fb) : DE X (.BinOp a .Sub b pos) (cBin gSub fa fb) := de_bin op_sub og_int0 ha hb
def divOk (_ j : Int) : Bool := decide (0 < j) && decide (j < 1073741824)
theorem divOk_of {i j : Int} (h : divOk i j = true) : CDiv i j := by
  obtain ⟨a, b⟩ := Bool.and_eq_true_iff.mp h
  exact ⟨of_decide_eq_true a, of_decide_eq_true b⟩
def gDiv : D → D → Option Op := gInt divOk fun i j => i / j
theorem de_fdiv {X : Cx} {a b : Expr} {fa fb : M Op} {pos : Pos} (ha : DE X a fa) (hb : DE X b fb) : DE X (.BinOp a .FloorDiv b pos) (cBin gDiv fa fb) := de_bin op_fdiv (og_int fun _ _ => divOk_of) ha hb
def gMod : D → D → Option Op := gInt (fun _ j => decide (0 < j)) fun i j => i % j
theorem de_mod {X : Cx} {a b : Expr} {fa fb : M Op} {pos : Pos} (ha : DE X a fa) (hb : DE X b fb) : DE X (.BinOp a .Mod b pos) (cBin gMod fa fb) := de_bin op_mod (og_int fun _ _ h => of_decide_eq_true h) ha hb
def powOk (i j : Int) : Bool := decide (0 ≤ j) && decide (j ≤ 1000000) && small64 i
theorem powOk_of {i j : Int} (h : powOk i j = true) : CPow i j := by
  obtain ⟨a, b⟩ := Bool.and_eq_true_iff.mp h
  obtain ⟨a, c⟩ := Bool.and_eq_true_iff.mp a
  exact ⟨of_decide_eq_true a, of_decide_eq_true c, by have := of_decide_eq_true b; omega⟩
def gPow : D → D → Option Op := gInt powOk fun i j => i ^ j.toNat
theorem de_pow {X : Cx} {a b : Expr} {fa fb : M Op} {pos : Pos} (ha : DE X a fa) (hb : DE X b fb) : DE X (.BinOp a .Pow b pos) (cBin gPow fa fb) := de_bin op_pow (og_int fun _ _ => powOk_of) ha hb
def gShl : D → D → Option Op := gInt powOk fun i j => i * 2 ^ j.toNat
theorem de_shl {X : Cx} {a b : Expr} {fa fb : M Op} {pos : Pos} (ha : DE X a fa) (hb : DE X b fb) : DE X (.BinOp a .LShift b pos) (cBin gShl fa fb) := de_bin op_shl (og_int fun _ _ => powOk_of) ha hb
def gShr : D → D → Option Op := gInt (fun _ j => decide (0 ≤ j)) fun i j => i / 2 ^ j.toNat
theorem de_shr {X : Cx} {a b : Expr} {fa fb : M Op} {pos : Pos} (ha : DE X a fa) (hb : DE X b fb) : DE X (.BinOp a .RShift b pos) (cBin gShr fa fb) := de_bin op_shr (og_int fun _ _ h => of_decide_eq_true h) ha hb
def gAnd : D → D → Option Op := gInt (fun _ _ => true) Builtin.bitAnd
def gOr : D → D → Option Op := gInt (fun _ _ => true) Builtin.bitOr
def gXor : D → D → Option Op := gInt (fun _ _ => true) Builtin.bitXor
theorem de_band {X : Cx} {a b : Expr} {fa fb : M Op} {pos : Pos} (ha : DE X a fa) (hb : DE X b fb) : DE X (.BinOp a .BitAnd b pos) (cBin gAnd fa fb) := de_bin op_and og_int0 ha hb
theorem de_bor {X : Cx} {a b : Expr} {fa fb : M Op} {pos : Pos} (ha : DE X a fa) (hb : DE X b fb) : DE X (.BinOp a .BitOr b pos) (cBin gOr fa fb) := de_bin op_or og_int0 ha hb
theorem de_bxor {X : Cx} {a b : Expr} {fa fb : M Op} {pos : Pos} (ha : DE X a fa) (hb : DE X b fb) : DE X (.BinOp a .BitXor b pos) (cBin gXor fa fb) := de_bin op_xor og_int0 ha hb
end Ev
set_option Elab.async false
set_option linter.all false
set_option autoImplicit false
set_option maxRecDepth 100000
set_option maxHeartbeats 4000000
namespace Ev
open PySem PySem.Spec L2
open PyProof.Rows hiding St
/-! ### == of data -/
mutual
def eqD : D → D → Bool
  | .non, .non => true
  | .bl a, .bl b => a == b
  | .bl a, .int j => (if a then 1 else 0) == j
  | .int i, .bl b => i == (if b then 1 else 0)
  | .int i, .int j => i == j
  | .str a, .str b => a == b
  | .lst xs, .lst ys => eqDL xs ys
  | .tup xs, .tup ys => eqDL xs ys
  | _, _ => false
def eqDL : List D → List D → Bool
  | [], [] => true
  | x :: xs, y :: ys => eqD x y && eqDL xs ys
  | _, _ => false
end
mutual
/-- plain data, down to so many levels -/
def okD : Nat → D → Bool
  | _, .non => true
  | _, .bl _ => true
  | _, .int _ => true
  | _, .str s => s.all fun c => decide (c < 0x110000)
  | n + 1, .lst xs => okDL n xs
  | n + 1, .tup xs => okDL n xs
  | _, _ => false
def okDL : Nat → List D → Bool
  | _, [] => true
  | n, x :: xs => okD n x && okDL n xs
end
mutual
def toPy : D → PyData
  | .bl b => .bool b
  | .int i => .int i
  | .str s => .str ⟨s.toArray⟩
  | .lst xs => .list (toPyL xs)
  | .tup xs => .tuple (toPyL xs)
  | _ => .none
def toPyL : List D → List PyData
  | [] => []
  | x :: xs => toPy x :: toPyL xs
end
theorem strOk_of {s : List Nat} (h : (s.all fun c => decide (c < 0x110000)) = true) : PyData.strOk ⟨s.toArray⟩ = true := by
  unfold PyData.strOk
  simpa using h
mutual
theorem okD_lay : ∀ (n : Nat) (d : D), okD n d = true → PyData.canLay0 (toPy d) = true ∧ PyData.depth (toPy d) ≤ n
  | n, .non, h => by simp [toPy, PyData.canLay0, PyData.depth]
  | n, .bl b, h => by simp [toPy, PyData.canLay0, PyData.depth]
  | n, .int i, h => by simp [toPy, PyData.canLay0, PyData.depth]
  | n, .str s, h => by
    unfold okD at h
    refine ⟨?_, by simp [toPy, PyData.depth]⟩
    simp only [toPy, PyData.canLay0]
    exact strOk_of h
  | 0, .lst xs, h => by simp [okD] at h
  | 0, .tup xs, h => by simp [okD] at h
  | n + 1, .lst xs, h => by
    unfold okD at h
    obtain ⟨a, b⟩ := okDL_lay n xs h
    simp only [toPy, PyData.canLay0, PyData.depth]
    exact ⟨a, by omega⟩
  | n + 1, .tup xs, h => by
    unfold okD at h
    obtain ⟨a, b⟩ := okDL_lay n xs h
    simp only [toPy, PyData.canLay0, PyData.depth]
    exact ⟨a, by omega⟩
  | n, .ext xs, h => by simp [okD] at h
  | n, .dic t ks vs, h => by simp [okD] at h
  | n, .set xs, h => by simp [okD] at h
  | n, .fn x, h => by simp [okD] at h
  | n, .cls x, h => by simp [okD] at h
  | n, .ty x, h => by simp [okD] at h
  | n, .exn x ns vs, h => by simp [okD] at h
theorem okDL_lay : ∀ (n : Nat) (ds : List D), okDL n ds = true → PyData.canLayAll0 (toPyL ds) = true ∧ PyData.depthAll (toPyL ds) ≤ n
  | n, [], h => by simp [toPyL, PyData.canLayAll0, PyData.depthAll]
  | n, d :: ds, h => by
    unfold okDL at h
    obtain ⟨h1, h2⟩ := Bool.and_eq_true_iff.mp h
    obtain ⟨a, b⟩ := okD_lay n d h1
    obtain ⟨a', b'⟩ := okDL_lay n ds h2
    simp only [toPyL, PyData.canLayAll0, PyData.depthAll]
    exact ⟨by rw [a, a']; rfl, by omega⟩
end
theorem okD_shaped {n : Nat} {d : D} (h : okD n d = true) (hn : n ≤ 64) : SeqAt.shaped (toPy d) = true := by
  obtain ⟨a, b⟩ := okD_lay n d h
  unfold SeqAt.shaped
  rw [a]
  exact decide_eq_true (by omega)
theorem str_beq (a b : List Nat) : ((⟨a.toArray⟩ : Str) == ⟨b.toArray⟩) = (a == b) := by
  rw [Bool.eq_iff_iff, beq_iff_eq, beq_iff_eq]
  constructor
  · intro h; injection h with h; simpa using congrArg Array.toList h
  · intro h; rw [h]
mutual
theorem eqv_eqD : ∀ (n : Nat) (x y : D), okD n x = true → okD n y = true → PyData.eqv (toPy x) (toPy y) = eqD x y
  | n, x, y, hx, hy => by
    cases n with
    | zero =>
      cases x <;> simp [okD] at hx <;> cases y <;> simp [okD] at hy <;> simp [toPy, PyData.eqv, eqD, str_beq]
    | succ n =>
      cases x <;> simp [okD] at hx <;> cases y <;> simp [okD] at hy <;> first | (simp [toPy, PyData.eqv, eqD, str_beq]; done) | (simp only [toPy, PyData.eqv, eqD]; exact eqv_eqDL n _ _ hx hy)
theorem eqv_eqDL : ∀ (n : Nat) (xs ys : List D), okDL n xs = true → okDL n ys = true → PyData.eqvAll (toPyL xs) (toPyL ys) = eqDL xs ys
  | n, [], [], hx, hy => by simp [toPyL, PyData.eqvAll, eqDL]
  | n, [], y :: ys, hx, hy => by simp [toPyL, PyData.eqvAll, eqDL]
  | n, x :: xs, [], hx, hy => by simp [toPyL, PyData.eqvAll, eqDL]
  | n, x :: xs, y :: ys, hx, hy => by
    unfold okDL at hx hy
    obtain ⟨h1, h2⟩ := Bool.and_eq_true_iff.mp hx
    obtain ⟨h3, h4⟩ := Bool.and_eq_true_iff.mp hy
    simp only [toPyL, PyData.eqvAll, eqDL]
    rw [eqv_eqD n x y h1 h3, eqv_eqDL n xs ys h2 h4]
end
mutual
theorem dp_of {K : PySem.W.Frag} {F H : Hp} (s : Sb F H) : ∀ (n : Nat) (d : D) (v : V), okD n d = true → Rep K F d v → Dp K H v (toPy d)
  | n, d, v, hd, h => by
    cases n with
    | zero =>
      cases d <;> simp [okD] at hd <;> unfold Rep at h <;> subst h <;> simp only [toPy] <;> constructor
    | succ n =>
      cases d <;> simp [okD] at hd <;> unfold Rep at h
      · subst h; simp only [toPy]; constructor
      · subst h; simp only [toPy]; constructor
      · subst h; simp only [toPy]; constructor
      · subst h; simp only [toPy]; constructor
      · obtain ⟨a, vs, rfl, h1, h2⟩ := h
        simp only [toPy]
        exact .tup (.of (s _ _ h1)) (dp_ofL s n _ _ hd h2)
      · obtain ⟨a, vs, rfl, h1, h2⟩ := h
        simp only [toPy]
        exact .lst (.of (s _ _ h1)) (dp_ofL s n _ _ hd h2)
theorem dp_ofL {K : PySem.W.Frag} {F H : Hp} (s : Sb F H) : ∀ (n : Nat) (ds : List D) (vs : List V), okDL n ds = true → RepL K F ds vs → DpAll K H vs (toPyL ds)
  | n, [], vs, hd, h => by unfold RepL at h; subst h; simp only [toPyL]; constructor
  | n, d :: ds, vs, hd, h => by
    unfold RepL at h
    obtain ⟨v, r, rfl, h1, h2⟩ := h
    unfold okDL at hd
    obtain ⟨a, b⟩ := Bool.and_eq_true_iff.mp hd
    simp only [toPyL]
    exact .cons (dp_of s n d v a h1) (dp_ofL s n ds r b h2)
end
theorem dp_ofB {K : PySem.W.Frag} {F H : Hp} (s : Sb F H) {n : Nat} {d : D} {v : V} (hd : okD n d = true) (h : RepB K F H d v) : Dp K H v (toPy d) := by
  rcases h with h | ⟨a, rfl, h⟩
  · exact dp_of s n d v hd h
  · cases d with
    | lst xs =>
      obtain ⟨vs, h1, h2⟩ := h
      cases n with
      | zero => simp [okD] at hd
      | succ n =>
        simp only [toPy]
        unfold okD at hd
        exact .lst (.of h1) (dp_ofL s n _ _ hd h2)
    | dic t ks vs => cases n <;> simp [okD] at hd
    | _ => exact h.elim

/-! ### comparisons -/
def OpC (K : PySem.W.Frag) (r : R2) (g : D → D → Option Bool) : Prop :=
  ∀ (σ : St) (G : GP) (F H : Hp) (δ : EnvS) (x y : D) (v w : V) (b : Bool) (Q : VK), Rel K G F H σ δ → RepB K F H x v → RepB K F H y w → g x y = some b → Q (.bl b) H → r v w H Q
theorem OpC.or {K : PySem.W.Frag} {r r' : R2} {g g' : D → D → Option Bool} (h : OpC K r g) (h' : OpC K r' g') : OpC K (fun x y H Q => r x y H Q ∨ r' x y H Q) (fun x y => (g x y).orElse fun _ => g' x y) := by
  intro σ G F H δ x y v w o Q rel rx ry e k
  have e : (g x y).orElse (fun _ => g' x y) = some o := e
  cases eg : g x y with
  | some z => rw [eg] at e; cases e; exact .inl (h σ G F H δ x y v w _ Q rel rx ry eg k)
  | none => rw [eg] at e; exact .inr (h' σ G F H δ x y v w _ Q rel rx ry e k)
def cCmp (g : D → D → Option Bool) (fa fb : M Op) : M Op := M.bind fa fun o1 => M.bind fb fun o2 => lift2 (fun x y => (g x y).map fun b => Op.val (.bl b)) o1 o2
def cCmpT (g : D → D → Option Bool) (fa fb : M Op) : M Bool := M.bind fa fun o1 => M.bind fb fun o2 => lift2 g o1 o2
theorem lift2_ok {α β : Type} {K : PySem.W.Frag} {G : GP} {F : Hp} {σ : St} {W : WX} {VR : Hp → Hp → EnvS → α → β → Prop} {Q : β → Hp → Prop} {g : D → D → Option α} {o1 o2 : Op} {δ : EnvS} (h : Sat K G F σ W (lift2 g o1 o2 δ) VR Q) :
    ∃ x y a, deref δ o1 = some x ∧ deref δ o2 = some y ∧ g x y = some a ∧ Sat K G F σ W (R.ok a δ) VR Q := by
  unfold lift2 at h
  cases e1 : deref δ o1 with
  | none => rw [e1] at h; exact h.elim
  | some x =>
    cases e2 : deref δ o2 with
    | none => rw [e1, e2] at h; exact h.elim
    | some y =>
      rw [e1, e2] at h
      dsimp only at h
      cases e3 : g x y with
      | none => rw [e3] at h; exact h.elim
      | some a => rw [e3] at h; exact ⟨x, y, a, rfl, rfl, e3, h⟩
section
variable {X : Cx} {a b : Expr} {fa fb : M Op} {op : CmpOp} {r : R2} {g : D → D → Option Bool} {pos : Pos}
theorem de_cmp (ho : OpR X (compareOp op) r) (hg : OpC X.K r g) (ha : DE X a fa) (hb : DE X b fb) (hm : behindInMarks op b = false) : DE X (.Compare a [op] [b] pos) (cCmp g fa fb) := by
  refine ⟨fun W tk => PE.weak (pe_cmpR ho (ha.run W tk) (hb.run W tk) hm) fun pins s σ H Q I h => ?_⟩
  obtain ⟨G, F, δ, r, h⟩ := h
  refine bin2 r .refl h fun o1 o2 δ2 v w F2 H2 s2 r2 q1 q2 h => ?_
  obtain ⟨x, y, o, e1, e2, e3, h⟩ := lift2_ok h
  cases e4 : g x y with
  | none => rw [e4] at e3; cases e3
  | some k =>
    rw [e4] at e3
    cases e3
    exact hg σ G F2 H2 δ2 x y v w k Q r2 (deref_rep r2 q1 e1) (deref_rep r2 q2 e2) e4 (h _ F2 H2 .refl r2 (by show Rep X.K F2 (.bl k) _; unfold Rep; rfl))
theorem dt_cmp (ho : OpR X (compareOp op) r) (hg : OpC X.K r g) (ha : DE X a fa) (hb : DE X b fb) (hm : behindInMarks op b = false) : DT X (.Compare a [op] [b] pos) (cCmpT g fa fb) := by
  refine ⟨fun W tk => PT.weak (pt_cmpR ho (ha.run W tk) (hb.run W tk) hm) fun pins s σ H Q I h => ?_⟩
  obtain ⟨G, F, δ, r, h⟩ := h
  refine bin2 (P := fun v w H2 => _) r .refl h fun o1 o2 δ2 v w F2 H2 s2 r2 q1 q2 h => ?_
  obtain ⟨x, y, k, e1, e2, e4, h⟩ := lift2_ok h
  exact hg σ G F2 H2 δ2 x y v w k _ r2 (deref_rep r2 q1 e1) (deref_rep r2 q2 e2) e4 ⟨k, rfl, h k F2 H2 .refl r2 rfl⟩
end
/-! #### == != -/
def scalD : D → D → Bool
  | .non, .non => true | .non, .int _ => true | .int _, .non => true | .non, .bl _ => true | .bl _, .non => true | .non, .str _ => true | .str _, .non => true
  | .int _, .int _ => true | .bl _, .bl _ => true | .str _, .str _ => true
  | .int _, .str _ => true | .str _, .int _ => true | .bl _, .str _ => true | .str _, .bl _ => true
  | _, _ => false
def gEqS : D → D → Option Bool := fun x y => if scalD x y then some (eqD x y) else none
def gEqDp : D → D → Option Bool := fun x y => if okD 60 x && okD 60 y then some (eqD x y) else none
def gEqB : D → D → Option Bool := fun x y => (gEqS x y).orElse fun _ => gEqDp x y
theorem dec_strL (a b : List Nat) : decide (V.str ⟨a.toArray⟩ = V.str ⟨b.toArray⟩) = (a == b) := by
  rw [dec_str, str_beq]
theorem oc_eqS {K : PySem.W.Frag} {neg : Bool} : OpC K (fun x y H Q => scal x y = true ∧ Q (.bl (if neg then !decide (x = y) else decide (x = y))) H) (fun x y => (gEqS x y).map fun b => if neg then !b else b) := by
  intro σ G F H δ x y v w b Q rel rx ry e k
  have e : (if scalD x y = true then some (eqD x y) else none).map (fun b => if neg then !b else b) = some b := e
  by_cases hs : scalD x y = true
  · rw [if_pos hs] at e
    have e : some (if neg then !(eqD x y) else eqD x y) = some b := e
    cases e
    cases x <;> cases y <;> first | (simp [scalD] at hs; done) | skip
    all_goals
      first
      | (have hv := rx.non) | (have hv := rx.int) | (have hv := rx.bl) | (have hv := rx.str)
    all_goals
      first
      | (have hw := ry.non) | (have hw := ry.int) | (have hw := ry.bl) | (have hw := ry.str)
    all_goals subst hv; subst hw; refine ⟨rfl, ?_⟩
    all_goals
      simp only [eqD, reduceCtorEq, decide_false, decide_true, dec_strL, dec_int, dec_bl] at k ⊢
      exact k
  · rw [if_neg hs] at e; cases e
theorem oc_eqDp {K : PySem.W.Frag} : OpC K (rEqD K) gEqDp := by
  intro σ G F H δ x y v w b Q rel rx ry e k
  unfold gEqDp at e
  split at e
  · rename_i hs
    cases e
    obtain ⟨h1, h2⟩ := Bool.and_eq_true_iff.mp hs
    exact ⟨_, _, dp_ofB rel.subF h1 rx, dp_ofB rel.subF h2 ry, okD_shaped h1 (by decide), okD_shaped h2 (by decide), by rw [eqv_eqD 60 x y h1 h2]; exact k⟩
  · cases e
theorem oc_neDp {K : PySem.W.Frag} : OpC K (rNeD K) (fun x y => (gEqDp x y).map (!·)) := by
  intro σ G F H δ x y v w b Q rel rx ry e k
  have e : (if okD 60 x && okD 60 y then some (eqD x y) else none).map (!·) = some b := e
  split at e
  · rename_i hs
    cases e
    obtain ⟨h1, h2⟩ := Bool.and_eq_true_iff.mp hs
    exact ⟨_, _, dp_ofB rel.subF h1 rx, dp_ofB rel.subF h2 ry, okD_shaped h1 (by decide), okD_shaped h2 (by decide), by rw [eqv_eqD 60 x y h1 h2]; exact k⟩
  · cases e
def gNe : D → D → Option Bool := fun x y => ((gEqS x y).map (!·)).orElse fun _ => (gEqDp x y).map (!·)
theorem oc_eq {K : PySem.W.Frag} : OpC K (fun x y H Q => rEq x y H Q ∨ rEqD K x y H Q) gEqB := by
  have h : OpC K rEq gEqS := by
    have := oc_eqS (K := K) (neg := false)
    intro σ G F H δ x y v w b Q rel rx ry e k
    exact this σ G F H δ x y v w b Q rel rx ry (by show (gEqS x y).map _ = _; rw [e]; rfl) k
  exact h.or oc_eqDp
theorem oc_ne {K : PySem.W.Frag} : OpC K (fun x y H Q => rNe x y H Q ∨ rNeD K x y H Q) gNe := by
  have h : OpC K rNe (fun x y => (gEqS x y).map (!·)) := oc_eqS (K := K) (neg := true)
  exact h.or oc_neDp
/-! #### < <= > >= : ints, texts -/
def ltL : List Nat → List Nat → Bool
  | [], [] => false
  | [], _ :: _ => true
  | _ :: _, [] => false
  | a :: x, b :: y => if a = b then ltL x y else decide (a < b)
theorem ltL_iff : ∀ (x y : List Nat), decide (x < y) = ltL x y
  | [], [] => by simp [ltL]
  | [], _ :: _ => by simp [ltL]
  | _ :: _, [] => by simp [ltL]
  | a :: x, b :: y => by
    unfold ltL
    rw [← ltL_iff x y]
    by_cases h : a = b
    · subst h; simp
    · rw [if_neg h]
      congr 1
      apply propext
      rw [List.cons_lt_cons_iff]
      constructor
      · rintro (q | ⟨q, _⟩)
        · exact q
        · exact absurd q h
      · exact .inl
def gOrd (fi : Int → Int → Bool) (fs : List Nat → List Nat → Bool) : D → D → Option Bool
  | .int i, .int j => some (fi i j)
  | .str a, .str b => some (fs a b)
  | _, _ => none
theorem oc_ord {K : PySem.W.Frag} {fi : Int → Int → Bool} {fs : List Nat → List Nat → Bool} {gs : Str → Str → Bool} (hs : ∀ a b, gs ⟨a.toArray⟩ ⟨b.toArray⟩ = fs a b) :
    OpC K (fun x y H Q => rI0 (fun i j => .bl (fi i j)) x y H Q ∨ (∃ i j, x = .str i ∧ y = .str j ∧ Q (.bl (gs i j)) H)) (gOrd fi fs) := by
  intro σ G F H δ x y v w b Q rel rx ry e k
  cases x <;> cases y <;> first | (cases e; done) | skip
  · have hv := rx.int; have hw := ry.int; subst hv; subst hw
    cases e
    exact .inl ⟨_, _, rfl, rfl, k⟩
  · have hv := rx.str; have hw := ry.str; subst hv; subst hw
    cases e
    refine .inr ⟨_, _, rfl, rfl, ?_⟩
    rw [hs]; exact k
def gLt : D → D → Option Bool := gOrd (fun i j => decide (i < j)) ltL
def gLe : D → D → Option Bool := gOrd (fun i j => decide (i ≤ j)) fun a b => !ltL b a
def gGt : D → D → Option Bool := gOrd (fun i j => decide (j < i)) fun a b => ltL b a
def gGe : D → D → Option Bool := gOrd (fun i j => decide (j ≤ i)) fun a b => !ltL a b
/-! #### is -/
def gIs : D → D → Option Bool
  | .bl a, .bl b => some (decide (a = b))
  | .bl _, .non => some false
  | .int _, .non => some false
  | .str _, .non => some false
  | .tup _, .non => some false
  | .lst _, .non => some false
  | .dic _ _ _, .non => some false
  | .non, .non => some true
  | _, _ => none
end Ev
set_option Elab.async false
set_option linter.all false
set_option autoImplicit false
set_option maxRecDepth 100000
set_option maxHeartbeats 4000000
namespace Ev
open PySem PySem.Spec L2
open PyProof.Rows hiding St
/-! ### is -/
theorem is_bool_gen {M : Model} {A : Around} {E : Value → Shared → Prop} {s : Shared} {c : Bool} {v : Value} {Q : Value → Shared → Prop} (hb : ∀ p, v ≠ .builtin p) (h : Q (.bool (v == .bool c)) s) : wpAny M A (compareOp .Is v (.bool c)) Q E s := by
  cases v with
  | builtin p => exact absurd rfl (hb p)
  | _ => exact wpAny_pure h
theorem isnot_bool_gen {M : Model} {A : Around} {E : Value → Shared → Prop} {s : Shared} {c : Bool} {v : Value} {Q : Value → Shared → Prop} (hb : ∀ p, v ≠ .builtin p) (h : Q (.bool (!(v == .bool c))) s) : wpAny M A (compareOp .IsNot v (.bool c)) Q E s := by
  cases v with
  | builtin p => exact absurd rfl (hb p)
  | _ => exact wpAny_pure h
theorem RelV.no_builtin {x : V} {u : Value} (r : RelV x u) : ∀ p, u ≠ .builtin p := fun p e => by
  subst e
  cases x <;> first | (cases r; done) | (obtain ⟨t, h⟩ := r; cases h; done)
theorem RelV.bool_iff {x : V} {u : Value} {c : Bool} (r : RelV x u) : (u == Value.bool c) = decide (x = .bl c) := by
  cases x <;> first | (cases r; first | rfl | (rename_i b; cases b <;> cases c <;> rfl)) | (obtain ⟨t, rfl⟩ := r; rfl)
theorem op_isB {X : Cx} : OpR X (compareOp .Is) (fun x y H Q => ∃ c, y = .bl c ∧ Q (.bl (decide (x = .bl c))) H) := by
  intro pins s σ H x y v u Q I rx ry h
  obtain ⟨c, rfl, q⟩ := h
  cases ry
  exact is_bool_gen (RelV.no_builtin rx) ⟨_, H, I, by rw [RelV.bool_iff rx]; rfl, q⟩
theorem op_notB {X : Cx} : OpR X (compareOp .IsNot) (fun x y H Q => ∃ c, y = .bl c ∧ Q (.bl (!decide (x = .bl c))) H) := by
  intro pins s σ H x y v u Q I rx ry h
  obtain ⟨c, rfl, q⟩ := h
  cases ry
  exact isnot_bool_gen (RelV.no_builtin rx) ⟨_, H, I, by rw [RelV.bool_iff rx]; rfl, q⟩
/-- a datum that may stand left of is, told by its kind -/
def isKind : D → Bool
  | .set _ => false | .fn _ => false | .cls _ => false | .exn _ _ _ => false
  | _ => true
def isNonD : D → Bool
  | .non => true
  | _ => false
def isBlD (c : Bool) : D → Bool
  | .bl b => b == c
  | _ => false
def gIsC : D → D → Option Bool
  | x, .non => if isKind x then some (isNonD x) else none
  | x, .bl c => if isKind x then some (isBlD c x) else none
  | _, _ => none
theorem RepB.ne_non {K : PySem.W.Frag} {F H : Hp} {σ : St} {x : D} {v : V} (s : Sb F H) (h : RepB K F H x v) (hk : isKind x = true) : decide (v = .non) = (isNonD x) := by
  cases x with
  | non => have := h.non; subst this; rfl
  | bl b => have := h.bl; subst this; rfl
  | int b => have := h.int; subst this; rfl
  | str b => have := h.str; subst this; rfl
  | ty b => have := h.ty; subst this; rfl
  | tup xs => obtain ⟨a, _, rfl, _⟩ := h.tup; rfl
  | lst xs => obtain ⟨a, _, rfl, _⟩ := h.lst s; rfl
  | ext xs => obtain ⟨a, _, rfl, _⟩ := h.ext; rfl
  | dic t ks xs => obtain ⟨a, _, _, rfl, _⟩ := h.dic s; rfl
  | _ => cases hk
theorem RepB.ne_bl {K : PySem.W.Frag} {F H : Hp} {σ : St} {x : D} {v : V} {c : Bool} (s : Sb F H) (h : RepB K F H x v) (hk : isKind x = true) : decide (v = .bl c) = (isBlD c x) := by
  cases x with
  | non => have := h.non; subst this; rfl
  | bl b => have := h.bl; subst this; rw [dec_bl]; rfl
  | int b => have := h.int; subst this; rfl
  | str b => have := h.str; subst this; rfl
  | ty b => have := h.ty; subst this; rfl
  | tup xs => obtain ⟨a, _, rfl, _⟩ := h.tup; rfl
  | lst xs => obtain ⟨a, _, rfl, _⟩ := h.lst s; rfl
  | ext xs => obtain ⟨a, _, rfl, _⟩ := h.ext; rfl
  | dic t ks xs => obtain ⟨a, _, _, rfl, _⟩ := h.dic s; rfl
  | _ => cases hk
theorem oc_is {K : PySem.W.Frag} : OpC K (fun x y H Q => (y = .non ∧ Q (.bl (decide (x = .non))) H) ∨ ∃ c, y = .bl c ∧ Q (.bl (decide (x = .bl c))) H) gIsC := by
  intro σ G F H δ x y v w b Q rel rx ry e k
  cases y with
  | non =>
    have e : (if isKind x = true then some (isNonD x) else none) = some b := e
    split at e
    · rename_i hk
      cases e
      refine .inl ⟨ry.non, ?_⟩
      rw [RepB.ne_non (σ := σ) rel.subF rx hk]
      exact k
    · cases e
  | bl c =>
    have e : (if isKind x = true then some (isBlD c x) else none) = some b := e
    split at e
    · rename_i hk
      cases e
      refine .inr ⟨c, ry.bl, ?_⟩
      rw [RepB.ne_bl (σ := σ) rel.subF rx hk]
      exact k
    · cases e
  | _ => cases e
theorem oc_isnot {K : PySem.W.Frag} : OpC K (fun x y H Q => (y = .non ∧ Q (.bl (!decide (x = .non))) H) ∨ ∃ c, y = .bl c ∧ Q (.bl (!decide (x = .bl c))) H) (fun x y => (gIsC x y).map (!·)) := by
  intro σ G F H δ x y v w b Q rel rx ry e k
  have e : (gIsC x y).map (!·) = some b := e
  cases eg : gIsC x y with
  | none => rw [eg] at e; cases e
  | some c =>
    rw [eg] at e
    cases e
    have := oc_is (K := K) σ G F H δ x y v w c (fun z H' => Q (match z with | .bl t => .bl (!t) | z => z) H') rel rx ry eg k
    exact this
/-! ### in -/
def flatD : D → Bool
  | .non => true | .bl _ => true | .int _ => true | .str _ => true
  | _ => false
theorem eqV_of {K : PySem.W.Frag} {F H : Hp} {x y : D} {v w : V} (rx : RepB K F H x v) (ry : RepB K F H y w) (fx : flatD x = true) (fy : flatD y = true) : eqV v w = eqD x y ∧ flatV v = true := by
  cases x <;> simp [flatD] at fx <;> cases y <;> simp [flatD] at fy
  all_goals
    first
    | (have hv := rx.non) | (have hv := rx.int) | (have hv := rx.bl) | (have hv := rx.str)
  all_goals
    first
    | (have hw := ry.non) | (have hw := ry.int) | (have hw := ry.bl) | (have hw := ry.str)
  all_goals subst hv; subst hw; simp [eqV, eqD, flatV, str_beq]
theorem inV_of {K : PySem.W.Frag} {F H : Hp} {x : D} {v : V} (rx : RepB K F H x v) (fx : flatD x = true) : ∀ {ds : List D} {vs : List V}, RepL K F ds vs → ds.all flatD = true → (vs.any fun y => eqV y v) = (ds.any fun y => eqD y x) ∧ vs.all flatV = true
  | [], vs, h, fs => by unfold RepL at h; subst h; simp
  | d :: ds, vs, h, fs => by
    unfold RepL at h
    obtain ⟨u, r, rfl, h1, h2⟩ := h
    simp only [List.all_cons, Bool.and_eq_true] at fs
    obtain ⟨e1, e2⟩ := eqV_of (H := H) (.inl h1) rx fs.1 fx
    obtain ⟨e3, e4⟩ := inV_of rx fx h2 fs.2
    simp only [List.any_cons, List.all_cons, e1, e2, e3, e4, Bool.and_self, and_self]
def gInF : D → D → Option Bool := fun x y => match seqD y with
  | some xs => if flatD x && xs.all flatD then some (xs.any fun z => eqD z x) else none
  | none => none
theorem oc_inF {K : PySem.W.Frag} {neg : Bool} : OpC K (rIn K neg) (fun x y => (gInF x y).map fun b => if neg then !b else b) := by
  intro σ G F H δ x y v w b Q rel rx ry e k
  have e : (match seqD y with | some xs => if flatD x && xs.all flatD then some (xs.any fun z => eqD z x) else none | none => none).map (fun b => if neg then !b else b) = some b := e
  cases es : seqD y with
  | none => rw [es] at e; cases e
  | some xs =>
    rw [es] at e
    dsimp only at e
    by_cases hf : (flatD x && xs.all flatD) = true
    · rw [if_pos hf] at e
      cases e
      obtain ⟨f1, f2⟩ := Bool.and_eq_true_iff.mp hf
      obtain ⟨a, vs, rfl, h1, h2⟩ := ry.seq rel.subF es
      obtain ⟨e1, e2⟩ := inV_of rx f1 h2 f2
      refine ⟨a, vs, rfl, h1, ?_, e2, ?_⟩
      · exact (eqV_of rx rx f1 f1).2
      · unfold inV; rw [e1]; exact k
    · rw [if_neg hf] at e; cases e
def gInD : D → D → Option Bool
  | x, .lst xs => if okD 60 x && okD 60 (.lst xs) then some (xs.any fun z => eqD z x) else none
  | _, _ => none
theorem any_toPy {n : Nat} {x : D} (hx : okD n x = true) : ∀ (xs : List D), okDL n xs = true → ((toPyL xs).any fun z => PyData.eqv z (toPy x)) = xs.any fun z => eqD z x
  | [], _ => rfl
  | d :: ds, h => by
    unfold okDL at h
    obtain ⟨a, b⟩ := Bool.and_eq_true_iff.mp h
    simp only [toPyL, List.any_cons]
    rw [eqv_eqD n d x a hx, any_toPy hx ds b]
mutual
theorem okD_mono : ∀ (n : Nat) (d : D), okD n d = true → okD (n + 1) d = true
  | n, d, h => by
    cases n with
    | zero => cases d <;> simp [okD] at h ⊢; exact h
    | succ n => cases d <;> simp only [okD] at h ⊢ <;> first | exact h | exact okDL_mono n _ h
theorem okDL_mono : ∀ (n : Nat) (ds : List D), okDL n ds = true → okDL (n + 1) ds = true
  | n, [], h => by simp [okDL]
  | n, d :: ds, h => by
    unfold okDL at h ⊢
    obtain ⟨a, b⟩ := Bool.and_eq_true_iff.mp h
    rw [okD_mono n d a, okDL_mono n ds b]; rfl
end
theorem oc_inD {K : PySem.W.Frag} {neg : Bool} : OpC K (fun x y H Q => ∃ d ds, Dp K H x d ∧ Dp K H y (.list ds) ∧ SeqAt.shaped d = true ∧ SeqAt.shaped (.list ds) = true ∧ Q (.bl (if neg then !(ds.any fun z => PyData.eqv z d) else ds.any fun z => PyData.eqv z d)) H) (fun x y => (gInD x y).map fun b => if neg then !b else b) := by
  intro σ G F H δ x y v w b Q rel rx ry e k
  cases y with
  | lst xs =>
    have e : (if okD 60 x && okD 60 (.lst xs) then some (xs.any fun z => eqD z x) else none).map (fun b => if neg then !b else b) = some b := e
    by_cases hf : (okD 60 x && okD 60 (.lst xs)) = true
    · rw [if_pos hf] at e
      cases e
      obtain ⟨f1, f2⟩ := Bool.and_eq_true_iff.mp hf
      have f3 : okDL 60 xs = true := okDL_mono 59 xs f2
      refine ⟨toPy x, toPyL xs, dp_ofB rel.subF f1 rx, dp_ofB (d := .lst xs) rel.subF f2 ry, okD_shaped f1 (by decide), okD_shaped (d := .lst xs) f2 (by decide), ?_⟩
      rw [any_toPy f1 xs f3]
      exact k
    · rw [if_neg hf] at e; cases e
  | _ => cases e
/-- one sign in a text -/
def gInC : D → D → Option Bool
  | .str [c], .str z => some (decide (c ∈ z))
  | _, _ => none
theorem oc_inC {K : PySem.W.Frag} {neg : Bool} : OpC K (fun x y H Q => ∃ (c : Nat) (z : Str), x = .str ⟨#[c]⟩ ∧ y = .str z ∧ Q (.bl (if neg then !decide (c ∈ z.cps.toList) else decide (c ∈ z.cps.toList))) H) (fun x y => (gInC x y).map fun b => if neg then !b else b) := by
  intro σ G F H δ x y v w b Q rel rx ry e k
  have e : (gInC x y).map (fun b => if neg then !b else b) = some b := e
  cases eg : gInC x y with
  | none => rw [eg] at e; cases e
  | some t =>
    rw [eg] at e
    cases e
    unfold gInC at eg
    split at eg
    · rename_i c z
      cases eg
      have hv := rx.str; have hw := ry.str; subst hv; subst hw
      exact ⟨c, _, rfl, rfl, k⟩
    · cases eg

/-! ### truth -/
def truD : D → Option Bool
  | .non => some false
  | .bl b => some b
  | .int i => some (i != 0)
  | .str s => if fits s.length then some (!s.isEmpty) else none
  | .lst xs => some (!xs.isEmpty)
  | .ext xs => some (!xs.isEmpty)
  | .tup xs => some (!xs.isEmpty)
  | _ => none
theorem isEmpty_repL {K : PySem.W.Frag} {F : Hp} {xs : List D} {vs : List V} (h : RepL K F xs vs) : vs.isEmpty = xs.isEmpty := by
  cases xs with
  | nil => unfold RepL at h; subst h; rfl
  | cons a b => unfold RepL at h; obtain ⟨v, r, rfl, _⟩ := h; rfl
theorem truD_ok {K : PySem.W.Frag} {F H : Hp} {d : D} {v : V} {b : Bool} (s : Sb F H) (h : RepB K F H d v) (e : truD d = some b) : TruV K v H b := by
  cases d with
  | non => have := h.non; subst this; cases e; rfl
  | bl c => have := h.bl; subst this; cases e; rfl
  | int i => have := h.int; subst this; cases e; rfl
  | str x =>
    have := h.str; subst this
    have e : (if fits x.length then some (!x.isEmpty) else none) = some b := e
    split at e
    · rename_i hf
      cases e
      refine ⟨by rw [str_len]; exact fits_le hf, ?_⟩
      rw [str_len]
      cases x with
      | nil => rfl
      | cons a b =>
        have h2 : ((((a :: b).length : Nat) : Int) != 0) = true := by
          simp only [List.length_cons, bne_iff_ne, ne_eq]; omega
        rw [h2]; rfl
    · cases e
  | lst xs =>
    obtain ⟨a, vs, rfl, h1, h2⟩ := h.lst s
    cases e
    exact .inl ⟨vs, .of h1, by rw [isEmpty_repL h2]⟩
  | ext xs =>
    obtain ⟨a, vs, rfl, h1, h2⟩ := h.ext
    cases e
    exact .inl ⟨vs, SqL.sub s h1, by rw [isEmpty_repL h2]⟩
  | tup xs =>
    obtain ⟨a, vs, rfl, h1, h2⟩ := h.tup
    cases e
    exact .inr (.inl ⟨vs, SqT.sub s h1, by rw [isEmpty_repL h2]⟩)
  | _ => cases e
def lift1 {α : Type} (g : D → Option α) (o : Op) : M α := fun δ => match deref δ o with
  | some x => (match g x with
    | some a => .ok a δ
    | none => .bad)
  | none => .bad
theorem lift1_ok {α β : Type} {K : PySem.W.Frag} {G : GP} {F : Hp} {σ : St} {W : WX} {VR : Hp → Hp → EnvS → α → β → Prop} {Q : β → Hp → Prop} {g : D → Option α} {o : Op} {δ : EnvS} (h : Sat K G F σ W (lift1 g o δ) VR Q) :
    ∃ x a, deref δ o = some x ∧ g x = some a ∧ Sat K G F σ W (R.ok a δ) VR Q := by
  unfold lift1 at h
  cases e1 : deref δ o with
  | none => rw [e1] at h; exact h.elim
  | some x =>
    rw [e1] at h
    dsimp only at h
    cases e3 : g x with
    | none => rw [e3] at h; exact h.elim
    | some a => rw [e3] at h; exact ⟨x, a, rfl, e3, h⟩
/-- an expression's truth as a test -/
def cTru (f : M Op) : M Bool := M.bind f fun o => lift1 truD o
section
variable {X : Cx} {a b : Expr} {fa fb : M Op} {pos : Pos}
theorem dt_tru (ha : DE X a fa) (he : ∀ whole, isTrue a X.env whole = (do let v ← whole; standAt a.pos; holding [v] (truthy v))) : DT X a (cTru fa) := by
  refine ⟨fun W tk => PT.weak (pt_truth (ha.run W tk) he) fun pins s σ H Q I h => ?_⟩
  obtain ⟨G, F, δ, r, h⟩ := h
  refine bindE r .refl h fun o δ1 v F1 H1 s1 r1 q1 h => ?_
  obtain ⟨x, k, e1, e2, h⟩ := lift1_ok h
  exact ⟨k, truD_ok r1.subF (deref_rep r1 q1 e1) e2, h k F1 H1 .refl r1 rfl⟩
/-! ### and, or, not -/
def cNotT (f : M Bool) : M Bool := M.bind f fun b => mOk (!b)
theorem dt_not {f : M Bool} (ha : DT X a f) : DT X (.UnaryOp .Not a pos) (cNotT f) := by
  refine ⟨fun W tk => PT.weak (pt_not (ha.run W tk)) fun pins s σ H Q I h => ?_⟩
  obtain ⟨G, F, δ, r, h⟩ := h
  exact bindT r .refl h fun b δ1 F1 H1 s1 r1 h => h (!b) F1 H1 .refl r1 rfl
def cAndT (f g : M Bool) : M Bool := M.bind f fun b => if b = true then g else mOk false
def cOrT (f g : M Bool) : M Bool := M.bind f fun b => if b = true then mOk true else g
theorem dw_and1 {f : M Bool} (ha : DT X a f) : DW X (.BoolOp .And [a] pos) f := ⟨fun W tk => pw_and1 (ha.run W tk)⟩
theorem dw_or1 {f : M Bool} (ha : DT X a f) : DW X (.BoolOp .Or [a] pos) f := ⟨fun W tk => pw_or1 (ha.run W tk)⟩
theorem dw_and {f g : M Bool} {rest : List Expr} (ha : DT X a f) (hb : DW X (.BoolOp .And (b :: rest) pos) g) : DW X (.BoolOp .And (a :: b :: rest) pos) (cAndT f g) := by
  refine ⟨fun W tk => PW.weak (pw_and (ha.run W tk) (hb.run W tk)) fun pins s σ H Q I h => ?_⟩
  obtain ⟨G, F, δ, r, h⟩ := h
  refine bindT r .refl h fun b δ1 F1 H1 s1 r1 h => ?_
  cases b with
  | true => exact ⟨G, F1, δ1, r1, h⟩
  | false => exact h false F1 H1 .refl r1 rfl
theorem dw_or {f g : M Bool} {rest : List Expr} (ha : DT X a f) (hb : DW X (.BoolOp .Or (b :: rest) pos) g) : DW X (.BoolOp .Or (a :: b :: rest) pos) (cOrT f g) := by
  refine ⟨fun W tk => PW.weak (pw_or (ha.run W tk) (hb.run W tk)) fun pins s σ H Q I h => ?_⟩
  obtain ⟨G, F, δ, r, h⟩ := h
  refine bindT r .refl h fun b δ1 F1 H1 s1 r1 h => ?_
  cases b with
  | true => exact h true F1 H1 .refl r1 rfl
  | false => exact ⟨G, F1, δ1, r1, h⟩
theorem DW.dt {f : M Bool} (h : DW X a f) : DT X a f := ⟨fun W tk => (h.run W tk).pt⟩
/-- as values -/
def cNot (f : M Op) : M Op := M.bind f fun o => lift1 (fun d => (truD d).map fun b => Op.val (.bl (!b))) o
theorem rep_bl {K : PySem.W.Frag} {F : Hp} (b : Bool) : Rep K F (.bl b) (.bl b) := by unfold Rep; rfl
theorem rep_int {K : PySem.W.Frag} {F : Hp} (b : Int) : Rep K F (.int b) (.int b) := by unfold Rep; rfl
theorem rep_str {K : PySem.W.Frag} {F : Hp} (b : List Nat) : Rep K F (.str b) (.str ⟨b.toArray⟩) := by unfold Rep; rfl
theorem rep_non {K : PySem.W.Frag} {F : Hp} : Rep K F .non .non := by unfold Rep; rfl
theorem de_not (ha : DE X a fa) : DE X (.UnaryOp .Not a pos) (cNot fa) := by
  refine ⟨fun W tk => PE.weak (pe_notT (ha.run W tk)) fun pins s σ H Q I h => ?_⟩
  obtain ⟨G, F, δ, r, h⟩ := h
  refine bindE r .refl h fun o δ1 v F1 H1 s1 r1 q1 h => ?_
  obtain ⟨x, op, e1, e2, h⟩ := lift1_ok h
  cases e3 : truD x with
  | none => rw [e3] at e2; cases e2
  | some k =>
    rw [e3] at e2
    cases e2
    exact ⟨k, truD_ok r1.subF (deref_rep r1 q1 e1) e3, h _ F1 H1 .refl r1 (show Rep X.K F1 (.bl _) _ from rep_bl _)⟩
/-- x or y, x and y: the deciding value as it is -/
def truO (o : Op) : M Bool := lift1 truD o
def cOr (f g : M Op) : M Op := M.bind f fun o => M.bind (truO o) fun b => if b = true then mOk o else g
def cAnd (f g : M Op) : M Op := M.bind f fun o => M.bind (truO o) fun b => if b = true then g else mOk o
theorem truO_ok {α β : Type} {K : PySem.W.Frag} {G : GP} {F : Hp} {σ : St} {W : WX} {VR : Hp → Hp → EnvS → α → β → Prop} {Q : β → Hp → Prop} {o : Op} {δ : EnvS} {g : Bool → M α} (h : Sat K G F σ W (M.bind (truO o) g δ) VR Q) :
    ∃ x k, deref δ o = some x ∧ truD x = some k ∧ Sat K G F σ W (g k δ) VR Q := by
  unfold M.bind truO lift1 at h
  cases e1 : deref δ o with
  | none => rw [e1] at h; exact h.elim
  | some x =>
    rw [e1] at h
    dsimp only at h
    cases e3 : truD x with
    | none => rw [e3] at h; exact h.elim
    | some k => rw [e3] at h; exact ⟨x, k, rfl, e3, h⟩
theorem de_or {f g : M Op} {rest : List Expr} (ha : DE X a f) (hb : DE X (.BoolOp .Or (b :: rest) pos) g) : DE X (.BoolOp .Or (a :: b :: rest) pos) (cOr f g) := by
  refine ⟨fun W tk => PE.weak (pe_orT (ha.run W tk) (hb.run W tk)) fun pins s σ H Q I h => ?_⟩
  obtain ⟨G, F, δ, r, h⟩ := h
  refine bindE r .refl h fun o δ1 v F1 H1 s1 r1 q1 h => ?_
  obtain ⟨x, k, e1, e2, h⟩ := truO_ok h
  refine ⟨k, truD_ok r1.subF (deref_rep r1 q1 e1) e2, ?_⟩
  cases k with
  | true => exact h v F1 H1 .refl r1 q1
  | false => exact ⟨G, F1, δ1, r1, h⟩
theorem de_and {f g : M Op} {rest : List Expr} (ha : DE X a f) (hb : DE X (.BoolOp .And (b :: rest) pos) g) : DE X (.BoolOp .And (a :: b :: rest) pos) (cAnd f g) := by
  refine ⟨fun W tk => PE.weak (pe_andT (ha.run W tk) (hb.run W tk)) fun pins s σ H Q I h => ?_⟩
  obtain ⟨G, F, δ, r, h⟩ := h
  refine bindE r .refl h fun o δ1 v F1 H1 s1 r1 q1 h => ?_
  obtain ⟨x, k, e1, e2, h⟩ := truO_ok h
  refine ⟨k, truD_ok r1.subF (deref_rep r1 q1 e1) e2, ?_⟩
  cases k with
  | true => exact ⟨G, F1, δ1, r1, h⟩
  | false => exact h v F1 H1 .refl r1 q1
theorem de_one {op : BoolOp} (h : DE X a fa) : DE X (.BoolOp op [a] pos) fa := ⟨fun W tk => pe_one (h.run W tk)⟩
def cIf (c : M Bool) (f g : M Op) : M Op := M.bind c fun b => if b = true then f else g
theorem de_if {c : Expr} {fc : M Bool} (hc : DT X c fc) (ha : DE X a fa) (hb : DE X b fb) : DE X (.IfExp c a b pos) (cIf fc fa fb) := by
  refine ⟨fun W tk => PE.weak (pe_ifExp (hc.run W tk) (ha.run W tk) (hb.run W tk)) fun pins s σ H Q I h => ?_⟩
  obtain ⟨G, F, δ, r, h⟩ := h
  refine bindT r .refl h fun k δ1 F1 H1 s1 r1 h => ?_
  cases k with
  | true => exact ⟨G, F1, δ1, r1, h⟩
  | false => exact ⟨G, F1, δ1, r1, h⟩
/-! ### one operand -/
def cUn (g : D → Option Op) (f : M Op) : M Op := M.bind f fun o => lift1 g o
def gNeg : D → Option Op
  | .int i => some (.val (.int (-i)))
  | _ => none
theorem de_neg (ha : DE X a fa) : DE X (.UnaryOp .USub a pos) (cUn gNeg fa) := by
  refine ⟨fun W tk => PE.weak (pe_un un_neg (ha.run W tk)) fun pins s σ H Q I h => ?_⟩
  obtain ⟨G, F, δ, r, h⟩ := h
  refine bindE r .refl h fun o δ1 v F1 H1 s1 r1 q1 h => ?_
  obtain ⟨x, op, e1, e2, h⟩ := lift1_ok h
  have rb := deref_rep r1 q1 e1
  cases x with
  | int i =>
    cases e2
    exact ⟨i, rb.int, h _ F1 H1 .refl r1 (show Rep X.K F1 (.int _) _ from rep_int _)⟩
  | _ => cases e2
end
end Ev
set_option Elab.async false
set_option linter.all false
set_option autoImplicit false
set_option maxRecDepth 100000
set_option maxHeartbeats 4000000
namespace Ev
open PySem PySem.Spec L2
open PyProof.Rows hiding St
/-! ### a value that is kept: frozen -/
def esc : Op → M D
  | .val d => mOk d
  | .fresh d => mOk d
  | .place i => fun δ => match δ[i]? with
    | some (.own false d) => .ok d (δ.set i (.val d))
    | some (.val d) => .ok d δ
    | _ => .bad
theorem Rel.freezeSlot {K : PySem.W.Frag} {G : GP} {F H : Hp} {σ : St} {δ : EnvS} (r : Rel K G F H σ δ) {i : Nat} {d : D} {a : Addr} {o : HO} (e : δ[i]? = some (.own false d)) (ea : σ[i]? = some (some (.ref a))) (eo : H a = some o) :
    Rel K G (upd F a o) H σ (δ.set i (.val d)) := by
  have own := r.slot i _ e
  obtain ⟨b, h1, h2, h3, h4⟩ := own
  rw [ea] at h1; cases h1
  have hi : i < δ.length := (List.getElem?_eq_some_iff.mp e).1
  refine ⟨r.subF.upd_left eo, r.subG, fun c u q => ?_, fun j s q => ?_, fun j k s t c q1 o1 q2 o2 p1 p2 => ?_, by rw [List.length_set]; exact r.len, fun j x q => ?_⟩
  · rw [upd_ne (ne_of_none q h3)]; exact r.disj c u q
  · by_cases hj : j = i
    · subst hj
      rw [List.getElem?_set_self hi] at q
      cases q
      exact ⟨_, ea, h4.freeze eo (.inl h2)⟩
    · rw [List.getElem?_set_ne (Ne.symm hj)] at q
      have z := r.slot j s q
      cases s with
      | none => trivial
      | val x => obtain ⟨v, z1, z2⟩ := z; exact ⟨v, z1, Rep.sub (.upd_new h2) _ _ z2⟩
      | own io x =>
        obtain ⟨c, z1, z2, z3, z4⟩ := z
        have ne : c ≠ a := fun w => hj (r.inj j i _ _ a q rfl e rfl (w ▸ z1) ea)
        exact ⟨c, z1, by rw [upd_ne ne]; exact z2, z3, z4.mono (.upd_new h2) rfl⟩
  · have notval : ∀ {m : Nat} {x : Slot}, (δ.set i (.val d))[m]? = some x → x.isOwn = true → m ≠ i ∧ δ[m]? = some x := fun {m x} w w2 => by
      by_cases hm : m = i
      · subst hm; rw [List.getElem?_set_self hi] at w; cases w; cases w2
      · rw [List.getElem?_set_ne (Ne.symm hm)] at w; exact ⟨hm, w⟩
    exact r.inj j k s t c (notval q1 o1).2 o1 (notval q2 o2).2 o2 p1 p2
  · by_cases hj : j = i
    · subst hj; rw [List.getElem?_set_self hi] at q; cases q
    · rw [List.getElem?_set_ne (Ne.symm hj)] at q; exact r.pin j x q
theorem esc_ok {K : PySem.W.Frag} {G : GP} {F H : Hp} {σ : St} {δ δ' : EnvS} {op : Op} {v : V} {d : D} (r : Rel K G F H σ δ) (h : OpRep K σ G F H δ op v) (e : esc op δ = .ok d δ') :
    ∃ F', Sb F F' ∧ Rel K G F' H σ δ' ∧ Rep K F' d v := by
  cases op with
  | val x => cases e; exact ⟨F, .refl, r, h⟩
  | fresh x =>
    cases e
    obtain ⟨a, rfl, h1, h2, h3, h4⟩ := h
    obtain ⟨o, eo⟩ := h3.there
    exact ⟨upd F a o, .upd_new h1, r.freezeAt eo h2 h4 (.inl h1), h3.freeze eo (.inl h1)⟩
  | place i =>
    have hs : σ[i]? = some (some v) := h
    unfold esc at e
    dsimp only at e
    split at e
    · rename_i d' hd
      cases e
      obtain ⟨a, h1, h2, h3, h4⟩ := r.slot i _ hd
      rw [hs] at h1; cases h1
      obtain ⟨o, eo⟩ := h4.there
      exact ⟨upd F a o, .upd_new h2, r.freezeSlot hd hs eo, h4.freeze eo (.inl h2)⟩
    · rename_i d' hd
      cases e
      obtain ⟨u, h1, h2⟩ := r.slot i _ hd
      rw [hs] at h1; cases h1
      exact ⟨F, .refl, r, h2⟩
    · cases e
theorem esc_never {op : Op} {δ δ' : EnvS} {x : D} : esc op δ ≠ .ex x δ' := by
  intro h
  cases op with
  | val d => cases h
  | fresh d => cases h
  | place i => unfold esc at h; dsimp only at h; split at h <;> cases h
/-- behind an expression whose value is kept -/
theorem escE {α β : Type} {K : PySem.W.Frag} {G : GP} {F H : Hp} {σ : St} {δ : EnvS} {W : WX} {op : Op} {v : V} {g : D → M α} {VR : Hp → Hp → EnvS → α → β → Prop} {Q : β → Hp → Prop}
    {G' : GP} (r : Rel K G' F H σ δ) (q : OpRep K σ G' F H δ op v) (h : Sat K G F σ W (M.bind (esc op) g δ) VR Q) :
    ∃ d F' δ', Sb F F' ∧ Rel K G' F' H σ δ' ∧ Rep K F' d v ∧ Sat K G F' σ W (g d δ') VR Q := by
  unfold M.bind at h
  cases e : esc op δ with
  | ok d δ' =>
    rw [e] at h
    obtain ⟨F', s, r', p⟩ := esc_ok r q e
    exact ⟨d, F', δ', s, r', p, h.up s⟩
  | ex x δ' => exact absurd e esc_never
  | bad => rw [e] at h; exact h.elim

/-! ### lists of arguments -/
def notStar : Expr → Bool
  | .Starred _ _ => false
  | _ => true
theorem starEach_cons {e : Expr} {es : List Expr} {env : Env} (h : notStar e = true) : starEach (e :: es) env = (false, eval e env) :: starEach es env := by
  cases e <;> first | rfl | cases h
def cNil : M (List D) := mOk []
def cCons (f : M Op) (g : M (List D)) : M (List D) := M.bind f fun o => M.bind (esc o) fun d => M.bind g fun ds => mOk (d :: ds)
section
variable {X : Cx} {e : Expr} {es : List Expr} {f : M Op} {g : M (List D)} {pos : Pos}
theorem da_nil : DA X [] cNil := ⟨fun W tk => PA.weak pa_nil fun pins s σ H Q I h => by
  obtain ⟨G, F, δ, r, h⟩ := h
  exact h [] F H .refl r .nil⟩
theorem da_cons (ha : DE X e f) (hr : DA X es g) (hs : notStar e = true) : DA X (e :: es) (cCons f g) := by
  refine ⟨fun W tk => PA.weak (pa_cons (ha.run W tk) (hr.run W tk) (starEach_cons hs)) fun pins s σ H Q I h => ?_⟩
  obtain ⟨G, F, δ, r, h⟩ := h
  refine bindE r .refl h fun o δ1 v F1 H1 s1 r1 q1 h => ?_
  obtain ⟨d, F2, δ2, s2, r2, p2, h⟩ := escE r1 q1 h
  refine bindA r2 .refl h fun ds δ3 vs F3 H3 s3 r3 p3 h => ?_
  exact h (v :: vs) F3 H3 .refl r3 (.cons (Rep.sub s3 _ _ p2) p3)
def cTup (f : M (List D)) : M Op := M.bind f fun ds => fun δ => if fits ds.length then .ok (.val (.tup ds)) δ else .bad
def cLst (f : M (List D)) : M Op := M.bind f fun ds => fun δ => if fits ds.length then .ok (.fresh (.lst ds)) δ else .bad
theorem de_tup {k : Nat} (h : DA X es g) : DE X (.Tuple es k pos) (cTup g) := by
  refine ⟨fun W tk => PE.weak (pe_tup (h.run W tk)) fun pins s σ H Q I h => ?_⟩
  obtain ⟨G, F, δ, r, h⟩ := h
  refine bindA r .refl h fun ds δ1 vs F1 H1 s1 r1 q1 h => ?_
  by_cases c : fits ds.length = true
  · simp only [if_pos c] at h
    exact ⟨by rw [q1.length]; exact fits_le c, new_tup r1 q1 fun u F' H' s' r' q' => h u F' H' s' r' q'⟩
  · simp only [if_neg c] at h; exact h.elim
theorem de_lst (h : DA X es g) : DE X (.List es pos) (cLst g) := by
  refine ⟨fun W tk => PE.weak (pe_lst (h.run W tk)) fun pins s σ H Q I h => ?_⟩
  obtain ⟨G, F, δ, r, h⟩ := h
  refine bindA r .refl h fun ds δ1 vs F1 H1 s1 r1 q1 h => ?_
  by_cases c : fits ds.length = true
  · simp only [if_pos c] at h
    exact ⟨by rw [q1.length]; exact fits_le c, new_lst r1 q1 fun u F' H' s' r' q' => h u F' H' s' r' q'⟩
  · simp only [if_neg c] at h; exact h.elim
end
/-! ### arguments that are read alone (of built-ins) -/
def OpReps (K : PySem.W.Frag) (σ : St) (G : GP) (F H : Hp) (δ : EnvS) : List Op → List V → Prop
  | [], vs => vs = []
  | o :: os, vs => ∃ v r, vs = v :: r ∧ OpRep K σ G F H δ o v ∧ OpReps K σ G F H δ os r
abbrev VO (K : PySem.W.Frag) (σ : St) (G : GP) : Hp → Hp → EnvS → List Op → List V → Prop := fun F' H' δ' a b => OpReps K σ G F' H' δ' a b
theorem OpReps.lessG {K : PySem.W.Frag} {σ : St} {G G' : GP} {F H : Hp} {δ : EnvS} (s : SbG G G') : ∀ {os : List Op} {vs : List V}, OpReps K σ G' F H δ os vs → OpReps K σ G F H δ os vs
  | [], vs, h => h
  | o :: os, vs, h => by
    obtain ⟨v, r, e, h1, h2⟩ := h
    exact ⟨v, r, e, h1.lessG s, h2.lessG s⟩
def tO (K : PySem.W.Frag) (f : M (List Op)) (W : WX) : TA := fun σ H Q => ∃ G F δ, Rel K G F H σ δ ∧ Sat K G F σ W (f δ) (VO K σ G) Q
structure DO (X : Cx) (es : List Expr) (f : M (List Op)) : Prop where
  run : ∀ W, Takes X W → PA X es (tO X.K f W)
theorem bindO {α β : Type} {K : PySem.W.Frag} {G G' : GP} {F H : Hp} {σ : St} {δ : EnvS} {W : WX} {fa : M (List Op)} {g : List Op → M α} {VR : Hp → Hp → EnvS → α → β → Prop} {Q : β → Hp → Prop} {P : List V → Hp → Prop}
    (r : Rel K G' F H σ δ) (sG : SbG G G') (h : Sat K G F σ W (M.bind fa g δ) VR Q)
    (k : ∀ op δ1 v F1 H1, Sb F F1 → Rel K G' F1 H1 σ δ1 → OpReps K σ G' F1 H1 δ1 op v → Sat K G F1 σ W (g op δ1) VR Q → P v H1) : tO K fa W σ H P := by
  refine ⟨G', F, δ, r, ?_⟩
  unfold M.bind at h
  cases e : fa δ with
  | ok op δ1 =>
    rw [e] at h
    exact fun v F1 H1 s r1 o => k op δ1 v F1 H1 s r1 o (h.up s)
  | ex x δ1 => rw [e] at h; exact fun F' H' cls d s' r x => h F' H' cls d s' (r.lessG sG) x
  | bad => rw [e] at h; exact h.elim
def cNilO : M (List Op) := mOk []
def cConsO (f : M Op) (g : M (List Op)) : M (List Op) := M.bind f fun o => M.bind g fun os => mOk (o :: os)
section
variable {X : Cx} {e : Expr} {es : List Expr} {f : M Op} {g : M (List Op)} {pos : Pos}
theorem do_nil : DO X [] cNilO := ⟨fun W tk => PA.weak pa_nil fun pins s σ H Q I h => by
  obtain ⟨G, F, δ, r, h⟩ := h
  exact h [] F H .refl r rfl⟩
theorem do_cons (ha : DE X e f) (hr : DO X es g) (hs : notStar e = true) : DO X (e :: es) (cConsO f g) := by
  refine ⟨fun W tk => PA.weak (pa_cons (ha.run W tk) (hr.run W tk) (starEach_cons hs)) fun pins s σ H Q I h => ?_⟩
  obtain ⟨G, F, δ, r, h⟩ := h
  refine bindE r .refl h fun o δ1 v F1 H1 s1 r1 q1 h => ?_
  refine bindO (r1.pend q1) (pend_sub q1) h fun os δ2 vs F2 H2 s2 r2 q2 h => ?_
  exact h (v :: vs) F2 H2 .refl (r2.lessG (pend_sub q1)) ⟨v, vs, rfl, pend_keep q1 s2 r2, q2.lessG (pend_sub q1)⟩
end
def derefs (δ : EnvS) : List Op → Option (List D)
  | [] => some []
  | o :: os => match deref δ o, derefs δ os with
    | some d, some ds => some (d :: ds)
    | _, _ => none
def RepBs (K : PySem.W.Frag) (F H : Hp) : List D → List V → Prop
  | [], vs => vs = []
  | d :: ds, vs => ∃ v r, vs = v :: r ∧ RepB K F H d v ∧ RepBs K F H ds r
theorem derefs_rep {K : PySem.W.Frag} {G : GP} {F H : Hp} {σ : St} {δ : EnvS} (r : Rel K G F H σ δ) : ∀ {os : List Op} {vs : List V} {ds : List D}, OpReps K σ G F H δ os vs → derefs δ os = some ds → RepBs K F H ds vs
  | [], vs, ds, h, e => by cases e; exact h
  | o :: os, vs, ds, h, e => by
    obtain ⟨v, t, rfl, h1, h2⟩ := h
    unfold derefs at e
    cases e1 : deref δ o with
    | none => rw [e1] at e; cases e
    | some d =>
      cases e2 : derefs δ os with
      | none => rw [e1, e2] at e; cases e
      | some ds' =>
        rw [e1, e2] at e
        cases e
        exact ⟨v, t, rfl, deref_rep r h1 e1, derefs_rep r h2 e2⟩
def liftN {α : Type} (g : List D → Option α) (os : List Op) : M α := fun δ => match derefs δ os with
  | some ds => (match g ds with
    | some a => .ok a δ
    | none => .bad)
  | none => .bad
theorem liftN_ok {α β : Type} {K : PySem.W.Frag} {G : GP} {F : Hp} {σ : St} {W : WX} {VR : Hp → Hp → EnvS → α → β → Prop} {Q : β → Hp → Prop} {g : List D → Option α} {os : List Op} {δ : EnvS} (h : Sat K G F σ W (liftN g os δ) VR Q) :
    ∃ ds a, derefs δ os = some ds ∧ g ds = some a ∧ Sat K G F σ W (R.ok a δ) VR Q := by
  unfold liftN at h
  cases e1 : derefs δ os with
  | none => rw [e1] at h; exact h.elim
  | some x =>
    rw [e1] at h
    dsimp only at h
    cases e3 : g x with
    | none => rw [e3] at h; exact h.elim
    | some a => rw [e3] at h; exact ⟨x, a, rfl, e3, h⟩
/-- a built-in of values, told by a function on data -/
def CallG (K : PySem.W.Frag) (r : List V → Hp → VK → Prop) (g : List D → Option Op) : Prop :=
  ∀ (σ : St) (G : GP) (F H : Hp) (δ : EnvS) (ds : List D) (vs : List V) (o : Op) (Q : VK), Rel K G F H σ δ → RepBs K F H ds vs → g ds = some o →
    (∀ u F' H', Sb F F' → Rel K G F' H' σ δ → OpRep K σ G F' H' δ o u → Q u H') → r vs H Q
theorem CallG.or {K : PySem.W.Frag} {r r' : List V → Hp → VK → Prop} {g g' : List D → Option Op} (h : CallG K r g) (h' : CallG K r' g') : CallG K (fun xs H Q => r xs H Q ∨ r' xs H Q) (fun xs => (g xs).orElse fun _ => g' xs) := by
  intro σ G F H δ ds vs o Q rel rs e k
  have e : (g ds).orElse (fun _ => g' ds) = some o := e
  cases eg : g ds with
  | some z => rw [eg] at e; cases e; exact .inl (h σ G F H δ ds vs _ Q rel rs eg k)
  | none => rw [eg] at e; exact .inr (h' σ G F H δ ds vs _ Q rel rs e k)
def cCall (g : List D → Option Op) (f : M (List Op)) : M Op := M.bind f fun os => liftN g os
theorem backTo_plain {pos : Pos} {env : Env} : ∀ {es : List Expr}, es.all notStar = true → (backTo pos (starEach es env)).any (·.1) = false
  | [], _ => rfl
  | e :: es, h => by
    simp only [List.all_cons, Bool.and_eq_true] at h
    rw [starEach_cons h.1]
    have := backTo_plain (pos := pos) (env := env) h.2
    unfold backTo at this ⊢
    simp only [List.map_cons, List.any_cons, Bool.false_or]
    exact this
section
variable {X : Cx} {x : Str} {p pos : Pos} {e : Expr} {es : List Expr} {f : M (List Op)} {id T : String} {r : List V → Hp → VK → Prop} {g : List D → Option Op}
theorem de_callB (hc : CallR X (.builtin id) r) (hgc : CallG X.K r g) (hg : Gl X x) (hm : X.mg x = none) (hv : bootBuiltins x = some (.builtin id)) (ha : DO X (e :: es) f) (hn : x ≠ "__name__") (hdb : (x == ("__debug__" : Str)) = false)
    (hs : (e :: es).all notStar = true) : DE X (.Call (.Name x p) (e :: es) [] pos) (cCall g f) := by
  simp only [List.all_cons, Bool.and_eq_true] at hs
  refine ⟨fun W tk => PE.weak (pe_callB hc hg hm hv (ha.run W tk) hn hdb (starEach_cons hs.1) (backTo_plain hs.2)) fun pins s σ H Q I h => ?_⟩
  obtain ⟨G, F, δ, rr, h⟩ := h
  refine bindO rr .refl h fun os δ1 vs F1 H1 s1 r1 q1 h => ?_
  obtain ⟨ds, o, e1, e2, h⟩ := liftN_ok h
  exact hgc σ G F1 H1 δ1 ds vs o Q r1 (derefs_rep r1 q1 e1) e2 fun u F' H' s' r' q' => h u F' H' s' r' q'
theorem de_callTy (hc : CallR X (.type T) r) (hgc : CallG X.K r g) (hg : Gl X x) (hm : X.mg x = none) (hv : bootBuiltins x = some (.type T)) (ha : DO X (e :: es) f) (hn : x ≠ "__name__") (hdb : (x == ("__debug__" : Str)) = false)
    (hs : (e :: es).all notStar = true) : DE X (.Call (.Name x p) (e :: es) [] pos) (cCall g f) := by
  simp only [List.all_cons, Bool.and_eq_true] at hs
  refine ⟨fun W tk => PE.weak (pe_callTy hc hg hm hv (ha.run W tk) hn hdb (starEach_cons hs.1) (backTo_plain hs.2)) fun pins s σ H Q I h => ?_⟩
  obtain ⟨G, F, δ, rr, h⟩ := h
  refine bindO rr .refl h fun os δ1 vs F1 H1 s1 r1 q1 h => ?_
  obtain ⟨ds, o, e1, e2, h⟩ := liftN_ok h
  exact hgc σ G F1 H1 δ1 ds vs o Q r1 (derefs_rep r1 q1 e1) e2 fun u F' H' s' r' q' => h u F' H' s' r' q'
end
/-! ### a[b] -/
theorem atI_repL {K : PySem.W.Frag} {F : Hp} {ds : List D} {vs : List V} (h : RepL K F ds vs) {i : Int} {d : D} (e : atI ds i = some d) : ∃ v, atI vs i = some v ∧ Rep K F d v := by
  unfold atI at e ⊢
  rw [h.length]
  cases q : ixN ds.length i with
  | none => rw [q] at e; cases e
  | some j =>
    rw [q] at e
    exact h.get e
def gIxQ : D → D → Option Op := fun x y => match seqD x, y with
  | some xs, .int i => (atI xs i).map Op.val
  | _, _ => none
def gIxS : D → D → Option Op
  | .str z, .int i => if fits z.length then (atI z i).map fun c => Op.val (.str [c]) else none
  | _, _ => none
theorem og_ixQ {K : PySem.W.Frag} : OpG K (fun x y H Q => rIxL K x y H Q ∨ rIxT K x y H Q) gIxQ := by
  intro σ G F H δ x y v w o Q rel rx ry e k
  unfold gIxQ at e
  cases es : seqD x with
  | none => rw [es] at e; cases e
  | some xs =>
    rw [es] at e
    cases y with
    | int i =>
      have hw := ry.int; subst hw
      dsimp only at e
      cases ea : atI xs i with
      | none => rw [ea] at e; cases e
      | some d =>
        rw [ea] at e
        cases e
        obtain ⟨a, vs, rfl, h1, h2⟩ := rx.seq rel.subF es
        obtain ⟨u, h3, h4⟩ := atI_repL h2 ea
        rcases h1 with h1 | h1
        · exact .inl ⟨a, vs, i, u, rfl, rfl, h1, h3, k u F H .refl rel h4⟩
        · exact .inr ⟨a, vs, i, u, rfl, rfl, h1, h3, k u F H .refl rel h4⟩
    | _ => cases e
theorem og_ixS {K : PySem.W.Frag} : OpG K rIxS gIxS := by
  intro σ G F H δ x y v w o Q rel rx ry e k
  cases x with
  | str z =>
    cases y with
    | int i =>
      have hv := rx.str; have hw := ry.int; subst hv; subst hw
      have e : (if fits z.length then (atI z i).map fun c => Op.val (.str [c]) else none) = some o := e
      split at e
      · rename_i hf
        cases ea : atI z i with
        | none => rw [ea] at e; cases e
        | some c =>
          rw [ea] at e
          cases e
          refine ⟨_, i, c, rfl, rfl, by rw [str_len]; exact fits_le hf, by simpa using ea, ?_⟩
          exact k _ F H .refl rel (show Rep K F (.str [c]) _ from rep_str [c])
      · cases e
    | _ => cases e
  | _ => cases e
def notSlice : Expr → Bool
  | .Slice _ _ _ _ => false
  | _ => true
theorem plainIx_of {b : Expr} (h : notSlice b = true) : PlainIx b := by
  intro o i
  cases b <;> first | rfl | cases h
theorem de_ix {X : Cx} {a b : Expr} {fa fb : M Op} {r : R2} {g : D → D → Option Op} {pos : Pos} (hr : IxR X r) (hg : OpG X.K r g) (ha : DE X a fa) (hb : DE X b fb) (hs : notSlice b = true) : DE X (.Subscript a b pos) (cBin g fa fb) := by
  refine ⟨fun W tk => PE.weak (pe_ix hr (ha.run W tk) (hb.run W tk) (plainIx_of hs)) fun pins s σ H Q I h => ?_⟩
  obtain ⟨G, F, δ, rr, h⟩ := h
  refine bin2 rr .refl h fun o1 o2 δ2 v w F2 H2 s2 r2 q1 q2 h => ?_
  obtain ⟨x, y, o, e1, e2, e3, h⟩ := lift2_ok h
  exact hg σ G F2 H2 δ2 x y v w o Q r2 (deref_rep r2 q1 e1) (deref_rep r2 q2 e2) e3 fun u F' H' s' r' q' => h u F' H' s' r' q'
/-! ### a[lo:hi] -/
def cPart : Option (M Op) → M (Option Int)
  | none => mOk none
  | some f => M.bind f fun o => lift1 (fun d => match d with | .int i => some (some i) | _ => none) o
abbrev VP : Hp → Hp → EnvS → Option Int → Option Int → Prop := fun _ _ _ a b => a = b
def tP (K : PySem.W.Frag) (f : M (Option Int)) (W : WX) : TO := fun σ H Q => ∃ G F δ, Rel K G F H σ δ ∧ Sat K G F σ W (f δ) VP Q
structure DP (X : Cx) (e : Option Expr) (f : M (Option Int)) : Prop where
  run : ∀ W, Takes X W → PO X e (tP X.K f W)
theorem PO.weak {X : Cx} {e : Option Expr} {t t' : TO} (h : PO X e t) (k : ∀ pins s σ H Q, Inv X pins σ H s → t' σ H Q → t σ H Q) : PO X e t' := ⟨fun pins s σ H Q I q => h.run pins s σ H Q I (k pins s σ H Q I q)⟩
theorem dp_none {X : Cx} : DP X none (cPart none) := ⟨fun W tk => PO.weak po_none fun pins s σ H Q I h => by
  obtain ⟨G, F, δ, r, h⟩ := h
  exact h none F H .refl r rfl⟩
theorem dp_some {X : Cx} {e : Expr} {f : M Op} (he : DE X e f) : DP X (some e) (cPart (some f)) := by
  refine ⟨fun W tk => PO.weak (po_some (he.run W tk)) fun pins s σ H Q I h => ?_⟩
  obtain ⟨G, F, δ, r, h⟩ := h
  refine bindE r .refl h fun o δ1 v F1 H1 s1 r1 q1 h => ?_
  obtain ⟨x, a, e1, e2, h⟩ := lift1_ok h
  have rb := deref_rep r1 q1 e1
  cases x with
  | int i =>
    cases e2
    exact ⟨i, rb.int, h _ F1 H1 .refl r1 rfl⟩
  | _ => cases e2
theorem bindP {α β : Type} {K : PySem.W.Frag} {G G' : GP} {F H : Hp} {σ : St} {δ : EnvS} {W : WX} {fa : M (Option Int)} {g : Option Int → M α} {VR : Hp → Hp → EnvS → α → β → Prop} {Q : β → Hp → Prop} {P : Option Int → Hp → Prop}
    (r : Rel K G' F H σ δ) (sG : SbG G G') (h : Sat K G F σ W (M.bind fa g δ) VR Q)
    (k : ∀ b δ1 F1 H1, Sb F F1 → Rel K G' F1 H1 σ δ1 → Sat K G F1 σ W (g b δ1) VR Q → P b H1) : tP K fa W σ H P := by
  refine ⟨G', F, δ, r, ?_⟩
  unfold M.bind at h
  cases e : fa δ with
  | ok b δ1 =>
    rw [e] at h
    exact fun b' F1 H1 s r1 o => by have o : b = b' := o; subst o; exact k b δ1 F1 H1 s r1 (h.up s)
  | ex x δ1 => rw [e] at h; exact fun F' H' cls d s' r x => h F' H' cls d s' (r.lessG sG) x
  | bad => rw [e] at h; exact h.elim
def cut {α : Type} (xs : List α) (lo hi : Option Int) : List α := (xs.drop (HT.sIx xs.length 0 lo)).take (HT.sIx xs.length xs.length hi - HT.sIx xs.length 0 lo)
theorem RepL.cut {K : PySem.W.Frag} {F : Hp} {ds : List D} {vs : List V} (h : RepL K F ds vs) (lo hi : Option Int) : RepL K F (Ev.cut ds lo hi) (cutV vs lo hi) := by
  unfold Ev.cut cutV
  rw [h.length]
  exact (h.drop _).take _
def gSl (lo hi : Option Int) : D → Option Op
  | .lst xs => some (.fresh (.lst (cut xs lo hi)))
  | .ext xs => some (.fresh (.lst (cut xs lo hi)))
  | .tup xs => some (.val (.tup (cut xs lo hi)))
  | .str s => if fits s.length then some (.val (.str (cut s lo hi))) else none
  | _ => none
theorem cut_whole {α : Type} {xs : List α} {lo hi : Option Int} (h : HT.sIx xs.length 0 lo = 0 ∧ HT.sIx xs.length xs.length hi = xs.length) : cut xs lo hi = xs := by
  unfold cut
  rw [h.1, h.2]
  simp
def cSl (f : M Op) (lo hi : M (Option Int)) : M Op := M.bind f fun o => M.bind lo fun l => M.bind hi fun u => lift1 (gSl l u) o
theorem de_slice {X : Cx} {e : Expr} {lo hi : Option Expr} {f : M Op} {fl fh : M (Option Int)} {pos p2 : Pos} (he : DE X e f) (hl : DP X lo fl) (hu : DP X hi fh) : DE X (.Subscript e (.Slice lo hi none p2) pos) (cSl f fl fh) := by
  refine ⟨fun W tk => PE.weak (pe_slice (sl_list.or (sl_tupA.or sl_str)) (he.run W tk) (hl.run W tk) (hu.run W tk)) fun pins s σ H Q I h => ?_⟩
  obtain ⟨G, F, δ, r, h⟩ := h
  refine bindE r .refl h fun o δ1 v F1 H1 s1 r1 q1 h => ?_
  refine bindP (r1.pend q1) (pend_sub q1) h fun l δ2 F2 H2 s2 r2 h => ?_
  refine bindP r2 (pend_sub q1) h fun u δ3 F3 H3 s3 r3 h => ?_
  obtain ⟨x, op, e1, e2, h⟩ := lift1_ok h
  have q3 := pend_keep q1 (s2.trans s3) r3
  have r3' := r3.lessG (pend_sub q1)
  have rb := deref_rep r3' q3 e1
  cases x with
  | lst xs =>
    cases e2
    obtain ⟨a, vs, rfl, h1, h2⟩ := rb.lst r3'.subF
    exact .inl ⟨a, vs, rfl, .of h1, new_lst r3' (h2.cut l u) fun w F' H' s' r' q' => h w F' H' s' r' q'⟩
  | ext xs =>
    cases e2
    obtain ⟨a, vs, rfl, h1, h2⟩ := rb.ext
    exact .inl ⟨a, vs, rfl, SqL.sub r3'.subF h1, new_lst r3' (h2.cut l u) fun w F' H' s' r' q' => h w F' H' s' r' q'⟩
  | tup xs =>
    cases e2
    obtain ⟨a, vs, rfl, h1, h2⟩ := rb.tupF
    refine .inr (.inl ⟨a, vs, rfl, .of (r3'.subF _ _ h1), fun hw => ?_, fun _ => new_tup r3' (h2.cut l u) fun w F' H' s' r' q' => h w F' H' s' r' q'⟩)
    refine h _ F3 H3 .refl r3' ?_
    show Rep X.K F3 (.tup (cut xs l u)) (.ref a)
    rw [h2.length] at hw
    rw [cut_whole hw]
    unfold Rep
    exact ⟨a, vs, rfl, h1, h2⟩
  | str z =>
    have hv := rb.str; subst hv
    have e2 : (if fits z.length then some (Op.val (.str (cut z l u))) else none) = some op := e2
    split at e2
    · rename_i hf
      cases e2
      refine .inr (.inr ⟨_, rfl, by rw [str_len]; exact fits_le hf, ?_⟩)
      have ec : cutS ⟨z.toArray⟩ l u = ⟨(cut z l u).toArray⟩ := by
        unfold cutS cut
        rw [str_len]
      rw [ec]
      exact h _ F3 H3 .refl r3' (show Rep X.K F3 (.str _) _ from rep_str _)
    · cases e2
  | _ => cases e2
end Ev
set_option Elab.async false
set_option linter.all false
set_option autoImplicit false
set_option maxRecDepth 100000
set_option maxHeartbeats 4000000
namespace Ev
open PySem PySem.Spec L2
open PyProof.Rows hiding St
section
variable {K : PySem.W.Frag} {F : Hp} {G : GP} {H : Hp}
theorem RepBs.one {d : D} {vs : List V} (h : RepBs K F H [d] vs) : ∃ v, vs = [v] ∧ RepB K F H d v := by
  obtain ⟨v, r, rfl, h1, h2⟩ := h
  have h2 : r = [] := h2
  subst h2; exact ⟨v, rfl, h1⟩
theorem RepBs.two {d e : D} {vs : List V} (h : RepBs K F H [d, e] vs) : ∃ v w, vs = [v, w] ∧ RepB K F H d v ∧ RepB K F H e w := by
  obtain ⟨v, r, rfl, h1, h2⟩ := h
  obtain ⟨w, rfl, h3⟩ := RepBs.one h2
  exact ⟨v, w, rfl, h1, h3⟩
end
/-! ### len -/
def gLen : List D → Option Op
  | [.str s] => if fits s.length then some (.val (.int (s.length : Nat))) else none
  | [.lst xs] => some (.val (.int (xs.length : Nat)))
  | [.ext xs] => some (.val (.int (xs.length : Nat)))
  | [.tup xs] => some (.val (.int (xs.length : Nat)))
  | _ => none
theorem lenV_of {K : PySem.W.Frag} {F H : Hp} {d : D} {v : V} {n : Nat} (s : Sb F H) (h : RepB K F H d v) (e : gLen [d] = some (.val (.int (n : Nat)))) : LenV K v H n := by
  cases d with
  | str x =>
    have hv := h.str; subst hv
    have e : (if fits x.length then some (Op.val (.int (x.length : Nat))) else none) = some (.val (.int (n : Nat))) := e
    split at e
    · rename_i hf
      have : (x.length : Int) = (n : Int) := by simpa using e
      refine ⟨by rw [str_len]; exact fits_le hf, ?_⟩
      rw [str_len]; omega
    · cases e
  | lst xs =>
    obtain ⟨a, vs, rfl, h1, h2⟩ := h.lst s
    have e : some (Op.val (.int (xs.length : Nat))) = some (.val (.int (n : Nat))) := e
    have : (xs.length : Int) = (n : Int) := by simpa using e
    exact .inl ⟨vs, .of h1, by rw [h2.length]; omega⟩
  | ext xs =>
    obtain ⟨a, vs, rfl, h1, h2⟩ := h.ext
    have e : some (Op.val (.int (xs.length : Nat))) = some (.val (.int (n : Nat))) := e
    have : (xs.length : Int) = (n : Int) := by simpa using e
    exact .inl ⟨vs, SqL.sub s h1, by rw [h2.length]; omega⟩
  | tup xs =>
    obtain ⟨a, vs, rfl, h1, h2⟩ := h.tup
    have e : some (Op.val (.int (xs.length : Nat))) = some (.val (.int (n : Nat))) := e
    have : (xs.length : Int) = (n : Int) := by simpa using e
    exact .inr ⟨vs, SqT.sub s h1, by rw [h2.length]; omega⟩
  | _ => cases e
theorem gLen_int {ds : List D} {o : Op} (e : gLen ds = some o) : ∃ d n, ds = [d] ∧ o = .val (.int (n : Nat)) := by
  unfold gLen at e
  split at e
  · rename_i s
    split at e
    · cases e; exact ⟨_, _, rfl, rfl⟩
    · cases e
  all_goals first | (cases e; exact ⟨_, _, rfl, rfl⟩) | cases e
theorem cg_len {K : PySem.W.Frag} : CallG K (fun xs H Q => ∃ x n, xs = [x] ∧ LenV K x H n ∧ Q (.int n) H) gLen := by
  intro σ G F H δ ds vs o Q rel rs e k
  obtain ⟨d, n, rfl, rfl⟩ := gLen_int e
  obtain ⟨v, rfl, h1⟩ := rs.one
  exact ⟨v, n, rfl, lenV_of rel.subF h1 e, k _ F H .refl rel (show Rep K F (.int _) _ from rep_int _)⟩
/-! ### isinstance of built-in types -/
def tyName : D → Option String
  | .non => some "NoneType" | .bl _ => some "bool" | .int _ => some "int" | .str _ => some "str"
  | .lst _ => some "list" | .ext _ => some "list" | .tup _ => some "tuple" | .dic _ _ _ => some "dict"
  | _ => none
theorem tyX_of {K : PySem.W.Frag} {F H : Hp} {d : D} {v : V} {n : String} (s : Sb F H) (h : RepB K F H d v) (e : tyName d = some n) : TyX K H v (.type n) := by
  cases d with
  | non => have hv := h.non; subst hv; cases e; exact .base .non
  | bl b => have hv := h.bl; subst hv; cases e; exact .base (.bl b)
  | int b => have hv := h.int; subst hv; cases e; exact .base (.int b)
  | str b => have hv := h.str; subst hv; cases e; exact .base (.str _)
  | lst xs => obtain ⟨a, vs, rfl, h1, _⟩ := h.lst s; cases e; exact .base (.lst h1)
  | ext xs =>
    obtain ⟨a, vs, rfl, h1, _⟩ := h.ext; cases e
    rcases SqL.sub s h1 with (q | ⟨o, q⟩) | ⟨o, its, m, h2, h3, _⟩
    · exact .base (.lst q)
    · exact .base (.frz q)
    · exact .kList h2 h3
  | tup xs =>
    obtain ⟨a, vs, rfl, h1, _⟩ := h.tup; cases e
    rcases SqT.sub s h1 with (q | ⟨o, q⟩) | ⟨o, its, m, h2, h3, _⟩
    · exact .base (.tup q)
    · exact .fTuple q
    · exact .kTuple h2 h3
  | dic t ks xs =>
    obtain ⟨a, vs, o, rfl, h1, h2, _⟩ := RepB.dic s h
    cases t with
    | true =>
      cases e
      have h2 : ((keysT ks).map fun l => HO.dT (l.zip vs)) = some o := h2
      cases hk : keysT ks with
      | none => rw [hk] at h2; cases h2
      | some l => rw [hk] at h2; cases h2; exact .base (.dT h1)
    | false =>
      cases e
      have h2 : ((keysD ks).map fun l => HO.dK (l.zip vs)) = some o := h2
      cases hk : keysD ks with
      | none => rw [hk] at h2; cases h2
      | some l => rw [hk] at h2; cases h2; exact .base (.dK h1)
  | _ => cases e
def gIsi : List D → Option Op
  | [x, .ty c] => match tyName x with
    | some n => (kitB n c).map fun b => Op.val (.bl b)
    | none => none
  | _ => none
theorem cg_isi {K : PySem.W.Frag} : CallG K (rIsi K) gIsi := by
  intro σ G F H δ ds vs o Q rel rs e k
  unfold gIsi at e
  split at e
  · rename_i x c
    obtain ⟨v, w, rfl, h1, h2⟩ := rs.two
    have hw := h2.ty; subst hw
    cases et : tyName x with
    | none => rw [et] at e; cases e
    | some n =>
      rw [et] at e
      dsimp only at e
      cases ek : kitB n c with
      | none => rw [ek] at e; cases e
      | some b =>
        rw [ek] at e
        cases e
        exact ⟨v, .ty c, .type n, .type c, b, rfl, .ty c, tyX_of rel.subF h1 et, kit_ty ek, k _ F H .refl rel (show Rep K F (.bl _) _ from rep_bl _)⟩
  · cases e
/-! ### int, str, abs, min, max, divmod -/
def gIntC : List D → Option Op
  | [.int i] => some (.val (.int i))
  | [.bl b] => some (.val (.int (if b then 1 else 0)))
  | [.str s] => if decide (s.length ≤ 640) then (PySem.intText? ⟨s.toArray⟩).map fun n => Op.val (.int n) else none
  | _ => none
theorem cg_intC {K : PySem.W.Frag} : CallG K (fun xs H Q => ((∃ i, xs = [.int i] ∧ Q (.int i) H) ∨ ∃ k, xs = [.bl k] ∧ Q (.int (if k then 1 else 0)) H) ∨ (∃ a n, xs = [.str a] ∧ PySem.intText? a = some n ∧ a.length ≤ 640 ∧ Q (.int n) H)) gIntC := by
  intro σ G F H δ ds vs o Q rel rs e k
  unfold gIntC at e
  split at e
  · obtain ⟨v, rfl, h1⟩ := rs.one
    have hv := h1.int; subst hv
    cases e
    exact .inl (.inl ⟨_, rfl, k _ F H .refl rel (show Rep K F (.int _) _ from rep_int _)⟩)
  · obtain ⟨v, rfl, h1⟩ := rs.one
    have hv := h1.bl; subst hv
    cases e
    exact .inl (.inr ⟨_, rfl, k _ F H .refl rel (show Rep K F (.int _) _ from rep_int _)⟩)
  · obtain ⟨v, rfl, h1⟩ := rs.one
    have hv := h1.str; subst hv
    split at e
    · rename_i s hs
      cases en : PySem.intText? ⟨s.toArray⟩ with
      | none => rw [en] at e; cases e
      | some n =>
        rw [en] at e
        cases e
        exact .inr ⟨_, n, rfl, en, by rw [str_len]; exact of_decide_eq_true hs, k _ F H .refl rel (show Rep K F (.int _) _ from rep_int _)⟩
    · cases e
  · cases e
def gStrC : List D → Option Op
  | [.int i] => if decide (i.natAbs.log2 < 1920) then some (.val (.str (Str.ofString (toString i)).cps.toList)) else none
  | _ => none
theorem cg_strC {K : PySem.W.Frag} : CallG K (fun xs H Q => ∃ i, xs = [.int i] ∧ i.natAbs.log2 < 1920 ∧ Q (.str (toString i)) H) gStrC := by
  intro σ G F H δ ds vs o Q rel rs e k
  unfold gStrC at e
  split at e
  · obtain ⟨v, rfl, h1⟩ := rs.one
    have hv := h1.int; subst hv
    split at e
    · rename_i hs
      cases e
      exact ⟨_, rfl, of_decide_eq_true hs, k _ F H .refl rel (by show Rep K F (.str _) _; unfold Rep; rfl)⟩
    · cases e
  · cases e
def gAbs : List D → Option Op
  | [.int i] => some (.val (.int (if i < 0 then -i else i)))
  | _ => none
theorem cg_abs {K : PySem.W.Frag} : CallG K (fun xs H Q => ∃ i, xs = [.int i] ∧ Q (.int (if i < 0 then -i else i)) H) gAbs := by
  intro σ G F H δ ds vs o Q rel rs e k
  unfold gAbs at e
  split at e
  · obtain ⟨v, rfl, h1⟩ := rs.one
    have hv := h1.int; subst hv
    cases e
    exact ⟨_, rfl, k _ F H .refl rel (show Rep K F (.int _) _ from rep_int _)⟩
  · cases e
def gII (f : Int → Int → Int) : List D → Option Op
  | [.int i, .int j] => some (.val (.int (f i j)))
  | _ => none
theorem cg_II {K : PySem.W.Frag} {f : Int → Int → Int} : CallG K (fun xs H Q => ∃ i j, xs = [.int i, .int j] ∧ Q (.int (f i j)) H) (gII f) := by
  intro σ G F H δ ds vs o Q rel rs e k
  unfold gII at e
  split at e
  · obtain ⟨v, w, rfl, h1, h2⟩ := rs.two
    have hv := h1.int; subst hv
    have hw := h2.int; subst hw
    cases e
    exact ⟨_, _, rfl, k _ F H .refl rel (show Rep K F (.int _) _ from rep_int _)⟩
  · cases e
def gMax2 : List D → Option Op := gII fun i j => if j > i then j else i
def gMin2 : List D → Option Op := gII fun i j => if j < i then j else i
def gDivmod : List D → Option Op
  | [.int i, .int j] => if divOk i j then some (.val (.tup [.int (i / j), .int (i % j)])) else none
  | _ => none
theorem cg_divmod {K : PySem.W.Frag} : CallG K (fun xs H Q => ∃ i j, xs = [.int i, .int j] ∧ CDiv i j ∧ ∀ p, H p = none → Q (.ref p) (upd H p (.tup [.int (i / j), .int (i % j)]))) gDivmod := by
  intro σ G F H δ ds vs o Q rel rs e k
  unfold gDivmod at e
  split at e
  · obtain ⟨v, w, rfl, h1, h2⟩ := rs.two
    have hv := h1.int; subst hv
    have hw := h2.int; subst hw
    split at e
    · rename_i hd
      cases e
      exact ⟨_, _, rfl, divOk_of hd, new_tup rel (.cons (rep_int _) (.one (rep_int _))) k⟩
    · cases e
  · cases e
/-! ### rows of ints, of bools, of texts -/
def intsD : List D → Option (List Int)
  | [] => some []
  | .int i :: r => (intsD r).map (i :: ·)
  | _ => none
def blsD : List D → Option (List Bool)
  | [] => some []
  | .bl i :: r => (blsD r).map (i :: ·)
  | _ => none
def strsD : List D → Option (List (List Nat))
  | [] => some []
  | .str i :: r => (strsD r).map (i :: ·)
  | _ => none
theorem intsD_rep {K : PySem.W.Frag} {F : Hp} : ∀ {ds : List D} {vs : List V} {ns : List Int}, RepL K F ds vs → intsD ds = some ns → vs = ns.map V.int
  | [], vs, ns, h, e => by cases e; unfold RepL at h; exact h
  | d :: ds, vs, ns, h, e => by
    unfold RepL at h
    obtain ⟨v, r, rfl, h1, h2⟩ := h
    cases d with
    | int i =>
      unfold Rep at h1; subst h1
      unfold intsD at e
      cases er : intsD ds with
      | none => rw [er] at e; cases e
      | some ms => rw [er] at e; cases e; rw [intsD_rep h2 er]; rfl
    | _ => cases e
theorem blsD_rep {K : PySem.W.Frag} {F : Hp} : ∀ {ds : List D} {vs : List V} {ns : List Bool}, RepL K F ds vs → blsD ds = some ns → vs = ns.map V.bl
  | [], vs, ns, h, e => by cases e; unfold RepL at h; exact h
  | d :: ds, vs, ns, h, e => by
    unfold RepL at h
    obtain ⟨v, r, rfl, h1, h2⟩ := h
    cases d with
    | bl i =>
      unfold Rep at h1; subst h1
      unfold blsD at e
      cases er : blsD ds with
      | none => rw [er] at e; cases e
      | some ms => rw [er] at e; cases e; rw [blsD_rep h2 er]; rfl
    | _ => cases e
theorem strsD_rep {K : PySem.W.Frag} {F : Hp} : ∀ {ds : List D} {vs : List V} {ns : List (List Nat)}, RepL K F ds vs → strsD ds = some ns → vs = (ns.map fun s => (⟨s.toArray⟩ : Str)).map V.str
  | [], vs, ns, h, e => by cases e; unfold RepL at h; exact h
  | d :: ds, vs, ns, h, e => by
    unfold RepL at h
    obtain ⟨v, r, rfl, h1, h2⟩ := h
    cases d with
    | str i =>
      unfold Rep at h1; subst h1
      unfold strsD at e
      cases er : strsD ds with
      | none => rw [er] at e; cases e
      | some ms => rw [er] at e; cases e; rw [strsD_rep h2 er]; rfl
    | _ => cases e
/-- a list (its own or from outside) -/
def listD : D → Option (List D)
  | .lst xs => some xs
  | .ext xs => some xs
  | _ => none
theorem RepB.list {K : PySem.W.Frag} {F H : Hp} {d : D} {v : V} {xs : List D} (s : Sb F H) (h : RepB K F H d v) (e : listD d = some xs) : ∃ a vs, v = .ref a ∧ SqL K H a vs ∧ RepL K F xs vs := by
  cases d with
  | lst ys => cases e; obtain ⟨a, vs, e, h1, h2⟩ := h.lst s; exact ⟨a, vs, e, .of h1, h2⟩
  | ext ys => cases e; obtain ⟨a, vs, e, h1, h2⟩ := h.ext; exact ⟨a, vs, e, SqL.sub s h1, h2⟩
  | _ => cases e
def gSum : List D → Option Op
  | [d] => match seqD d with
    | some xs => (intsD xs).map fun ns => Op.val (.int ns.sum)
    | none => none
  | _ => none
/-- the sum of a list's ints, or a tuple's -/
def rSumQ (K : PySem.W.Frag) : List V → Hp → VK → Prop := fun vs H Q => ∃ (a : Addr) (ns : List Int), vs = [V.ref a] ∧ (SqL K H a (ns.map V.int) ∨ SqT K H a (ns.map V.int)) ∧ Q (.int ns.sum) H
theorem cg_sum {K : PySem.W.Frag} : CallG K (rSumQ K) gSum := by
  intro σ G F H δ ds vs o Q rel rs e k
  unfold gSum at e
  split at e
  · rename_i d
    obtain ⟨v, rfl, h1⟩ := rs.one
    cases el : seqD d with
    | none => rw [el] at e; cases e
    | some xs =>
      rw [el] at e; dsimp only at e
      cases en : intsD xs with
      | none => rw [en] at e; cases e
      | some ns =>
        rw [en] at e; cases e
        obtain ⟨a, us, rfl, h2, h3⟩ := h1.seq rel.subF el
        have := intsD_rep h3 en; subst this
        exact ⟨a, ns, rfl, h2, k _ F H .refl rel (show Rep K F (.int _) _ from rep_int _)⟩
  · cases e
def gBls (f : List Bool → Bool) : List D → Option Op
  | [d] => match listD d with
    | some xs => (blsD xs).map fun ns => Op.val (.bl (f ns))
    | none => none
  | _ => none
theorem cg_bls {K : PySem.W.Frag} {f : List Bool → Bool} : CallG K (fun vs H Q => ∃ (a : Addr) (bs : List Bool), vs = [V.ref a] ∧ SqL K H a (bs.map V.bl) ∧ Q (.bl (f bs)) H) (gBls f) := by
  intro σ G F H δ ds vs o Q rel rs e k
  unfold gBls at e
  split at e
  · rename_i d
    obtain ⟨v, rfl, h1⟩ := rs.one
    cases el : listD d with
    | none => rw [el] at e; cases e
    | some xs =>
      rw [el] at e; dsimp only at e
      cases en : blsD xs with
      | none => rw [en] at e; cases e
      | some ns =>
        rw [en] at e; cases e
        obtain ⟨a, us, rfl, h2, h3⟩ := h1.list rel.subF el
        have := blsD_rep h3 en; subst this
        exact ⟨a, ns, rfl, h2, k _ F H .refl rel (show Rep K F (.bl _) _ from rep_bl _)⟩
  · cases e
def gAny : List D → Option Op := gBls fun bs => bs.any id
def gAll : List D → Option Op := gBls fun bs => bs.all id
def maxL : List Int → Option Int
  | [] => none
  | [a] => some a
  | a :: b :: r => (maxL (b :: r)).map fun m => if m ≤ a then a else m
def minL : List Int → Option Int
  | [] => none
  | [a] => some a
  | a :: b :: r => (minL (b :: r)).map fun m => if a ≤ m then a else m
theorem maxL_spec : ∀ {ns : List Int} {m : Int}, maxL ns = some m → m ∈ ns ∧ ∀ y ∈ ns, y ≤ m
  | [], m, e => by cases e
  | [a], m, e => by cases e; simp
  | a :: b :: r, m, e => by
    unfold maxL at e
    cases er : maxL (b :: r) with
    | none => rw [er] at e; cases e
    | some k =>
      rw [er] at e
      obtain ⟨h1, h2⟩ := maxL_spec er
      have e : (if k ≤ a then a else k) = m := by simpa using e
      split at e
      · subst e
        refine ⟨List.mem_cons_self, fun y hy => ?_⟩
        rcases List.mem_cons.mp hy with rfl | hy
        · exact Int.le_refl _
        · exact Int.le_trans (h2 y hy) (by assumption)
      · subst e
        refine ⟨List.mem_cons_of_mem _ h1, fun y hy => ?_⟩
        rcases List.mem_cons.mp hy with rfl | hy
        · omega
        · exact h2 y hy
theorem minL_spec : ∀ {ns : List Int} {m : Int}, minL ns = some m → m ∈ ns ∧ ∀ y ∈ ns, m ≤ y
  | [], m, e => by cases e
  | [a], m, e => by cases e; simp
  | a :: b :: r, m, e => by
    unfold minL at e
    cases er : minL (b :: r) with
    | none => rw [er] at e; cases e
    | some k =>
      rw [er] at e
      obtain ⟨h1, h2⟩ := minL_spec er
      have e : (if a ≤ k then a else k) = m := by simpa using e
      split at e
      · subst e
        refine ⟨List.mem_cons_self, fun y hy => ?_⟩
        rcases List.mem_cons.mp hy with rfl | hy
        · exact Int.le_refl _
        · exact Int.le_trans (by assumption) (h2 y hy)
      · subst e
        refine ⟨List.mem_cons_of_mem _ h1, fun y hy => ?_⟩
        rcases List.mem_cons.mp hy with rfl | hy
        · omega
        · exact h2 y hy
def gExt (f : List Int → Option Int) : List D → Option Op
  | [d] => match listD d with
    | some xs => (intsD xs).bind fun ns => (f ns).map fun m => Op.val (.int m)
    | none => none
  | _ => none
theorem cg_max {K : PySem.W.Frag} : CallG K (rMax K) (gExt maxL) := by
  intro σ G F H δ ds vs o Q rel rs e k
  unfold gExt at e
  split at e
  · rename_i d
    obtain ⟨v, rfl, h1⟩ := rs.one
    cases el : listD d with
    | none => rw [el] at e; cases e
    | some xs =>
      rw [el] at e; dsimp only at e
      cases en : intsD xs with
      | none => rw [en] at e; cases e
      | some ns =>
        rw [en] at e
        cases em : maxL ns with
        | none => simp [em] at e
        | some m =>
          have e : Op.val (.int m) = o := by simpa [em] using e
          subst e
          obtain ⟨a, us, rfl, h2, h3⟩ := h1.list rel.subF el
          have := intsD_rep h3 en; subst this
          obtain ⟨m1, m2⟩ := maxL_spec em
          refine ⟨a, ns, rfl, h2, List.length_pos_of_mem m1, fun q q1 q2 => ?_⟩
          have : q = m := Int.le_antisymm (m2 q q1) (q2 m m1)
          subst this
          exact k _ F H .refl rel (show Rep K F (.int _) _ from rep_int _)
  · cases e
theorem cg_min {K : PySem.W.Frag} : CallG K (rMin K) (gExt minL) := by
  intro σ G F H δ ds vs o Q rel rs e k
  unfold gExt at e
  split at e
  · rename_i d
    obtain ⟨v, rfl, h1⟩ := rs.one
    cases el : listD d with
    | none => rw [el] at e; cases e
    | some xs =>
      rw [el] at e; dsimp only at e
      cases en : intsD xs with
      | none => rw [en] at e; cases e
      | some ns =>
        rw [en] at e
        cases em : minL ns with
        | none => simp [em] at e
        | some m =>
          have e : Op.val (.int m) = o := by simpa [em] using e
          subst e
          obtain ⟨a, us, rfl, h2, h3⟩ := h1.list rel.subF el
          have := intsD_rep h3 en; subst this
          obtain ⟨m1, m2⟩ := minL_spec em
          refine ⟨a, ns, rfl, h2, List.length_pos_of_mem m1, fun q q1 q2 => ?_⟩
          have : q = m := Int.le_antisymm (q2 m m1) (m2 q q1)
          subst this
          exact k _ F H .refl rel (show Rep K F (.int _) _ from rep_int _)
  · cases e
/-! ### list(x), tuple(x) -/
def gListC : List D → Option Op
  | [d] => (seqD d).map fun xs => Op.fresh (.lst xs)
  | _ => none
theorem cg_listC {K : PySem.W.Frag} : CallG K (fun xs H Q => ∃ p ys, xs = [.ref p] ∧ (SqL K H p ys ∨ SqT K H p ys) ∧ ∀ l, H l = none → Q (.ref l) (upd H l (.lst ys))) gListC := by
  intro σ G F H δ ds vs o Q rel rs e k
  unfold gListC at e
  split at e
  · rename_i d
    obtain ⟨v, rfl, h1⟩ := rs.one
    cases el : seqD d with
    | none => rw [el] at e; cases e
    | some xs =>
      rw [el] at e; cases e
      obtain ⟨a, us, rfl, h2, h3⟩ := h1.seq rel.subF el
      exact ⟨a, us, rfl, h2, new_lst rel h3 k⟩
  · cases e
def gTupC : List D → Option Op
  | [d] => (seqD d).map fun xs => Op.val (.tup xs)
  | _ => none
theorem cg_tupC {K : PySem.W.Frag} : CallG K (fun xs H Q => ∃ p ys, xs = [.ref p] ∧ ((SqL K H p ys ∧ ∀ l, H l = none → Q (.ref l) (upd H l (.tup ys))) ∨ (SqT K H p ys ∧ Q (.ref p) H))) gTupC := by
  intro σ G F H δ ds vs o Q rel rs e k
  unfold gTupC at e
  split at e
  · rename_i d
    obtain ⟨v, rfl, h1⟩ := rs.one
    cases el : seqD d with
    | none => rw [el] at e; cases e
    | some xs =>
      rw [el] at e; cases e
      cases d with
      | tup ys =>
        cases el
        obtain ⟨a, us, rfl, h2, h3⟩ := h1.tupF
        exact ⟨a, us, rfl, .inr ⟨.of (rel.subF _ _ h2), k _ F H .refl rel (by show Rep K F (.tup _) _; unfold Rep; exact ⟨a, us, rfl, h2, h3⟩)⟩⟩
      | lst ys =>
        cases el
        obtain ⟨a, us, rfl, h2, h3⟩ := h1.lst rel.subF
        exact ⟨a, us, rfl, .inl ⟨.of h2, new_tup rel h3 k⟩⟩
      | ext ys =>
        cases el
        obtain ⟨a, us, rfl, h2, h3⟩ := h1.ext
        exact ⟨a, us, rfl, .inl ⟨SqL.sub rel.subF h2, new_tup rel h3 k⟩⟩
      | _ => cases el
  · cases e
/-! ### methods of built-in types -/
def plainRecv : Expr → Bool
  | .Call (.Name _ _) [] [] _ => false
  | _ => true
theorem plainRecv_ok {o : Expr} {attr : Str} {env : Env} {whole : Sem Value} (h : plainRecv o = true) : attributeBase o attr env whole = whole := by
  unfold attributeBase
  split
  · cases h
  · rfl
def MtG (K : PySem.W.Frag) (r : V → List V → Hp → VK → Prop) (g : D → List D → Option Op) : Prop :=
  ∀ (σ : St) (G : GP) (F H : Hp) (δ : EnvS) (x : D) (ds : List D) (v : V) (vs : List V) (o : Op) (Q : VK), Rel K G F H σ δ → RepB K F H x v → RepBs K F H ds vs → g x ds = some o →
    (∀ u F' H', Sb F F' → Rel K G F' H' σ δ → OpRep K σ G F' H' δ o u → Q u H') → r v vs H Q
/-- the receiver's type by the datum -/
def tyM : D → Option String
  | .str _ => some "str" | .int _ => some "int" | .lst _ => some "list" | .ext _ => some "list"
  | .dic _ _ _ => some "dict"
  | _ => none
theorem dictO_kind {t : Bool} {ks : List D} {vs : List V} {o : HO} (h : dictO t ks vs = some o) : (∃ kvs, o = .dK kvs) ∨ ∃ kvs, o = .dT kvs := by
  unfold dictO at h
  split at h
  · cases e : keysT ks with
    | none => rw [e] at h; cases h
    | some l => rw [e] at h; cases h; exact .inr ⟨_, rfl⟩
  · cases e : keysD ks with
    | none => rw [e] at h; cases h
    | some l => rw [e] at h; cases h; exact .inl ⟨_, rfl⟩
theorem tyV_of {K : PySem.W.Frag} {F H : Hp} {d : D} {v : V} {T : String} (s : Sb F H) (h : RepB K F H d v) (e : tyM d = some T) : tyV K T v H := by
  cases d with
  | str x => have hv := h.str; subst hv; cases e; rfl
  | int x => have hv := h.int; subst hv; cases e; rfl
  | lst xs => obtain ⟨a, vs, rfl, h1, _⟩ := h.lst s; cases e; exact .inl ⟨rfl, vs, .of h1⟩
  | ext xs => obtain ⟨a, vs, rfl, h1, _⟩ := h.ext; cases e; exact .inl ⟨rfl, vs, SqL.sub s h1⟩
  | dic t ks xs =>
    obtain ⟨a, vs, o, rfl, h1, h2, _⟩ := h.dic s; cases e
    rcases dictO_kind h2 with ⟨kvs, rfl⟩ | ⟨kvs, rfl⟩
    · exact .inr (.inr (.inl ⟨rfl, .inl ⟨kvs, h1⟩⟩))
    · exact .inr (.inr (.inl ⟨rfl, .inr ⟨kvs, h1⟩⟩))
  | _ => cases e
/-- o.m(args), o of the type T -/
def cMeth (T : String) (g : D → List D → Option Op) (f : M Op) (fa : M (List Op)) : M Op := M.bind f fun o => M.bind (lift1 (fun d => if tyM d = some T then some () else none) o) fun _ => M.bind fa fun os => liftN (fun l => match l with | x :: ds => g x ds | [] => none) (o :: os)
theorem few_ok {X : Cx} {es : List Expr} {cpos : Pos} (h : es.all notStar = true) (hl : es.length < 30) : ((backTo cpos (starEach es X.env)).all (fun x => !x.1) && (backToKw cpos (keywordEach [] X.env)).all (fun x => x.1.isSome)
      && decide (es.length + ([] : List Keyword).length + (if ([] : List Keyword).isEmpty then 0 else 1) < 30)) = true := by
  have h1 : (backTo cpos (starEach es X.env)).all (fun x => !x.1) = true := by
    have := backTo_plain (pos := cpos) (env := X.env) h
    rw [List.all_eq_true]
    intro x hx
    have := List.any_eq_false.mp this x hx
    simpa using this
  rw [h1]
  have h2 : decide (es.length + ([] : List Keyword).length + (if ([] : List Keyword).isEmpty then 0 else 1) < 30) = true := decide_eq_true (by simpa using hl)
  rw [h2]
  rfl
theorem lift1u_ok {α β : Type} {K : PySem.W.Frag} {G : GP} {F : Hp} {σ : St} {W : WX} {VR : Hp → Hp → EnvS → α → β → Prop} {Q : β → Hp → Prop} {o : Op} {δ : EnvS} {T : String} {g : Unit → M α}
    (h : Sat K G F σ W (M.bind (lift1 (fun d => if tyM d = some T then some () else none) o) g δ) VR Q) : ∃ x, deref δ o = some x ∧ tyM x = some T ∧ Sat K G F σ W (g () δ) VR Q := by
  unfold M.bind lift1 at h
  cases e1 : deref δ o with
  | none => rw [e1] at h; exact h.elim
  | some x =>
    rw [e1] at h
    dsimp only at h
    by_cases c : tyM x = some T
    · rw [if_pos c] at h; exact ⟨x, rfl, c, h⟩
    · rw [if_neg c] at h; exact h.elim
section
variable {X : Cx} {o e : Expr} {es : List Expr} {f : M Op} {fa : M (List Op)} {name : Str} {apos cpos : Pos} {T id : String} {r : V → List V → Hp → VK → Prop} {g : D → List D → Option Op}
theorem de_meth (pa : PlainAttrs T) (slot : PySem.Slot T name id) (hty : typeOf (.builtin id) = pure (.type "method_descriptor")) (hm : MtR X id r) (hg : MtG X.K r g) (ho : DE X o f) (ha : DO X (e :: es) fa)
    (hr : plainRecv o = true) (hline : (apos.endLine == cpos.line) = true) (hs : (e :: es).all notStar = true) (hl : (e :: es).length < 30) : DE X (.Call (.Attribute o name apos) (e :: es) [] cpos) (cMeth T g f fa) := by
  have hs' := hs
  simp only [List.all_cons, Bool.and_eq_true] at hs
  refine ⟨fun W tk => PE.weak (pe_bm pa slot hty hm (ho.run W tk) (ha.run W tk) (plainRecv_ok hr) (few_ok hs' hl) hline (starEach_cons hs.1) (backTo_plain hs.2)) fun pins s σ H Q I h => ?_⟩
  obtain ⟨G, F, δ, rr, h⟩ := h
  refine bindE rr .refl h fun o1 δ1 v F1 H1 s1 r1 q1 h => ?_
  obtain ⟨x, e1, e2, h⟩ := lift1u_ok h
  refine ⟨tyV_of r1.subF (deref_rep r1 q1 e1) e2, ?_⟩
  refine bindO (r1.pend q1) (pend_sub q1) h fun os δ2 vs F2 H2 s2 r2 q2 h => ?_
  obtain ⟨l, op, e3, e4, h⟩ := liftN_ok h
  have r2' := r2.lessG (pend_sub q1)
  have q1' := pend_keep q1 s2 r2
  have q2' : OpReps X.K σ G F2 H2 δ2 (o1 :: os) (v :: vs) := ⟨v, vs, rfl, q1', q2.lessG (pend_sub q1)⟩
  have rb := derefs_rep r2' q2' e3
  cases l with
  | nil => cases e4
  | cons y ds =>
    obtain ⟨v', t, e5, p1, p2⟩ := rb
    cases e5
    exact hg σ G F2 H2 δ2 y ds v vs op Q r2' p1 p2 e4 fun u F' H' s' r' q' => h u F' H' s' r' q'
theorem de_meth0 (pa : PlainAttrs T) (slot : PySem.Slot T name id) (hty : typeOf (.builtin id) = pure (.type "method_descriptor")) (hm : MtR X id r) (hg : MtG X.K r g) (ho : DE X o f)
    (hr : plainRecv o = true) (hline : (apos.endLine == cpos.line) = true) : DE X (.Call (.Attribute o name apos) [] [] cpos) (cMeth T g f cNilO) := by
  refine ⟨fun W tk => PE.weak (pe_bm0 pa slot hty hm (ho.run W tk) (plainRecv_ok hr) hline) fun pins s σ H Q I h => ?_⟩
  obtain ⟨G, F, δ, rr, h⟩ := h
  refine bindE rr .refl h fun o1 δ1 v F1 H1 s1 r1 q1 h => ?_
  obtain ⟨x, e1, e2, h⟩ := lift1u_ok h
  refine ⟨tyV_of r1.subF (deref_rep r1 q1 e1) e2, ?_⟩
  obtain ⟨l, op, e3, e4, h⟩ := liftN_ok (os := [o1]) h
  have q2' : OpReps X.K σ G F1 H1 δ1 [o1] [v] := ⟨v, [], rfl, q1, rfl⟩
  have rb := derefs_rep r1 q2' e3
  cases l with
  | nil => cases e4
  | cons y ds =>
    obtain ⟨v', t, e5, p1, p2⟩ := rb
    cases e5
    exact hg σ G F1 H1 δ1 y ds v [] op Q r1 p1 p2 e4 fun u F' H' s' r' q' => h u F' H' s' r' q'
/-- two roads for one expression -/
theorem DE.or {ee : Expr} {f1 f2 : M Op} (h1 : DE X ee f1) (h2 : DE X ee f2) : DE X ee (fun δ => match f1 δ with | .bad => f2 δ | r => r) := by
  refine ⟨fun W tk => ⟨fun pins s σ H Q I h => ?_⟩⟩
  obtain ⟨G, F, δ, rr, h⟩ := h
  dsimp only at h
  cases e : f1 δ with
  | bad => rw [e] at h; exact (h2.run W tk).run pins s σ H Q I ⟨G, F, δ, rr, h⟩
  | ok a δ' => rw [e] at h; exact (h1.run W tk).run pins s σ H Q I ⟨G, F, δ, rr, by rw [e]; exact h⟩
  | ex a δ' => rw [e] at h; exact (h1.run W tk).run pins s σ H Q I ⟨G, F, δ, rr, by rw [e]; exact h⟩
end
/-! #### join -/
def gJoin : D → List D → Option Op
  | .str sep, [d] => match seqD d with
    | some xs => (strsD xs).bind fun ps => if fits ((ps.map List.length).sum + ps.length * sep.length) then some (.val (.str (TL.joinL sep ps))) else none
    | none => none
  | _, _ => none
theorem mg_join {K : PySem.W.Frag} : MtG K (fun x xs H Q => ∃ a p, ∃ ys : List Str, x = .str a ∧ xs = [.ref p] ∧ (SqL K H p (ys.map V.str) ∨ SqT K H p (ys.map V.str)) ∧
    (ys.map (·.length)).sum + ys.length * a.length ≤ 16777216 ∧ Q (.str (Txt.join a ys)) H) gJoin := by
  intro σ G F H δ x ds v vs o Q rel rx rs e k
  unfold gJoin at e
  split at e
  · rename_i sep d
    have hv := rx.str; subst hv
    obtain ⟨w, rfl, h1⟩ := rs.one
    cases el : seqD d with
    | none => rw [el] at e; cases e
    | some xs =>
      rw [el] at e; dsimp only at e
      cases en : strsD xs with
      | none => rw [en] at e; cases e
      | some ps =>
        rw [en] at e
        have e : (if fits ((ps.map List.length).sum + ps.length * sep.length) then some (Op.val (.str (TL.joinL sep ps))) else none) = some o := e
        split at e
        · rename_i hf
          cases e
          obtain ⟨a, us, rfl, h2, h3⟩ := h1.seq rel.subF el
          have := strsD_rep h3 en; subst this
          have hl : ((ps.map fun s => (⟨s.toArray⟩ : Str)).map (·.length)).sum = (ps.map List.length).sum := by
            rw [List.map_map]
            exact congrArg List.sum (List.map_congr_left fun s _ => str_len s)
          refine ⟨_, a, _, rfl, rfl, h2, ?_, ?_⟩
          · rw [hl, List.length_map, str_len]
            exact of_decide_eq_true hf
          · have ej : Txt.join ⟨sep.toArray⟩ (ps.map fun s => (⟨s.toArray⟩ : Str)) = ⟨(TL.joinL sep ps).toArray⟩ := by
              rw [TL.join_eq]
              apply TL.ext_tl
              rw [TL.tl_join, TL.tl_mk, TL.tl_mk]
              congr 1
              rw [List.map_map]
              conv => rhs; rw [← List.map_id ps]
              exact List.map_congr_left fun s _ => TL.tl_mk s
            rw [ej]
            exact k _ F H .refl rel (show Rep K F (.str _) _ from rep_str _)
        · cases e
  · cases e
/-! #### index, count, bit_length -/
def gIndexL : D → List D → Option Op
  | x, [y] => match listD x with
    | some xs => if flatD y && xs.all flatD then (xs.findIdx? fun z => eqD z y).map fun j => Op.val (.int (j : Nat)) else none
    | none => none
  | _, _ => none
theorem all_flat {K : PySem.W.Frag} {F : Hp} : ∀ {ds : List D} {vs : List V}, RepL K F ds vs → ds.all flatD = true → vs.all flatV = true
  | [], vs, h, _ => by unfold RepL at h; subst h; rfl
  | d :: ds, vs, h, f => by
    unfold RepL at h
    obtain ⟨v, r, rfl, h1, h2⟩ := h
    simp only [List.all_cons, Bool.and_eq_true] at f
    have := (eqV_of (H := F) (.inl h1) (.inl h1) f.1 f.1).2
    simp only [List.all_cons, this, all_flat h2 f.2, Bool.and_self]
theorem mg_indexL {K : PySem.W.Frag} : MtG K (rIndex K) gIndexL := by
  intro σ G F H δ x ds v vs o Q rel rx rs e k
  unfold gIndexL at e
  split at e
  · rename_i y
    obtain ⟨w, rfl, h1⟩ := rs.one
    cases el : listD x with
    | none => rw [el] at e; cases e
    | some xs =>
      rw [el] at e; dsimp only at e
      by_cases hf : (flatD y && xs.all flatD) = true
      · rw [if_pos hf] at e
        obtain ⟨f1, f2⟩ := Bool.and_eq_true_iff.mp hf
        cases ej : xs.findIdx? fun z => eqD z y with
        | none => rw [ej] at e; cases e
        | some j =>
          rw [ej] at e; cases e
          obtain ⟨a, us, rfl, h2, h3⟩ := rx.list rel.subF el
          obtain ⟨hj, hp, hb⟩ := List.findIdx?_eq_some_iff_getElem.mp ej
          have hd : xs[j]? = some xs[j] := List.getElem?_eq_getElem hj
          obtain ⟨u, hu, ru⟩ := h3.get hd
          have allf := List.all_eq_true.mp f2
          refine ⟨a, us, w, j, u, rfl, rfl, h2, (eqV_of h1 h1 f1 f1).2, all_flat h3 f2, hu, ?_, fun m z hm hz => ?_, k _ F H .refl rel (show Rep K F (.int _) _ from rep_int _)⟩
          · rw [(eqV_of (H := H) (.inl ru) h1 (allf _ (List.getElem_mem hj)) f1).1]; exact hp
          · obtain ⟨d, hd2, rd⟩ := h3.getV hz
            have hm2 : m < xs.length := by omega
            have : xs[m] = d := by rw [List.getElem?_eq_getElem hm2] at hd2; exact Option.some.inj hd2
            rw [(eqV_of (H := H) (.inl rd) h1 (allf _ (by rw [← this]; exact List.getElem_mem hm2)) f1).1]
            have h9 := hb m hm
            rw [this] at h9
            simpa using h9
      · rw [if_neg hf] at e; cases e
  · cases e
end Ev
set_option Elab.async false
set_option linter.all false
set_option autoImplicit false
set_option maxRecDepth 100000
set_option maxHeartbeats 4000000
namespace EvL
open PySem PySem.Spec PyProof.Rows
section
variable {prog : Program} {w : World} {A : Around} {E : Value → Shared → Prop} {s : Shared}
theorem hint_str {x : Str} {t : Tok} {Q : Bool → Shared → Prop} (h : Q false s) : wpAny (model prog w) A (Builtin.List.listLengthHint (.str x t)) Q E s := by
  have hT : s.TypeIs (.str x t) "str" := typeIs_str s x t
  unfold Builtin.List.listLengthHint
  refine wpAny_bind (wpAny_specialOf hT PySem.F.slot_str_len.lookup ?_)
  generalize hid : ("str.__len__" : String) = id0
  wp_delta
  rw [show splitId id0 = some ("str", "__len__") from by subst hid; decide +kernel]
  subst hid
  refine wpAny_bind (wpAny_isInstance (T := "str") (b := true) hT (by rw [isSubtype_type]; kernel_rfl) ?_)
  refine wpAny_ite_split (fun hab => absurd hab (by decide)) (fun _ => ?_)
  refine wpAny_ite_split (fun _ => ?_) (fun hab => absurd (by decide +kernel) hab)
  refine wpAny_bind (wpAny_typeOf hT ?_)
  exact wpAny_pure h
theorem extend_str {R : Result → Shared → Prop} (hh : A.handled = none) (x : Str) (t : Tok) (S : Addr) (res : Value) (c₀ : Nat) (hS : s.heap.get? S = some { cls := .type "list", data := .seq #[] c₀ })
    (hR : ∀ h' tk acc' c', (∀ b o, b ≠ S → s.heap.get? b = some o → h'.get? b = some o) → h'.get? S = some { cls := .type "list", dict := none, data := .seq acc' c', slots := #[] } →
      ItemsOf (SignAt x) acc' x.cps.size → R (.ok (.ret res)) { s with heap := h', toks := tk }) (hn : x.cps.size ≤ sizeLine) :
    wpAny (model prog w) A.in1 (Builtin.List.listExtendWith (.ref S) (.str x t) res)
      (fun fin s' => match fin with | .done f => R (.ok f) s' | .again c' => c'.quiet = true ∧ codeAny (model prog w) A c' R s') (fun e s' => R (.error e) s') s := by
  have hSI : S ≠ s.heap.objs.size := Nat.ne_of_lt (Heap.lt_size hS)
  have hSf : S ∉ [s.heap.objs.size] := fun hm => hSI (List.mem_singleton.mp hm)
  unfold Builtin.List.listExtendWith
  refine wpAny_bind (wpAny_typeOf (T := "str") (v := .str x t) (typeIs_str s x t) ?_)
  have h1 : Builtin.List.listSameRef (.ref S) (.str x t) = false := rfl
  have h2 : (Value.type "str" == Value.type "list") = false := by decide
  have h3 : (Value.type "str" == Value.type "tuple") = false := by decide
  simp only [h1, h2, h3, Bool.or_false, Bool.false_eq_true, if_false]
  refine wpAny_bind (wpAny_pyIter_str fun o St hW hst => ?_)
  refine wpAny_bind (wpAny_holding (hint_str ?_))
  rw [if_neg (by first | decide | decide +kernel)]
  have W := hW A.in1 hh
  refine wpAny_pure ⟨plainId_quiet PySem.F.plain_extend_loop _, codeAny_extend_loopS W.toS hn _ hSf _ x.cps.size 0 _ _ _ rfl (Nat.zero_le _) hst (Heap.get?_push_of_some _ hS) (ItemsOf.nil _) fun s' acc' c' hm hS' hacc => ?_⟩
  rw [Moved.eq_with hm]
  refine hR s'.heap s'.toks acc' c' (fun b ob hb e => hm.heap b ob (fun hmem => ?_) (Heap.get?_push_of_some _ e)) hS' hacc
  rcases List.mem_cons.mp hmem with e' | hmem
  · exact hb e'
  · exact absurd (Heap.lt_size e) (by rw [List.mem_singleton.mp hmem]; exact Nat.lt_irrefl _)
theorem list_init_str {R : Result → Shared → Prop} (hh : A.handled = none) (x : Str) (t : Tok) (S : Addr) (hS : s.heap.get? S = some { cls := .type "list", data := .seq #[] })
    (hR : ∀ h' tk acc' c', (∀ b o, b ≠ S → s.heap.get? b = some o → h'.get? b = some o) → h'.get? S = some { cls := .type "list", dict := none, data := .seq acc' c', slots := #[] } →
      ItemsOf (SignAt x) acc' x.cps.size → R (.ok (.ret .none)) { s with heap := h', toks := tk }) (hn : x.cps.size ≤ sizeLine) :
    wpAny (model prog w) A.in1 (Builtin.«list.__init__» ⟨[.ref S, .str x t], []⟩)
      (fun fin s' => match fin with | .done f => R (.ok f) s' | .again c' => c'.quiet = true ∧ codeAny (model prog w) A c' R s') (fun e s' => R (.error e) s') s := by
  show wpAny _ _ (do let old ← Builtin.List.listItems (.ref S); Builtin.List.listUpdate (.ref S) (fun _ => #[]); letGo old.toList.reverse; Builtin.List.listExtendWith (.ref S) (.str x t) .none) _ _ s
  refine wpAny_bind ?_
  unfold Builtin.List.listItems
  refine wpAny_bind (wpAny_seqItems hS rfl (wpAny_pure ?_))
  show wpAny _ _ (updateSeq S (fun _ => #[]) >>= fun _ => letGo (#[] : Array Value).toList.reverse >>= fun _ => Builtin.List.listExtendWith (.ref S) (.str x t) .none) _ _ s
  refine wpAny_bind (wpAny_updateSeq hS rfl ?_)
  have hS₂ := Heap.get?_update_self (Obj.mapSeq (fun _ => (#[] : Array Value))) hS rfl
  have oth : ∀ b o, b ≠ S → s.heap.get? b = some o → (s.heap.update S (Obj.mapSeq (fun _ => (#[] : Array Value)))).get? b = some o :=
    fun b o hb e => (Heap.get?_update_other _ _ (Ne.symm hb)).trans e
  refine wpAny_bind (wpAny_letGo ?_)
  refine extend_str hh x t S .none _ hS₂ (fun h' tk acc' c' hk hS' hacc => ?_) hn
  exact hR h' tk acc' c' (fun b o hb e => hk b o hb (oth b o hb e)) hS' hacc
theorem call_list_str {x : Str} {t : Tok} {Q : Value → Shared → Prop} (hh : A.handled = none) (hn : x.cps.size ≤ sizeLine)
    (hQ : ∀ h' tk acc' c', (∀ b o, s.heap.get? b = some o → h'.get? b = some o) →
      h'.get? s.heap.objs.size = some { cls := .type "list", dict := none, data := .seq acc' c', slots := #[] } → ItemsOf (SignAt x) acc' x.cps.size → Q (.ref s.heap.objs.size) { s with heap := h', toks := tk }) :
    wpAny (model prog w) A (call (.type "list") [.str x t]) Q E s := by
  refine callType_codes (Q₁ := fun obj s₁ => obj = .ref s.heap.objs.size ∧ s₁ = { s with heap := s.heap.push { cls := .type "list", data := .seq #[] } }) PySem.F.called_list (PySem.F.typeCall_list_1 _) PySem.F.entry_list_init
    (code_list_new _ ⟨rfl, rfl⟩) fun obj s₁ h₁ => ?_
  obtain ⟨rfl, rfl⟩ := h₁
  have hS : (s.heap.push { cls := .type "list", data := .seq #[] }).get? s.heap.objs.size = some { cls := .type "list", data := .seq #[] } := Heap.get?_push_size _ rfl
  refine ⟨⟨_, hS, rfl⟩, PySem.F.args_list_init_2 _ _, list_init_str (A := A.in1) hh x t _ hS (fun h' tk acc' c' hk hS' hacc => ?_) hn⟩
  exact ⟨rfl, hQ h' tk acc' c' (fun b o e => hk b o (Nat.ne_of_lt (Heap.lt_size e)) (Heap.get?_push_of_some _ e)) hS' hacc⟩
end
end EvL
namespace Ev
open PySem PySem.Spec L2
open PyProof.Rows hiding St
theorem call_list_text {X : Cx} (hc : X.calm = true) : CallR X (.type "list") (fun xs H Q => ∃ z, xs = [.str z] ∧ z.length ≤ sizeLine ∧ ∀ l, H l = none → Q (.ref l) (upd H l (.lst (z.cps.toList.map fun c => V.str ⟨#[c]⟩)))) := by
  intro pins s σ H xs us Q I r h
  obtain ⟨z, rfl, hz, q⟩ := h
  obtain ⟨u, rfl, rx⟩ := vals1 r
  obtain ⟨t, rfl⟩ := rx
  refine EvL.call_list_str (I.ok.hd hc) hz fun h' tk acc c' hk e hi => ?_
  refine ⟨.ref s.heap.objs.size, upd H s.heap.objs.size (.lst (z.cps.toList.map fun c => V.str ⟨#[c]⟩)), I.laid hk (Nat.le_refl _) ⟨by rw [List.length_map, Array.length_toList]; exact hz, acc.toList, c', ?_, by rw [Array.toArray_toList]; exact e⟩, rfl, q _ (I.hok.fresh (Nat.le_refl _))⟩
  refine vals_of_idx _ _ (by rw [List.length_map, Array.length_toList, Array.length_toList]; exact hi.1) fun j u hj => ?_
  obtain ⟨c, t', hc, rfl⟩ := hi.2 j u (by rw [← Array.getElem?_toList]; exact hj)
  exact ⟨.str ⟨#[c]⟩, by simp [hc], ⟨_, rfl⟩⟩
def gListT : List D → Option Op
  | [.str s] => if fits s.length then some (.fresh (.lst (s.map fun c => D.str [c]))) else none
  | _ => none
theorem repL_signs {K : PySem.W.Frag} {F : Hp} : ∀ s : List Nat, RepL K F (s.map fun c => D.str [c]) (s.map fun c => V.str ⟨#[c]⟩)
  | [] => .nil
  | c :: s => .cons (rep_str [c]) (repL_signs s)
theorem cg_listT {K : PySem.W.Frag} : CallG K (fun xs H Q => ∃ z, xs = [.str z] ∧ z.length ≤ sizeLine ∧ ∀ l, H l = none → Q (.ref l) (upd H l (.lst (z.cps.toList.map fun c => V.str ⟨#[c]⟩)))) gListT := by
  intro σ G F H δ ds vs o Q rel rs e k
  unfold gListT at e
  split at e
  · rename_i s
    split at e
    · rename_i hf
      cases e
      obtain ⟨v, rfl, r1⟩ := rs.one
      have hv := r1.str
      subst hv
      exact ⟨_, rfl, by rw [str_len]; exact fits_le hf, new_lst rel (repL_signs s) k⟩
    · cases e
  · cases e
theorem call_tuple_text {X : Cx} (hc : X.calm = true) : CallR X (.type "tuple") (fun xs H Q => ∃ z, xs = [.str z] ∧ z.length ≤ sizeLine ∧ ∀ l, H l = none → Q (.ref l) (upd H l (.tup (z.cps.toList.map fun c => V.str ⟨#[c]⟩)))) := by
  intro pins s σ H xs us Q I r h
  obtain ⟨z, rfl, hz, q⟩ := h
  obtain ⟨u, rfl, rx⟩ := vals1 r
  obtain ⟨t, rfl⟩ := rx
  refine call_tuple_str (hsz := hz) (I.ok.hd hc) z t fun h' tk acc hk hi => ?_
  have I1 : Inv X pins σ H { s with heap := h', toks := tk } := I.kept (t' := tk) hk
  have hv : Vals (z.cps.toList.map fun c => V.str ⟨#[c]⟩) acc.toList := by
    refine vals_of_idx _ _ (by rw [List.length_map, Array.length_toList, Array.length_toList]; exact hi.1) fun j u hj => ?_
    obtain ⟨c, t', hc, rfl⟩ := hi.2 j u (by rw [← Array.getElem?_toList]; exact hj)
    exact ⟨.str ⟨#[c]⟩, by simp [hc], ⟨_, rfl⟩⟩
  have I2 : Inv X pins σ (upd H h'.objs.size (.tup (z.cps.toList.map fun c => V.str ⟨#[c]⟩))) { s with heap := h'.push { cls := .type "tuple", data := .seq acc }, toks := tk } :=
    I1.laid (t' := tk) (fun b o e => Heap.get?_push_of_some _ e) (Nat.le_refl _) (show ObjOk X.prog X.w _ _ _ (.tup _) from ⟨by rw [List.length_map, Array.length_toList]; exact hz, acc.toList, hv, IsTup.new _ _⟩)
  exact ⟨.ref h'.objs.size, _, I2, rfl, q _ (I1.hok.fresh (Nat.le_refl _))⟩
def gTupT : List D → Option Op
  | [.str s] => if fits s.length then some (.val (.tup (s.map fun c => D.str [c]))) else none
  | _ => none
theorem cg_tupT {K : PySem.W.Frag} : CallG K (fun xs H Q => ∃ z, xs = [.str z] ∧ z.length ≤ sizeLine ∧ ∀ l, H l = none → Q (.ref l) (upd H l (.tup (z.cps.toList.map fun c => V.str ⟨#[c]⟩)))) gTupT := by
  intro σ G F H δ ds vs o Q rel rs e k
  unfold gTupT at e
  split at e
  · rename_i s
    split at e
    · rename_i hf
      cases e
      obtain ⟨v, rfl, r1⟩ := rs.one
      have hv := r1.str
      subst hv
      exact ⟨_, rfl, by rw [str_len]; exact fits_le hf, new_tup rel (repL_signs s) k⟩
    · cases e
  · cases e
end Ev
set_option Elab.async false
set_option linter.all false
set_option autoImplicit false
set_option maxRecDepth 100000
set_option maxHeartbeats 4000000
namespace Ev
open PySem PySem.Spec L2
open PyProof.Rows hiding St
/-! ### stores into slots -/
section
variable {K : PySem.W.Frag} {G : GP} {F H : Hp} {σ : St} {δ : EnvS}
theorem Rel.setVal (r : Rel K G F H σ δ) {i : Nat} {d : D} {v : V} (h : Rep K F d v) : Rel K G F H (σ.set i (some v)) (δ.set i (.val d)) := by
  refine ⟨r.subF, r.subG, r.disj, fun j s q => ?_, fun j k s t a q1 o1 q2 o2 p1 p2 => ?_, by rw [List.length_set, List.length_set]; exact r.len, fun j x q => ?_⟩
  · by_cases hj : j = i
    · subst hj
      have hi : j < δ.length := by
        have := (List.getElem?_eq_some_iff.mp q).1
        rwa [List.length_set] at this
      rw [List.getElem?_set_self hi] at q
      cases q
      exact ⟨v, by rw [List.getElem?_set_self (r.len ▸ hi)], h⟩
    · rw [List.getElem?_set_ne (Ne.symm hj)] at q
      have z := r.slot j s q
      cases s with
      | none => trivial
      | val x => obtain ⟨w, z1, z2⟩ := z; exact ⟨w, by rw [List.getElem?_set_ne (Ne.symm hj)]; exact z1, z2⟩
      | own io x => obtain ⟨a, z1, z2⟩ := z; exact ⟨a, by rw [List.getElem?_set_ne (Ne.symm hj)]; exact z1, z2⟩
  · have up : ∀ {m : Nat} {x : Slot}, (δ.set i (.val d))[m]? = some x → x.isOwn = true → m ≠ i ∧ δ[m]? = some x := fun {m x} w w2 => by
      by_cases hm : m = i
      · subst hm
        have hi : m < δ.length := by
          have := (List.getElem?_eq_some_iff.mp w).1
          rwa [List.length_set] at this
        rw [List.getElem?_set_self hi] at w; cases w; cases w2
      · rw [List.getElem?_set_ne (Ne.symm hm)] at w; exact ⟨hm, w⟩
    obtain ⟨n1, e1⟩ := up q1 o1
    obtain ⟨n2, e2⟩ := up q2 o2
    rw [List.getElem?_set_ne (Ne.symm n1)] at p1
    rw [List.getElem?_set_ne (Ne.symm n2)] at p2
    exact r.inj j k s t a e1 o1 e2 o2 p1 p2
  · by_cases hj : j = i
    · subst hj
      have hi : j < δ.length := by
        have := (List.getElem?_eq_some_iff.mp q).1
        rwa [List.length_set] at this
      rw [List.getElem?_set_self hi] at q; cases q
    · rw [List.getElem?_set_ne (Ne.symm hj)] at q ⊢; exact r.pin j x q
theorem Rel.setOwn (r : Rel K G F H σ δ) {i : Nat} {d : D} {a : Addr} (h1 : F a = none) (h2 : G a = none) (h3 : ObR K F H a d) (h4 : ¬ OwnAt σ δ a) : Rel K G F H (σ.set i (some (.ref a))) (δ.set i (.own false d)) := by
  have up : ∀ {m : Nat} {x : Slot}, (δ.set i (.own false d))[m]? = some x → m = i ∨ (m ≠ i ∧ δ[m]? = some x) := fun {m x} w => by
    by_cases hm : m = i
    · exact .inl hm
    · rw [List.getElem?_set_ne (Ne.symm hm)] at w; exact .inr ⟨hm, w⟩
  have lt : ∀ {x : Slot}, (δ.set i (.own false d))[i]? = some x → i < δ.length := fun {x} w => by
    have := (List.getElem?_eq_some_iff.mp w).1
    rwa [List.length_set] at this
  refine ⟨r.subF, r.subG, r.disj, fun j s q => ?_, fun j k s t b q1 o1 q2 o2 p1 p2 => ?_, by rw [List.length_set, List.length_set]; exact r.len, fun j x q => ?_⟩
  · rcases up q with rfl | ⟨hj, q⟩
    · have hi := lt q
      rw [List.getElem?_set_self hi] at q
      cases q
      exact ⟨a, by rw [List.getElem?_set_self (r.len ▸ hi)], h1, h2, h3⟩
    · have z := r.slot j s q
      cases s with
      | none => trivial
      | val x => obtain ⟨w, z1, z2⟩ := z; exact ⟨w, by rw [List.getElem?_set_ne (Ne.symm hj)]; exact z1, z2⟩
      | own io x => obtain ⟨a, z1, z2⟩ := z; exact ⟨a, by rw [List.getElem?_set_ne (Ne.symm hj)]; exact z1, z2⟩
  · rcases up q1 with rfl | ⟨n1, e1⟩
    · rcases up q2 with rfl | ⟨n2, e2⟩
      · rfl
      · have hi := lt q1
        rw [List.getElem?_set_self (r.len ▸ hi)] at p1
        cases p1
        rw [List.getElem?_set_ne (Ne.symm n2)] at p2
        exact absurd ⟨k, t, e2, o2, p2⟩ h4
    · rcases up q2 with rfl | ⟨n2, e2⟩
      · have hi := lt q2
        rw [List.getElem?_set_self (r.len ▸ hi)] at p2
        cases p2
        rw [List.getElem?_set_ne (Ne.symm n1)] at p1
        exact absurd ⟨j, s, e1, o1, p1⟩ h4
      · rw [List.getElem?_set_ne (Ne.symm n1)] at p1
        rw [List.getElem?_set_ne (Ne.symm n2)] at p2
        exact r.inj j k s t b e1 o1 e2 o2 p1 p2
  · rcases up q with rfl | ⟨hj, q⟩
    · have hi := lt q
      rw [List.getElem?_set_self hi] at q; cases q
    · rw [List.getElem?_set_ne (Ne.symm hj)]; exact r.pin j x q
/-- an own thing is written -/
theorem Rel.write (r : Rel K G F H σ δ) {i : Nat} {d d' : D} {a : Addr} {o : HO} {io : Bool} (e : δ[i]? = some (.own io d)) (ea : σ[i]? = some (some (.ref a))) (new : ObR K F (upd H a o) a d') : Rel K G F (upd H a o) σ (δ.set i (.own io d')) := by
  obtain ⟨b, h1, h2, h3, h4⟩ := r.slot i _ e
  rw [ea] at h1; cases h1
  have hi : i < δ.length := (List.getElem?_eq_some_iff.mp e).1
  refine ⟨r.subF.upd_right h2, r.subG.upd_right h3, r.disj, fun j s q => ?_, fun j k s t c q1 o1 q2 o2 p1 p2 => ?_, by rw [List.length_set]; exact r.len, fun j x q => ?_⟩
  · by_cases hj : j = i
    · subst hj
      rw [List.getElem?_set_self hi] at q
      cases q
      exact ⟨a, ea, h2, h3, new⟩
    · rw [List.getElem?_set_ne (Ne.symm hj)] at q
      have z := r.slot j s q
      cases s with
      | none => trivial
      | val x => exact z
      | own io x =>
        obtain ⟨c, z1, z2, z3, z4⟩ := z
        have ne : c ≠ a := fun w => hj (r.inj j i _ _ a q rfl e rfl (w ▸ z1) ea)
        exact ⟨c, z1, z2, z3, z4.mono .refl (upd_ne ne)⟩
  · have up : ∀ {m : Nat} {x : Slot}, (δ.set i (.own io d'))[m]? = some x → x.isOwn = true → ∃ y : Slot, δ[m]? = some y ∧ y.isOwn = true := fun {m x} w w2 => by
      by_cases hm : m = i
      · subst hm; exact ⟨_, e, rfl⟩
      · rw [List.getElem?_set_ne (Ne.symm hm)] at w; exact ⟨x, w, w2⟩
    obtain ⟨y1, e1, w1⟩ := up q1 o1
    obtain ⟨y2, e2, w2⟩ := up q2 o2
    exact r.inj j k y1 y2 c e1 w1 e2 w2 p1 p2
  · by_cases hj : j = i
    · subst hj
      rw [List.getElem?_set_self hi] at q; cases q
      exact r.pin j d e
    · rw [List.getElem?_set_ne (Ne.symm hj)] at q; exact r.pin j x q
/-- slots are forgotten -/
def wipeE (δ : EnvS) : List Nat → EnvS
  | [] => δ
  | i :: is => (wipeE δ is).set i .none
theorem wipeE_length (δ : EnvS) : ∀ is, (wipeE δ is).length = δ.length
  | [] => rfl
  | i :: is => by unfold wipeE; rw [List.length_set, wipeE_length δ is]
theorem wipeE_some {δ : EnvS} {s : Slot} {i : Nat} : ∀ {is : List Nat}, (wipeE δ is)[i]? = some s → s = .none ∨ (δ[i]? = some s ∧ i ∉ is)
  | [], h => .inr ⟨h, by simp⟩
  | j :: is, h => by
    unfold wipeE at h
    by_cases hj : i = j
    · subst hj
      have hi : i < (wipeE δ is).length := by
        have := (List.getElem?_eq_some_iff.mp h).1
        rwa [List.length_set] at this
      rw [List.getElem?_set_self hi] at h
      cases h; exact .inl rfl
    · rw [List.getElem?_set_ne (Ne.symm hj)] at h
      rcases wipeE_some h with h | ⟨h1, h2⟩
      · exact .inl h
      · exact .inr ⟨h1, by simp [hj, h2]⟩
/-- some slots known less -/
theorem Rel.less (r : Rel K G F H σ δ) {δ' : EnvS} (hl : δ'.length = δ.length) (h : ∀ (i : Nat) (s : Slot), δ'[i]? = some s → s = .none ∨ δ[i]? = some s) : Rel K G F H σ δ' := by
  refine ⟨r.subF, r.subG, r.disj, fun j s q => ?_, fun j k s t c q1 o1 q2 o2 p1 p2 => ?_, hl.trans r.len, fun j x q => ?_⟩
  · rcases h j s q with rfl | q
    · trivial
    · exact r.slot j s q
  · rcases h j s q1 with rfl | q1
    · cases o1
    rcases h k t q2 with rfl | q2
    · cases o2
    exact r.inj j k s t c q1 o1 q2 o2 p1 p2
  · rcases h j _ q with z | q
    · cases z
    · exact r.pin j x q
theorem Rel.wipe (r : Rel K G F H σ δ) (is : List Nat) : Rel K G F H σ (wipeE δ is) := r.less (wipeE_length δ is) fun i s h => (wipeE_some h).imp id fun h => h.1
/-- the values at forgotten slots are open -/
theorem Rel.wipeBoth (r : Rel K G F H σ δ) (is : List Nat) : Rel K G F H (L2.wipe σ is) (wipeE δ is) := by
  have get : ∀ (j : Nat) (s : Slot), (wipeE δ is)[j]? = some s → s ≠ .none → δ[j]? = some s ∧ j ∉ is := fun j s q n => (wipeE_some q).elim (fun z => absurd z n) id
  have out : ∀ {j : Nat}, j ∉ is → (L2.wipe σ is)[j]? = σ[j]? := fun h => wipe_out h
  refine ⟨r.subF, r.subG, r.disj, fun j s q => ?_, fun j k s t c q1 o1 q2 o2 p1 p2 => ?_, by rw [wipeE_length, wipe_length]; exact r.len, fun j x q => ?_⟩
  · cases s with
    | none => trivial
    | val x =>
      obtain ⟨q1, q2⟩ := get j _ q (fun z => nomatch z)
      obtain ⟨w, z1, z2⟩ := r.slot j _ q1
      exact ⟨w, by rw [out q2]; exact z1, z2⟩
    | own io x =>
      obtain ⟨q1, q2⟩ := get j _ q (fun z => nomatch z)
      obtain ⟨w, z1, z2⟩ := r.slot j _ q1
      exact ⟨w, by rw [out q2]; exact z1, z2⟩
  · obtain ⟨a1, b1⟩ := get j s q1 (fun z => by subst z; cases o1)
    obtain ⟨a2, b2⟩ := get k t q2 (fun z => by subst z; cases o2)
    rw [out b1] at p1
    rw [out b2] at p2
    exact r.inj j k s t c a1 o1 a2 o2 p1 p2
  · obtain ⟨a1, b1⟩ := get j _ q (fun z => nomatch z)
    rw [out b1]
    exact r.pin j x a1
end
/-! ### targets: a name, names -/
inductive Tgt where
  | one (i : Nat) | many (is : List Nat) | pr (i : Nat) (js : List Nat)
def Tgt.slots : Tgt → List Nat
  | .one i => [i]
  | .many is => is
  | .pr i js => i :: js
def setVals : EnvS → List Nat → List D → EnvS
  | δ, i :: is, d :: ds => setVals (δ.set i (.val d)) is ds
  | δ, _, _ => δ
def prD : D → Option (D × List D)
  | .tup [x, .tup ds] => some (x, ds)
  | _ => none
def tgPr (i : Nat) (js : List Nat) (d : D) : M Unit := fun δ => match prD d with
  | some (x, ds) => if ds.length = js.length then .ok () (setVals (δ.set i (.val x)) js ds) else .bad
  | none => .bad
def tgF : Tgt → D → M Unit
  | .one i, d => fun δ => .ok () (δ.set i (.val d))
  | .many is, .tup ds => fun δ => if ds.length = is.length then .ok () (setVals δ is ds) else .bad
  | .many _, _ => mBad
  | .pr i js, d => tgPr i js d
def gNames : List Nat → TGs
  | [] => gNil
  | i :: is => gCons (gName i) (gNames is)
def gT (K : PySem.W.Frag) : Tgt → TG
  | .one i => gName i
  | .many is => gTup K is.length (gNames is)
  | .pr i js => gTup K 2 (gCons (gName i) (gCons (gTup K js.length (gNames js)) gNil))
theorem wipe_comm (τ : St) (i : Nat) : ∀ (vs : List Nat), (wipe τ vs).set i none = wipe (τ.set i none) vs
  | [] => rfl
  | j :: vs => by
    show ((wipe τ vs).set j none).set i none = (wipe (τ.set i none) vs).set j none
    by_cases h : j = i
    · subst h; rw [← wipe_comm τ j vs]
    · rw [List.set_comm _ _ h, wipe_comm τ i vs]
theorem wipe_set {σ : St} {i : Nat} {v : V} : ∀ {vs : List Nat}, i ∈ vs → wipe (σ.set i (some v)) vs = wipe σ vs
  | j :: vs, h => by
    show (wipe (σ.set i (some v)) vs).set j none = (wipe σ vs).set j none
    by_cases hj : i ∈ vs
    · rw [wipe_set hj]
    · have : i = j := by
        rcases List.mem_cons.mp h with h | h
        · exact h
        · exact absurd h hj
      subst this
      rw [wipe_comm, wipe_comm, List.set_set]
theorem gNames_ok {K : PySem.W.Frag} {G : GP} {F H : Hp} {Q : St → Hp → Prop} : ∀ {is : List Nat} {ds : List D} {vs : List V} {σ : St} {δ : EnvS}, Rel K G F H σ δ → RepL K F ds vs → ds.length = is.length →
    (∀ σ', Rel K G F H σ' (setVals δ is ds) → (∀ ws : List Nat, (∀ i ∈ is, i ∈ ws) → wipe σ' ws = wipe σ ws) → Q σ' H) → gNames is vs σ H Q
  | [], [], vs, σ, δ, r, h, e, k => by
    unfold RepL at h; subst h
    exact ⟨rfl, k σ r fun _ _ => rfl⟩
  | i :: is, d :: ds, vs, σ, δ, r, h, e, k => by
    unfold RepL at h
    obtain ⟨v, t, rfl, h1, h2⟩ := h
    refine ⟨v, t, rfl, ?_⟩
    show gNames is t (σ.set i (some v)) H Q
    refine gNames_ok (r.setVal h1) h2 (by simpa using e) fun σ' r' w' => ?_
    exact k σ' r' fun ws hw => by
      rw [w' ws fun j hj => hw j (List.mem_cons_of_mem _ hj), wipe_set (hw i List.mem_cons_self)]
  | [], d :: ds, vs, σ, δ, r, h, e, k => by simp at e
  | i :: is, [], vs, σ, δ, r, h, e, k => by simp at e
theorem gT_ok {K : PySem.W.Frag} {G : GP} {F H : Hp} {σ : St} {δ δ' : EnvS} {T : Tgt} {d : D} {v : V} {Q : St → Hp → Prop} (r : Rel K G F H σ δ) (h : Rep K F d v) (e : tgF T d δ = .ok () δ')
    (k : ∀ σ', Rel K G F H σ' δ' → (∀ ws : List Nat, (∀ i ∈ T.slots, i ∈ ws) → wipe σ' ws = wipe σ ws) → Q σ' H) : gT K T v σ H Q := by
  cases T with
  | one i =>
    cases e
    exact k _ (r.setVal h) fun ws hw => wipe_set (hw i (by simp [Tgt.slots]))
  | many is =>
    cases d with
    | tup ds =>
      have e : (if ds.length = is.length then R.ok () (setVals δ is ds) else .bad) = .ok () δ' := e
      split at e
      · rename_i hl
        cases e
        unfold Rep at h
        obtain ⟨a, vs, rfl, h1, h2⟩ := h
        exact ⟨a, vs, rfl, SqT.of (r.subF _ _ h1), h2.length.trans hl, gNames_ok r h2 hl k⟩
      · cases e
    | _ => cases e
  | pr i js =>
    have e : tgPr i js d δ = .ok () δ' := e
    unfold tgPr at e
    split at e
    · rename_i x ds hd
      split at e
      · rename_i hl
        cases e
        unfold prD at hd
        split at hd
        · cases hd
          unfold Rep at h
          obtain ⟨a, vs, rfl, h1, h2⟩ := h
          unfold RepL at h2
          obtain ⟨u, t, rfl, p1, h2⟩ := h2
          unfold RepL at h2
          obtain ⟨u2, t2, rfl, p2, h2⟩ := h2
          unfold RepL at h2
          subst h2
          have p3 := p2
          unfold Rep at p2
          obtain ⟨a2, vs2, rfl, q1, q2⟩ := p2
          refine ⟨a, _, rfl, SqT.of (r.subF _ _ h1), rfl, u, _, rfl, .ref a2, _, rfl, a2, vs2, rfl, SqT.of (r.subF _ _ q1), q2.length.trans hl, ?_⟩
          refine gNames_ok (r.setVal p1) q2 hl fun σ' r' w' => ⟨rfl, ?_⟩
          exact k σ' r' fun ws hw => by
            rw [w' ws fun j hj => hw j (by simp [Tgt.slots, hj]), wipe_set (hw i (by simp [Tgt.slots]))]
        · cases hd
      · cases e
    · cases e
theorem tgF_ok {T : Tgt} {d : D} {δ : EnvS} : (∃ δ', tgF T d δ = .ok () δ') ∨ tgF T d δ = .bad := by
  cases T with
  | one i => exact .inl ⟨_, rfl⟩
  | many is =>
    cases d with
    | tup ds =>
      show (∃ δ', (if ds.length = is.length then R.ok () (setVals δ is ds) else .bad) = .ok () δ') ∨ (if ds.length = is.length then R.ok () (setVals δ is ds) else .bad) = .bad
      split
      · exact .inl ⟨_, rfl⟩
      · exact .inr rfl
    | _ => exact .inr rfl
  | pr i js =>
    show (∃ δ', tgPr i js d δ = .ok () δ') ∨ tgPr i js d δ = .bad
    unfold tgPr
    split
    · split
      · exact .inl ⟨_, rfl⟩
      · exact .inr rfl
    · exact .inr rfl
/-! ### statements -/
inductive SR where
  | nx (δ : EnvS) | rt (o : Op) (δ : EnvS) | bk (δ : EnvS) | ct (δ : EnvS) | ex (e : D) (δ : EnvS) | bad
abbrev MS := EnvS → SR
def SatS (K : PySem.W.Frag) (G : GP) (F : Hp) (W : WX) (r : SR) (D : Ends) : Prop :=
  match r with
  | .nx δ' => ∀ σ' F' H', Sb F F' → Rel K G F' H' σ' δ' → D.nx σ' H'
  | .rt o δ' => ∀ v σ' F' H', Sb F F' → Rel K G F' H' σ' δ' → OpRep K σ' G F' H' δ' o v → D.rt v H'
  | .bk δ' => ∀ σ' F' H', Sb F F' → Rel K G F' H' σ' δ' → D.bk σ' H'
  | .ct δ' => ∀ σ' F' H', Sb F F' → Rel K G F' H' σ' δ' → D.ct σ' H'
  | .ex e δ' => ∀ σ' F' H' cls d, Sb F F' → Rel K G F' H' σ' δ' → ExRep K F' e cls d → W cls d σ' H'
  | .bad => False
theorem SatS.up {K : PySem.W.Frag} {G : GP} {F F1 : Hp} {W : WX} {r : SR} {D : Ends} (h : SatS K G F W r D) (s : Sb F F1) : SatS K G F1 W r D := by
  cases r with
  | nx δ' => exact fun σ' F' H' s' r => h σ' F' H' (s.trans s') r
  | rt o δ' => exact fun v σ' F' H' s' r q => h v σ' F' H' (s.trans s') r q
  | bk δ' => exact fun σ' F' H' s' r => h σ' F' H' (s.trans s') r
  | ct δ' => exact fun σ' F' H' s' r => h σ' F' H' (s.trans s') r
  | ex e δ' => exact fun σ' F' H' cls d s' r x => h σ' F' H' cls d (s.trans s') r x
  | bad => exact h
def tS (K : PySem.W.Frag) (f : MS) (W : WX) : TS := fun D σ H => ∃ G F δ, Rel K G F H σ δ ∧ SatS K G F W (f δ) D
structure DS (X : Cx) (st : Stmt) (f : MS) : Prop where
  run : ∀ W, Takes X W → PS X st (tS X.K f W)
structure DSs (X : Cx) (st : List Stmt) (f : MS) : Prop where
  run : ∀ W, Takes X W → PSs X st (tS X.K f W)
theorem PS.weak {X : Cx} {st : Stmt} {t t' : TS} (h : PS X st t) (k : ∀ pins s σ H D, Inv X pins σ H s → t' D σ H → t D σ H) : PS X st t' := ⟨fun pins s σ H D I q => h.run pins s σ H D I (k pins s σ H D I q)⟩
theorem PSs.weak {X : Cx} {st : List Stmt} {t t' : TS} (h : PSs X st t) (k : ∀ pins s σ H D, Inv X pins σ H s → t' D σ H → t D σ H) : PSs X st t' := ⟨fun pins s σ H D I q => h.run pins s σ H D I (k pins s σ H D I q)⟩
/-- an expression ahead of a statement's rest -/
def MS.of {α : Type} (f : M α) (g : α → MS) : MS := fun δ => match f δ with
  | .ok a δ' => g a δ'
  | .ex e δ' => .ex e δ'
  | .bad => .bad
theorem stE {K : PySem.W.Frag} {G : GP} {F H : Hp} {σ : St} {δ : EnvS} {W : WX} {fa : M Op} {g : Op → MS} {D : Ends} {P : V → Hp → Prop} (r : Rel K G F H σ δ) (h : SatS K G F W (MS.of fa g δ) D)
    (k : ∀ op δ1 v F1 H1, Sb F F1 → Rel K G F1 H1 σ δ1 → OpRep K σ G F1 H1 δ1 op v → SatS K G F1 W (g op δ1) D → P v H1) : tE K fa W σ H P := by
  refine ⟨G, F, δ, r, ?_⟩
  unfold MS.of at h
  cases e : fa δ with
  | ok op δ1 => rw [e] at h; exact fun v F1 H1 s r1 o => k op δ1 v F1 H1 s r1 o (h.up s)
  | ex x δ1 => rw [e] at h; exact fun F' H' cls d s' r x => h σ F' H' cls d s' r x
  | bad => rw [e] at h; exact h.elim
theorem stT {K : PySem.W.Frag} {G : GP} {F H : Hp} {σ : St} {δ : EnvS} {W : WX} {fa : M Bool} {g : Bool → MS} {D : Ends} {P : Bool → Hp → Prop} (r : Rel K G F H σ δ) (h : SatS K G F W (MS.of fa g δ) D)
    (k : ∀ b δ1 F1 H1, Sb F F1 → Rel K G F1 H1 σ δ1 → SatS K G F1 W (g b δ1) D → P b H1) : tT K fa W σ H P := by
  refine ⟨G, F, δ, r, ?_⟩
  unfold MS.of at h
  cases e : fa δ with
  | ok op δ1 => rw [e] at h; exact fun b F1 H1 s r1 o => by have o : op = b := o; subst o; exact k op δ1 F1 H1 s r1 (h.up s)
  | ex x δ1 => rw [e] at h; exact fun F' H' cls d s' r x => h σ F' H' cls d s' r x
  | bad => rw [e] at h; exact h.elim
theorem stA {K : PySem.W.Frag} {G : GP} {F H : Hp} {σ : St} {δ : EnvS} {W : WX} {fa : M (List D)} {g : List D → MS} {D' : Ends} {P : List V → Hp → Prop} (r : Rel K G F H σ δ) (h : SatS K G F W (MS.of fa g δ) D')
    (k : ∀ ds δ1 vs F1 H1, Sb F F1 → Rel K G F1 H1 σ δ1 → RepL K F1 ds vs → SatS K G F1 W (g ds δ1) D' → P vs H1) : tA K fa W σ H P := by
  refine ⟨G, F, δ, r, ?_⟩
  unfold MS.of at h
  cases e : fa δ with
  | ok op δ1 => rw [e] at h; exact fun b F1 H1 s r1 o => k op δ1 b F1 H1 s r1 o (h.up s)
  | ex x δ1 => rw [e] at h; exact fun F' H' cls d s' r x => h σ F' H' cls d s' r x
  | bad => rw [e] at h; exact h.elim
/-! #### blocks -/
def cNext : MS := fun δ => .nx δ
def cSeq (f g : MS) : MS := fun δ => match f δ with
  | .nx δ' => g δ'
  | r => r
section
variable {X : Cx} {st : Stmt} {rest : List Stmt} {f g : MS} {e : Expr} {fe : M Op} {pos : Pos}
theorem dss_nil : DSs X [] cNext := ⟨fun W tk => PSs.weak pss_nil fun pins s σ H D I h => by
  obtain ⟨G, F, δ, r, h⟩ := h
  exact h σ F H .refl r⟩
theorem dss_cons (h1 : DS X st f) (h2 : DSs X rest g) : DSs X (st :: rest) (cSeq f g) := by
  refine ⟨fun W tk => PSs.weak (pss_cons (h1.run W tk) (h2.run W tk)) fun pins s σ H D I h => ?_⟩
  obtain ⟨G, F, δ, r, h⟩ := h
  refine ⟨G, F, δ, r, ?_⟩
  unfold cSeq at h
  cases e : f δ with
  | nx δ' => rw [e] at h; exact fun σ' F' H' s' r' => ⟨G, F', δ', r', h.up s'⟩
  | rt o δ' => rw [e] at h; exact h
  | bk δ' => rw [e] at h; exact h
  | ct δ' => rw [e] at h; exact h
  | ex x δ' => rw [e] at h; exact h
  | bad => rw [e] at h; exact h
def cBad : MS := fun _ => .bad
theorem ds_never : DS X st cBad := ⟨fun W tk => PS.weak ps_never fun pins s σ H D I h => by
  obtain ⟨G, F, δ, r, h⟩ := h
  exact h⟩
theorem ds_pass : DS X (.Pass pos) cNext := ⟨fun W tk => PS.weak ps_pass fun pins s σ H D I h => by
  obtain ⟨G, F, δ, r, h⟩ := h
  exact h σ F H .refl r⟩
def cBreak : MS := fun δ => .bk δ
def cCont : MS := fun δ => .ct δ
theorem ds_break : DS X (.Break pos) cBreak := ⟨fun W tk => PS.weak ps_break fun pins s σ H D I h => by
  obtain ⟨G, F, δ, r, h⟩ := h
  exact h σ F H .refl r⟩
theorem ds_cont : DS X (.Continue pos) cCont := ⟨fun W tk => PS.weak ps_continue fun pins s σ H D I h => by
  obtain ⟨G, F, δ, r, h⟩ := h
  exact h σ F H .refl r⟩
def cRet (fe : M Op) : MS := MS.of fe fun o δ => .rt o δ
theorem ds_ret (he : DE X e fe) : DS X (.Return (some e) pos) (cRet fe) := by
  refine ⟨fun W tk => PS.weak (ps_ret (he.run W tk)) fun pins s σ H D I h => ?_⟩
  obtain ⟨G, F, δ, r, h⟩ := h
  exact stE r h fun op δ1 v F1 H1 s1 r1 q1 h => h v σ F1 H1 .refl r1 q1
def cRetN : MS := fun δ => .rt (.val .non) δ
theorem ds_retN : DS X (.Return none pos) cRetN := ⟨fun W tk => PS.weak ps_retN fun pins s σ H D I h => by
  obtain ⟨G, F, δ, r, h⟩ := h
  exact h .non σ F H .refl r (show Rep X.K F .non .non from rep_non)⟩
def cDrop (fe : M Op) : MS := MS.of fe fun _ δ => .nx δ
/-- no comprehension -/
def notComp : Expr → Bool
  | .ListComp .. => false | .SetComp .. => false | .DictComp .. => false
  | _ => true
theorem swaps_no {v : Expr} {t : Option Expr} {l : Nat} {env : Env} (h : notComp v = true) : swapsWith v t l env = pure false := by
  cases v <;> first | rfl | cases h
theorem ds_expr (he : DE X e fe) (hn : notComp e = true) : DS X (.Expr e pos) (cDrop fe) := by
  refine ⟨fun W tk => PS.weak (ps_expr (he.run W tk) (swaps_no hn)) fun pins s σ H D I h => ?_⟩
  obtain ⟨G, F, δ, r, h⟩ := h
  exact stE r h fun op δ1 v F1 H1 s1 r1 q1 h => h σ F1 H1 .refl r1
def cIfS (c : M Bool) (f g : MS) : MS := MS.of c fun b => if b = true then f else g
theorem ds_if {c : Expr} {fc : M Bool} {a b : List Stmt} (hc : DT X c fc) (ha : DSs X a f) (hb : DSs X b g) : DS X (.If c a b pos) (cIfS fc f g) := by
  refine ⟨fun W tk => PS.weak (ps_if (hc.run W tk) (ha.run W tk) (hb.run W tk)) fun pins s σ H D I h => ?_⟩
  obtain ⟨G, F, δ, r, h⟩ := h
  refine stT r h fun k δ1 F1 H1 s1 r1 h => ?_
  cases k with
  | true => exact ⟨G, F1, δ1, r1, h⟩
  | false => exact ⟨G, F1, δ1, r1, h⟩
/-! #### name = value -/
def setN (i : Nat) : Op → MS
  | .val d => fun δ => .nx (δ.set i (.val d))
  | .fresh d => fun δ => .nx (δ.set i (.own false d))
  | .place j => MS.of (esc (.place j)) fun d δ => .nx (δ.set i (.val d))
theorem setN_ok {K : PySem.W.Frag} {G : GP} {F H : Hp} {σ : St} {δ : EnvS} {W : WX} {i : Nat} {op : Op} {v : V} {D : Ends} (r : Rel K G F H σ δ) (q : OpRep K σ G F H δ op v) (h : SatS K G F W (setN i op δ) D) : D.nx (σ.set i (some v)) H := by
  cases op with
  | val d => exact h _ F H .refl (r.setVal q)
  | fresh d =>
    obtain ⟨a, rfl, h1, h2, h3, h4⟩ := q
    exact h _ F H .refl (r.setOwn h1 h2 h3 h4)
  | place j =>
    have h : SatS K G F W (MS.of (esc (.place j)) (fun d δ => .nx (δ.set i (.val d))) δ) D := h
    unfold MS.of at h
    cases e : esc (.place j) δ with
    | ok d δ' =>
      rw [e] at h
      obtain ⟨F', s, r', p⟩ := esc_ok r q e
      exact h _ F' H s (r'.setVal p)
    | ex x δ' => exact absurd e esc_never
    | bad => rw [e] at h; exact h.elim
def cAsg (i : Nat) (fe : M Op) : MS := MS.of fe (setN i)
theorem ds_set {i : Nat} {x : Str} {pos' : Pos} (hN : X.N.Nodup) (hi : X.N[i]? = some x) (hx : Loc X.env.scope x) (he : DE X e fe) (hs : swapsWith e (some (.Name x pos')) pos.line X.env = pure false) (hf : X.fn x = true ∨ X.env.scope.names.lookup x = some .local) :
    DS X (.Assign [.Name x pos'] e pos) (cAsg i fe) := by
  refine ⟨fun W tk => PS.weak (ps_set hN hi hx (he.run W tk) hs hf) fun pins s σ H D I h => ?_⟩
  obtain ⟨G, F, δ, r, h⟩ := h
  exact stE r h fun op δ1 v F1 H1 s1 r1 q1 h => setN_ok r1 q1 h
end
/-! ### loops -/
/-- what was open ahead of a loop is open behind each turn -/
def maskE : EnvS → EnvS → EnvS
  | Slot.none :: m, _ :: δ => .none :: maskE m δ
  | _ :: m, s :: δ => s :: maskE m δ
  | _, δ => δ
theorem maskE_length : ∀ (m δ : EnvS), (maskE m δ).length = δ.length
  | [], δ => by cases δ <;> rfl
  | s :: m, [] => by cases s <;> rfl
  | s :: m, t :: δ => by cases s <;> simp [maskE, maskE_length m δ]
theorem maskE_some : ∀ (m δ : EnvS) (i : Nat) (s : Slot), (maskE m δ)[i]? = some s → s = .none ∨ δ[i]? = some s
  | [], δ, i, s, h => by cases δ <;> exact .inr h
  | t :: m, [], i, s, h => by cases t <;> exact .inr h
  | t :: m, u :: δ, 0, s, h => by cases t <;> simp [maskE] at h ⊢ <;> simp [h]
  | t :: m, u :: δ, i + 1, s, h => by
    cases t <;> simp only [maskE, List.getElem?_cons_succ] at h ⊢ <;> exact maskE_some m δ i s h
theorem Rel.mask {K : PySem.W.Frag} {G : GP} {F H : Hp} {σ : St} {δ : EnvS} (r : Rel K G F H σ δ) (m : EnvS) : Rel K G F H σ (maskE m δ) := r.less (maskE_length m δ) (maskE_some m δ)
def whileN (m : EnvS) (c : M Bool) (body : MS) : Nat → MS
  | 0 => fun _ => .bad
  | n + 1 => MS.of c fun b δ => if b = true then (match body δ with
    | .nx δ' => whileN m c body n (maskE m δ')
    | .ct δ' => whileN m c body n (maskE m δ')
    | .bk δ' => .nx (maskE m δ')
    | r => r) else .nx δ
def cWhile (n : Nat) (c : M Bool) (body : MS) : MS := fun δ => whileN δ c body n δ
theorem ds_while {X : Cx} {c : Expr} {body : List Stmt} {fc : M Bool} {fb : MS} {pos : Pos} (n : Nat) (hp : PassesOwn (model X.prog X.w) X.A X.env X.xe) (hc : DT X c fc) (hb : DSs X body fb) : DS X (.While c body [] pos) (cWhile n fc fb) := by
  refine ⟨fun W tk => PS.weak (ps_while hp (hc.run W tk) (hb.run W tk)) fun pins s σ H D I h => ?_⟩
  obtain ⟨G, F, δ, r, h⟩ := h
  refine ⟨fun k σ H => ∃ F1 δ1, Sb F F1 ∧ Rel X.K G F1 H σ δ1 ∧ SatS X.K G F1 W (whileN δ fc fb k δ1) D, ⟨n, F, δ, .refl, r, h⟩, ?_⟩
  rintro k σ H ⟨F1, δ1, s1, r1, h⟩
  cases k with
  | zero => exact h.elim
  | succ k =>
    refine stT r1 h fun b δ2 F2 H2 s2 r2 h => ?_
    cases b with
    | false => exact h σ F2 H2 .refl r2
    | true =>
      refine ⟨fun σ' H' => ∃ F1 δ1, Sb F F1 ∧ Rel X.K G F1 H' σ' δ1 ∧ SatS X.K G F1 W (whileN δ fc fb k δ1) D, fun σ' H' q => ⟨k, Nat.lt_succ_self k, q⟩, G, F2, δ2, r2, ?_⟩
      have h : SatS X.K G F2 W (match fb δ2 with | .nx δ' => whileN δ fc fb k (maskE δ δ') | .ct δ' => whileN δ fc fb k (maskE δ δ') | .bk δ' => .nx (maskE δ δ') | r => r) D := h
      have s12 := s1.trans s2
      cases e : fb δ2 with
      | nx δ' => rw [e] at h; exact fun σ' F' H' s' r' => ⟨F', _, s12.trans s', r'.mask δ, h.up s'⟩
      | ct δ' => rw [e] at h; exact fun σ' F' H' s' r' => ⟨F', _, s12.trans s', r'.mask δ, h.up s'⟩
      | bk δ' => rw [e] at h; exact fun σ' F' H' s' r' => h σ' F' H' s' (r'.mask δ)
      | rt o δ' => rw [e] at h; exact h
      | ex x δ' => rw [e] at h; exact h
      | bad => rw [e] at h; exact h
/-- J walks over ds while what is frozen stays -/
def ItOk (K : PySem.W.Frag) (F : Hp) (ds : List D) (J : It) : Prop :=
  ∃ (Gd : Hp → Prop) (Y : Nat → Hp → V → Hp → Prop), Walk J ds.length Gd Y ∧ (∀ H, Sb F H → Gd H) ∧ ∀ i H x H' F1, i < ds.length → Sb F F1 → Sb F1 H → Y i H x H' →
    ∃ d, ds[i]? = some d ∧ ((H' = H ∧ Rep K F1 d x) ∨ (∃ T vs ys, x = .ref T ∧ H T = none ∧ H' = upd H T (.tup vs) ∧ d = .tup ys ∧ RepL K F1 ys vs) ∨
      ∀ (G : GP) (σ : St) (δ : EnvS), Rel K G F1 H σ δ → ∃ F2, Sb F1 F2 ∧ Rel K G F2 H' σ δ ∧ Rep K F2 d x)
def tI (K : PySem.W.Frag) (f : M (List D)) (W : WX) : TI := fun σ H Q => ∃ G F δ, Rel K G F H σ δ ∧ Sat K G F σ W (f δ) (fun F' _ _ ds J => ItOk K F' ds J) Q
structure DI (X : Cx) (tg iter : Expr) (f : M (List D)) : Prop where
  run : ∀ W, Takes X W → PI X tg iter (tI X.K f W)
theorem PI.weak {X : Cx} {tg iter : Expr} {t t' : TI} (h : PI X tg iter t) (k : ∀ pins s σ H R, Inv X pins σ H s → t' σ H R → t σ H R) : PI X tg iter t' := ⟨fun pins s σ H R I q => h.run pins s σ H R I (k pins s σ H R I q)⟩
/-- an item that comes -/
theorem item_ok {K : PySem.W.Frag} {G : GP} {F H H' : Hp} {σ : St} {δ : EnvS} {d : D} {x : V} (r : Rel K G F H σ δ) (h : (H' = H ∧ Rep K F d x) ∨ (∃ T vs ys, x = .ref T ∧ H T = none ∧ H' = upd H T (.tup vs) ∧ d = .tup ys ∧ RepL K F ys vs) ∨
      ∀ (G : GP) (σ : St) (δ : EnvS), Rel K G F H σ δ → ∃ F2, Sb F F2 ∧ Rel K G F2 H' σ δ ∧ Rep K F2 d x) :
    ∃ F', Sb F F' ∧ Rel K G F' H' σ δ ∧ Rep K F' d x := by
  rcases h with ⟨rfl, h⟩ | ⟨T, vs, ys, rfl, n, rfl, rfl, h⟩ | h
  · exact ⟨F, .refl, r, h⟩
  · have nF := r.subF.nn n
    refine ⟨upd F T (.tup vs), .upd_new nF, r.allocF n, ?_⟩
    unfold Rep
    exact ⟨T, vs, rfl, upd_same, RepL.sub (.upd_new nF) _ _ h⟩
  · exact h G σ δ r
def forL (m : EnvS) (T : Tgt) (body : MS) : List D → MS
  | [] => fun δ => .nx δ
  | d :: ds => MS.of (tgF T d) fun _ δ => match body δ with
    | .nx δ' => forL m T body ds (maskE m δ')
    | .ct δ' => forL m T body ds (maskE m δ')
    | .bk δ' => .nx (maskE m δ')
    | r => r
/-- the target's slots are open ahead of the loop -/
def cFor (T : Tgt) (it : M (List D)) (body : MS) : MS := MS.of it fun ds δ => forL (wipeE δ T.slots) T body ds (wipeE δ T.slots)
theorem ds_for {X : Cx} {tg iter : Expr} {body : List Stmt} {T : Tgt} {fi : M (List D)} {fb : MS} {pos : Pos} (hp : PassesOwn (model X.prog X.w) X.A X.env X.xe) (hc : X.calm = true) (hi : DI X tg iter fi) (hg : PG X tg (gT X.K T)) (hb : DSs X body fb)
    (hs : ∀ x, foldedSetIterable iter X.env x = pure x) : DS X (.For tg iter body [] pos) (cFor T fi fb) := by
  refine ⟨fun W tk => PS.weak (ps_for hp hc (hi.run W tk) hg (hb.run W tk) hs) fun pins s σ H D I h => ?_⟩
  obtain ⟨G, F, δ, r, h⟩ := h
  refine ⟨G, F, δ, r, ?_⟩
  unfold cFor MS.of at h
  cases e : fi δ with
  | bad => rw [e] at h; exact h.elim
  | ex x δ' => rw [e] at h; exact fun F' H' cls d s' r x => h σ F' H' cls d s' r x
  | ok ds δ1 =>
    rw [e] at h
    intro J F1 H1 s1 r1 it
    have it : ItOk X.K F1 ds J := it
    obtain ⟨Gd, Y, wk, hG, hY⟩ := it
    have h : SatS X.K G F W (forL (wipeE δ1 T.slots) T fb ds (wipeE δ1 T.slots)) D := h
    refine ⟨fun i k σ H => ∃ F2 δ2, Sb F1 F2 ∧ Rel X.K G F2 H σ δ2 ∧ i ≤ ds.length ∧ k = ds.length - i ∧ SatS X.K G F2 W (forL (wipeE δ1 T.slots) T fb (ds.drop i) δ2) D, ⟨ds.length, F1, _, .refl, r1.wipe T.slots, Nat.zero_le _, rfl, h.up s1⟩, ?_⟩
    rintro i k σ H ⟨F2, δ2, s2, r2, hi, rfl, h⟩
    have gd := hG H (s2.trans r2.subF)
    by_cases hlt : i < ds.length
    · right
      refine ⟨wk.goes i H hlt gd, fun σ' H' => ∃ F3 δ3, Sb F1 F3 ∧ Rel X.K G F3 H' σ' δ3 ∧ SatS X.K G F3 W (forL (wipeE δ1 T.slots) T fb (ds.drop (i + 1)) δ3) D, fun σ' H' q => ?_, fun x H' hy => ?_⟩
      · obtain ⟨F3, δ3, q1, q2, q3⟩ := q
        exact ⟨ds.length - (i + 1), by omega, F3, δ3, q1, q2, hlt, rfl, q3⟩
      · obtain ⟨d, hd, hx⟩ := hY i H x H' F2 hlt s2 r2.subF (wk.yields i H x H' hlt gd hy)
        obtain ⟨F3, s3, r3, p3⟩ := item_ok r2 hx
        have ed : ds.drop i = d :: ds.drop (i + 1) := by
          rw [List.drop_eq_getElem_cons hlt]
          rw [List.getElem?_eq_getElem hlt] at hd
          cases hd; rfl
        rw [ed] at h
        have h : SatS X.K G F2 W (MS.of (tgF T d) (fun _ δ => match fb δ with | .nx δ' => forL (wipeE δ1 T.slots) T fb (ds.drop (i + 1)) (maskE (wipeE δ1 T.slots) δ') | .ct δ' => forL (wipeE δ1 T.slots) T fb (ds.drop (i + 1)) (maskE (wipeE δ1 T.slots) δ') | .bk δ' => .nx (maskE (wipeE δ1 T.slots) δ') | r => r) δ2) D := h
        unfold MS.of at h
        rcases tgF_ok (T := T) (d := d) (δ := δ2) with ⟨δ3, e3⟩ | e3
        · rw [e3] at h
          refine gT_ok r3 p3 e3 fun σ' r4 _ => ?_
          refine ⟨G, F3, δ3, r4, ?_⟩
          have h := h.up s3
          have s23 := s2.trans s3
          dsimp only at h
          cases e4 : fb δ3 with
          | nx δ' => rw [e4] at h; exact fun σ'' F' H'' s' r' => ⟨F', _, s23.trans s', r'.mask _, h.up s'⟩
          | ct δ' => rw [e4] at h; exact fun σ'' F' H'' s' r' => ⟨F', _, s23.trans s', r'.mask _, h.up s'⟩
          | bk δ' => rw [e4] at h; exact fun σ'' F' H'' s' r' => h σ'' F' H'' s' (r'.mask _)
          | rt o δ' => rw [e4] at h; exact h
          | ex x δ' => rw [e4] at h; exact h
          | bad => rw [e4] at h; exact h
        · rw [e3] at h; exact h.elim
    · left
      have hie : i = ds.length := by omega
      subst hie
      refine ⟨wk.stops H gd, ?_⟩
      rw [List.drop_length] at h
      exact h σ F2 H .refl r2
end Ev
set_option Elab.async false
set_option linter.all false
set_option autoImplicit false
set_option maxRecDepth 100000
set_option maxHeartbeats 4000000
namespace Ev
open PySem PySem.Spec L2
open PyProof.Rows hiding St
def keepVal : Option Slot → Slot
  | some (.val d) => .val d
  | _ => .none
def restoreE (δ0 δ : EnvS) : List Nat → EnvS
  | [] => δ
  | i :: is => (restoreE δ0 δ is).set i (keepVal δ0[i]?)
theorem restoreE_length (δ0 δ : EnvS) : ∀ is, (restoreE δ0 δ is).length = δ.length
  | [] => rfl
  | i :: is => by unfold restoreE; rw [List.length_set, restoreE_length δ0 δ is]
theorem restoreE_some {δ0 δ : EnvS} {j : Nat} {s : Slot} : ∀ {is : List Nat}, (restoreE δ0 δ is)[j]? = some s → (j ∈ is ∧ s = keepVal δ0[j]?) ∨ (j ∉ is ∧ δ[j]? = some s)
  | [], h => .inr ⟨by simp, h⟩
  | i :: is, h => by
    unfold restoreE at h
    by_cases hj : j = i
    · subst hj
      have hi : j < (restoreE δ0 δ is).length := by
        have := (List.getElem?_eq_some_iff.mp h).1
        rwa [List.length_set] at this
      rw [List.getElem?_set_self hi] at h
      cases h; exact .inl ⟨by simp, rfl⟩
    · rw [List.getElem?_set_ne (Ne.symm hj)] at h
      rcases restoreE_some h with ⟨h1, h2⟩ | ⟨h1, h2⟩
      · exact .inl ⟨by simp [h1], h2⟩
      · exact .inr ⟨by simp [hj, h1], h2⟩
theorem Rel.restore {K : PySem.W.Frag} {G G0 : GP} {F F0 H H0 : Hp} {σ : St} {δ δ0 : EnvS} {vs : List Nat} (r : Rel K G F H (L2.wipe σ vs) δ) (r0 : Rel K G0 F0 H0 σ δ0) (s : Sb F0 F) : Rel K G F H σ (restoreE δ0 δ vs) := by
  have own : ∀ {j : Nat} {x : Slot}, (restoreE δ0 δ vs)[j]? = some x → x.isOwn = true → j ∉ vs ∧ δ[j]? = some x := fun {j x} h o => by
    rcases restoreE_some h with ⟨_, rfl⟩ | h
    · unfold keepVal at o; split at o <;> cases o
    · exact h
  refine ⟨r.subF, r.subG, r.disj, fun j x h => ?_, fun i j x y a h1 o1 h2 o2 p1 p2 => ?_, ?_, fun j x q => ?_⟩
  · rcases restoreE_some h with ⟨hv, rfl⟩ | ⟨hv, h⟩
    · unfold keepVal
      split
      · rename_i d hd
        obtain ⟨v, z1, z2⟩ := r0.slot j _ hd
        exact ⟨v, z1, Rep.sub s _ _ z2⟩
      · trivial
    · have z := r.slot j x h
      cases x with
      | none => trivial
      | val d => obtain ⟨v, z1, z2⟩ := z; exact ⟨v, by rw [← wipe_out hv]; exact z1, z2⟩
      | own io d => obtain ⟨v, z1, z2⟩ := z; exact ⟨v, by rw [← wipe_out hv]; exact z1, z2⟩
  · obtain ⟨n1, e1⟩ := own h1 o1
    obtain ⟨n2, e2⟩ := own h2 o2
    exact r.inj i j x y a e1 o1 e2 o2 (by rw [wipe_out n1]; exact p1) (by rw [wipe_out n2]; exact p2)
  · rw [restoreE_length]
    have := r.len
    rwa [wipe_length] at this
  · obtain ⟨n1, e1⟩ := own q rfl
    obtain ⟨a, z1, z2⟩ := r.pin j x e1
    rw [wipe_out n1] at z1
    exact ⟨a, z1, z2⟩
/-- what must stay is another thing now -/
theorem Rel.bump {K : PySem.W.Frag} {G : GP} {F H : Hp} {σ : St} {δ : EnvS} {p : Addr} {o o' : HO} (nG : G p = none) (r : Rel K (G.put p o) F H σ δ) : Rel K (G.put p o') F (upd H p o') σ δ := by
  have nF : F p = none := r.disj p o GP.same
  refine r.move .refl (r.subF.upd_right nF) ?_ (fun a u q => ?_) fun a q => ?_
  · intro a u e
    have e : G.put p o' a = some u := e
    by_cases h : a = p
    · subst h; rw [GP.same] at e; rw [upd_same]; exact e
    · rw [GP.ne h] at e; rw [upd_ne h]; exact r.subG a u (by show G.put p o a = _; rw [GP.ne h]; exact e)
  · by_cases h : a = p
    · subst h; exact nF
    · rw [GP.ne h] at q; exact r.disj a u (by rw [GP.ne h]; exact q)
  · obtain ⟨f, g, d, ob⟩ := r.own_of q
    have ne : a ≠ p := fun z => by subst z; rw [GP.same] at g; cases g
    exact ⟨f, by rw [GP.ne ne]; rw [GP.ne ne] at g; exact g, upd_ne ne⟩
structure DTs (X : Cx) (ifs : List Expr) (f : M Bool) : Prop where
  run : ∀ W, Takes X W → PTs X ifs (tT X.K f W)
theorem PTs.weak {X : Cx} {ifs : List Expr} {t t' : TT} (h : PTs X ifs t) (k : ∀ pins s σ H Q, Inv X pins σ H s → t' σ H Q → t σ H Q) : PTs X ifs t' := ⟨fun pins s σ H Q I q => h.run pins s σ H Q I (k pins s σ H Q I q)⟩
theorem dts_nil {X : Cx} : DTs X [] (mOk true) := ⟨fun W tk => PTs.weak pts_nil fun pins s σ H Q I h => by
  obtain ⟨G, F, δ, r, h⟩ := h
  exact h true F H .refl r rfl⟩
theorem dts_one {X : Cx} {c : Expr} {f : M Bool} (h : DT X c f) : DTs X [c] f := ⟨fun W tk => pts_one (h.run W tk)⟩
/-- no exception leaves -/
def W0 : WX := fun _ _ _ _ => False
theorem takes0 {X : Cx} : Takes X W0 := fun u s' ⟨_, _, _, _, _, _, _, _, _, _, _, _, _, _, _, _, h⟩ => h.elim
def compL (vs : List Nat) (T : Tgt) (ft : M Bool) (fe : M Op) : List D → List D → M (List D)
  | [], acc => fun δ => .ok acc δ
  | d :: ds, acc => fun δ => M.bind (tgF T d) (fun _ => M.bind ft fun b => if b = true then M.bind fe (fun o => M.bind (esc o) fun e => fun δ' => if fits (acc.length + 1) then compL vs T ft fe ds (acc ++ [e]) (wipeE δ' vs) else .bad)
      else fun δ' => compL vs T ft fe ds acc (wipeE δ' vs)) δ
def cLc (vs : List Nat) (T : Tgt) (fi : M (List D)) (ft : M Bool) (fe : M Op) : M Op := M.bind fi fun ds => fun δ => match compL vs T ft fe ds [] (wipeE δ vs) with
  | .ok acc δ' => .ok (.fresh (.lst acc)) (restoreE δ δ' vs)
  | _ => .bad
theorem de_lc {X : Cx} {elt tg iter : Expr} {ifs : List Expr} {scope : Scope} {own : List (Str × Nat)} {pos : Pos} {T : Tgt} {fi : M (List D)} {ft : M Bool} {fe : M Op} (hc : X.calm = true) (hN : X.N.Nodup) (hi : DI X tg iter fi) (ok : BlkOk X.N X.env.scope scope own)
    (hg : ∀ (s : Shared) (H : Hp) (C : Addr) (cl : List (Str × Addr)) (fp : List Addr), PG (X.blk s H scope (compEnvC scope cl C X.env) fp) tg (gT X.K T)) (ht : ∀ (s : Shared) (H : Hp) (C : Addr) (cl : List (Str × Addr)) (fp : List Addr), DTs (X.blk s H scope (compEnvC scope cl C X.env) fp) ifs ft)
    (he : ∀ (s : Shared) (H : Hp) (C : Addr) (cl : List (Str × Addr)) (fp : List Addr), DE (X.blk s H scope (compEnvC scope cl C X.env) fp) elt fe) (hT : ∀ i ∈ T.slots, i ∈ own.map (·.2)) (hs : ∀ x, foldedSetIterable iter X.env x = pure x) :
    DE X (.ListComp elt [⟨tg, iter, ifs, 0⟩] scope pos) (cLc (own.map (·.2)) T fi ft fe) ∧
    ∀ (W : WX), Takes X W → ∀ (σ : St) (H : Hp) (Q : VK), tE X.K (cLc (own.map (·.2)) T fi ft fe) W σ H Q → tLc (tI X.K fi W) (gT X.K T) (tT X.K ft W0) (tE X.K fe W0) (own.map (·.2)) σ H Q := by
  have key : ∀ (W : WX), Takes X W → ∀ (σ : St) (H : Hp) (Q : VK), tE X.K (cLc (own.map (·.2)) T fi ft fe) W σ H Q → tLc (tI X.K fi W) (gT X.K T) (tT X.K ft W0) (tE X.K fe W0) (own.map (·.2)) σ H Q := by
    intro W tk σ H Q h
    obtain ⟨G, F, δ, r, h⟩ := h
    generalize hvs : own.map (·.2) = vs at *
    refine ⟨G, F, δ, r, ?_⟩
    unfold cLc M.bind at h
    cases e : fi δ with
    | bad => rw [e] at h; exact h.elim
    | ex x δ' => rw [e] at h; exact h
    | ok ds δ1 =>
      rw [e] at h
      intro J F1 H1 s1 r1 it
      have it : ItOk X.K F1 ds J := it
      obtain ⟨Gd, Y, wk, hG, hY⟩ := it
      intro Da nD
      cases ec : compL vs T ft fe ds [] (wipeE δ1 vs) with
      | bad => simp only [ec] at h; exact h.elim
      | ex x δ' => simp only [ec] at h; exact h.elim
      | ok accF δF =>
        simp only [ec] at h
        have nF : F1 Da = none := r1.subF.nn nD
        have nG : G Da = none := r1.subG.nn nD
        have hIt : ∀ H, Sb F1 H → Gd H := hG
        have start : Rel X.K (G.put Da (.lst [])) F1 (upd H1 Da (.lst [])) (wipe σ vs) (wipeE δ1 vs) :=
          ((r1.alloc nD).moreG (o := .lst []) upd_same nF (r1.not_own (o := .lst []) (.inr (.inr nD)))).wipeBoth vs
        refine ⟨fun i k H => ∃ F2 δ2 acc va, Sb F1 F2 ∧ Rel X.K (G.put Da (.lst va)) F2 H (wipe σ vs) δ2 ∧ RepL X.K F2 acc va ∧ i ≤ ds.length ∧ k = ds.length - i ∧ compL vs T ft fe (ds.drop i) acc δ2 = .ok accF δF,
          ⟨ds.length, F1, _, [], [], .refl, start, .nil, Nat.zero_le _, rfl, ec⟩, ?_⟩
        rintro i k H ⟨F2, δ2, acc, va, s2, r2, ra, hi', rfl, h2⟩
        have gd := hIt H (s2.trans r2.subF)
        by_cases hlt : i < ds.length
        · right
          refine ⟨wk.goes i H hlt gd, fun H' => ∃ F3 δ3 acc va, Sb F1 F3 ∧ Rel X.K (G.put Da (.lst va)) F3 H' (wipe σ vs) δ3 ∧ RepL X.K F3 acc va ∧ compL vs T ft fe (ds.drop (i + 1)) acc δ3 = .ok accF δF, fun H' q => ?_, fun x H' hy => ?_⟩
          · obtain ⟨F3, δ3, ac, va, q1, q2, q3, q4⟩ := q
            exact ⟨ds.length - (i + 1), by omega, F3, δ3, ac, va, q1, q2, q3, hlt, rfl, q4⟩
          · obtain ⟨d, hd, hx⟩ := hY i H x H' F2 hlt s2 r2.subF (wk.yields i H x H' hlt gd hy)
            obtain ⟨F3, s3, r3, p3⟩ := item_ok r2 hx
            have ed : ds.drop i = d :: ds.drop (i + 1) := by
              rw [List.drop_eq_getElem_cons hlt]
              rw [List.getElem?_eq_getElem hlt] at hd
              cases hd; rfl
            rw [ed] at h2
            unfold compL M.bind at h2
            rcases tgF_ok (T := T) (d := d) (δ := δ2) with ⟨δ3, e3⟩ | e3
            · rw [e3] at h2
              dsimp only at h2
              refine gT_ok r3 p3 e3 fun σ2 r4 hw => ?_
              have hw2 : wipe σ2 vs = wipe σ vs := by
                rw [hw vs hT]
                have : ∀ ws : List Nat, (∀ z ∈ ws, z ∈ vs) → ∀ (τ : St), wipe (wipe τ ws) vs = wipe τ vs := by
                  intro ws
                  induction ws with
                  | nil => intro _ τ; rfl
                  | cons z ws ih =>
                    intro hz τ
                    show wipe ((wipe τ ws).set z none) vs = wipe τ vs
                    rw [← wipe_comm, ih (fun y hy => hz y (List.mem_cons_of_mem _ hy))]
                    have : ∀ (us : List Nat), z ∈ us → (wipe τ us).set z none = wipe τ us := by
                      intro us
                      induction us with
                      | nil => intro h; cases h
                      | cons y us ih2 =>
                        intro h
                        show ((wipe τ us).set y none).set z none = (wipe τ us).set y none
                        by_cases hyz : y = z
                        · subst hyz; rw [List.set_set]
                        · rw [List.set_comm _ _ hyz, ih2 (by rcases List.mem_cons.mp h with h | h; exact absurd h.symm hyz; exact h)]
                    exact this vs (hz z List.mem_cons_self)
                exact this vs (fun _ h => h) σ
              refine ⟨hw2, G.put Da (.lst va), F3, δ3, r4, ?_⟩
              cases e4 : ft δ3 with
              | bad => rw [e4] at h2; cases h2
              | ex z δ' => rw [e4] at h2; cases h2
              | ok b δ4 =>
                rw [e4] at h2
                intro b' F4 H4 s4 r5 hb
                have hb : b = b' := hb
                subst hb
                cases b with
                | false =>
                  simp only [Bool.false_eq_true, if_false] at h2 ⊢
                  have r6 := r5.wipeBoth vs
                  rw [hw2] at r6
                  exact ⟨F4, _, acc, va, (s2.trans s3).trans s4, r6, RepL.sub (s3.trans s4) _ _ ra, h2⟩
                | true =>
                  simp only [if_true] at h2 ⊢
                  refine ⟨G.put Da (.lst va), F4, δ4, r5, ?_⟩
                  cases e5 : fe δ4 with
                  | bad => rw [e5] at h2; cases h2
                  | ex z δ' => rw [e5] at h2; cases h2
                  | ok op δ5 =>
                    rw [e5] at h2
                    dsimp only at h2
                    intro y F5 H5 s5 r6 q6
                    have q6 : OpRep X.K σ2 (G.put Da (.lst va)) F5 H5 δ5 op y := q6
                    cases e6 : esc op δ5 with
                    | bad => rw [e6] at h2; cases h2
                    | ex z δ' => exact absurd e6 esc_never
                    | ok ed δ6 =>
                      rw [e6] at h2
                      dsimp only at h2
                      obtain ⟨F6, s6, r7, p7⟩ := esc_ok r6 q6 e6
                      split at h2
                      · rename_i hf
                        have hD : H5 Da = some (.lst va) := r7.subG Da _ upd_same
                        refine ⟨va, hD, by rw [ra.length]; have := fits_le hf; omega, F6, _, acc ++ [ed], va ++ [y], ((((s2.trans s3).trans s4).trans s5).trans s6), ?_, ?_, h2⟩
                        · have r8 := (r7.bump (o' := .lst (va ++ [y])) nG).wipeBoth vs
                          rw [hw2] at r8
                          exact r8
                        · exact (RepL.sub (((s3.trans s4).trans s5).trans s6) _ _ ra).append (.one p7)
                      · cases h2
            · rw [e3] at h2; cases h2
        · left
          have hie : i = ds.length := by omega
          subst hie
          refine ⟨wk.stops H gd, ?_⟩
          rw [List.drop_length] at h2
          cases h2
          have r3 : Rel X.K (G.put Da (.lst va)) F2 H σ (restoreE δ1 δF vs) := r2.restore r1 s2
          exact h (.ref Da) F2 H (s1.trans s2) (r3.lessG (.upd_new nG)) ⟨Da, rfl, r3.disj Da _ upd_same, nG, ⟨va, r3.subG Da _ upd_same, ra⟩, r3.not_own (.inr (.inl upd_same))⟩
  refine ⟨⟨fun W tk => PE.weak (pe_lc (tt := tT X.K ft W0) (te := tE X.K fe W0) hc hN (hi.run W tk) ok hg (fun s H C cl fp => (ht s H C cl fp).run W0 takes0) (fun s H C cl fp => (he s H C cl fp).run W0 takes0) hs) fun pins s σ H Q I h => key W tk σ H Q h⟩, key⟩
/-- name = [..] on one line -/
theorem ds_setLc {X : Cx} {i : Nat} {y : Str} {py spos : Pos} {elt tg iter : Expr} {ifs : List Expr} {scope : Scope} {own : List (Str × Nat)} {pos : Pos} {T : Tgt} {fi : M (List D)} {ft : M Bool} {fe : M Op} (hc : X.calm = true) (hN : X.N.Nodup)
    (hy : X.N[i]? = some y) (hyl : X.env.scope.names.lookup y = some .local) (hsw : swapsWith (.ListComp elt [⟨tg, iter, ifs, 0⟩] scope pos) (some (.Name y py)) spos.line X.env = pure true) (hi : DI X tg iter fi) (ok : BlkOk X.N X.env.scope scope own)
    (hg : ∀ (s : Shared) (H : Hp) (C : Addr) (cl : List (Str × Addr)) (fp : List Addr), PG (X.blk s H scope (compEnvC scope cl C X.env) fp) tg (gT X.K T)) (ht : ∀ (s : Shared) (H : Hp) (C : Addr) (cl : List (Str × Addr)) (fp : List Addr), DTs (X.blk s H scope (compEnvC scope cl C X.env) fp) ifs ft)
    (he : ∀ (s : Shared) (H : Hp) (C : Addr) (cl : List (Str × Addr)) (fp : List Addr), DE (X.blk s H scope (compEnvC scope cl C X.env) fp) elt fe) (hT : ∀ i ∈ T.slots, i ∈ own.map (·.2)) (hs : ∀ x, foldedSetIterable iter X.env x = pure x) :
    DS X (.Assign [.Name y py] (.ListComp elt [⟨tg, iter, ifs, 0⟩] scope pos) spos) (cAsg i (cLc (own.map (·.2)) T fi ft fe)) := by
  refine ⟨fun W tk => PS.weak (ps_setLc (tt := tT X.K ft W0) (te := tE X.K fe W0) hc hN hy hyl hsw (hi.run W tk) ok hg (fun s H C cl fp => (ht s H C cl fp).run W0 takes0) (fun s H C cl fp => (he s H C cl fp).run W0 takes0) hs) fun pins s σ H D I h => ?_⟩
  obtain ⟨G, F, δ, r, h⟩ := h
  refine (de_lc (pos := pos) hc hN hi ok hg ht he hT hs).2 W tk σ H _ ?_
  exact stE r h fun op δ1 v F1 H1 s1 r1 q1 h => setN_ok r1 q1 h
end Ev
set_option Elab.async false
set_option linter.all false
set_option autoImplicit false
set_option maxRecDepth 100000
set_option maxHeartbeats 4000000
namespace Ev
open PySem PySem.Spec L2
open PyProof.Rows hiding St
/-! ### what stands under zip and enumerate: a list, a tuple, a text -/
inductive Sk where
  | lst (a : Addr) | tup (a : Addr) | str (x : Str) (t : Tok)
def Sk.v : Sk → Value
  | .lst a => .ref a
  | .tup a => .ref a
  | .str x t => .str x t
def Sk.ok (K : PySem.W.Frag) (H : Hp) (xs : List V) : Sk → Prop
  | .lst a => SqL K H a xs
  | .tup a => SqT K H a xs
  | .str x _ => xs = x.cps.toList.map fun c => V.str ⟨#[c]⟩
def Sk.tn (it : Addr) (i : Nat) (h : Heap) : Sk → Prop
  | .lst a => h.IsListIter it a i
  | .tup a => h.IsTupleIter it a i
  | .str x t => h.IsStrIter it (strIterType x) x t i
def Sk.obj : Sk → Obj
  | .lst a => { cls := .type "list_iterator", data := .fields #[.ref a, .int 0 0] }
  | .tup a => { cls := .type "tuple_iterator", data := .fields #[.ref a, .int 0 0] }
  | .str x t => { cls := .type (strIterType x), data := .fields #[.str x t, .int 0 0] }
def Sk.ins : Sk → List Addr
  | .lst a => [a]
  | .tup a => [a]
  | .str _ _ => []
theorem Sk.tn0 {k : Sk} {h : Heap} {it : Addr} (e : h.get? it = some k.obj) : k.tn it 0 h := by
  cases k with
  | lst a => exact ⟨_, e, rfl, rfl⟩
  | tup a => exact ⟨_, e, rfl, rfl⟩
  | str x t => exact ⟨_, e, rfl, rfl⟩
theorem Sk.tn_obj {k : Sk} {it : Addr} {i : Nat} {h : Heap} (s : k.tn it i h) : ∃ o, h.get? it = some o ∧ ∀ v, o.data ≠ .cell v := by
  cases k with
  | lst a => obtain ⟨o, e, _, d⟩ := s; exact ⟨o, e, fun v q => by rw [d] at q; cases q⟩
  | tup a => obtain ⟨o, e, _, d⟩ := s; exact ⟨o, e, fun v q => by rw [d] at q; cases q⟩
  | str x t => obtain ⟨o, e, _, d⟩ := s; exact ⟨o, e, fun v q => by rw [d] at q; cases q⟩
theorem Sk.tn_keep {k : Sk} {it : Addr} {i : Nat} {h h' : Heap} (s : k.tn it i h) (e : ∀ o, h.get? it = some o → h'.get? it = some o) : k.tn it i h' := by
  cases k with
  | lst a => obtain ⟨o, q, r⟩ := s; exact ⟨o, e o q, r⟩
  | tup a => obtain ⟨o, q, r⟩ := s; exact ⟨o, e o q, r⟩
  | str x t => obtain ⟨o, q, r⟩ := s; exact ⟨o, e o q, r⟩
section
variable {X : Cx} {pins : List (Addr × Obj)} {σ : St} {H : Hp} {s : Shared}
theorem Sk.inj {k : Sk} {xs ys : List V} (I : Inv X pins σ H s) (h : k.ok X.K H xs) (h' : k.ok X.K H ys) : xs = ys := by
  cases k with
  | lst a => exact I.list_inj h h'
  | tup a => exact I.tuple_inj h h'
  | str x t => exact (show xs = _ from h).trans (show ys = _ from h').symm
theorem Sk.lt {k : Sk} {xs : List V} (I : Inv X pins σ H s) (h : k.ok X.K H xs) : ∀ b ∈ k.ins, b < s.heap.objs.size := by
  cases k with
  | lst a => obtain ⟨its, r, p, _⟩ := I.list h; intro b hb; have : b = a := by simpa [Sk.ins] using hb
             subst this; exact p.lt
  | tup a => obtain ⟨its, r, p, _⟩ := I.tuple h; intro b hb; have : b = a := by simpa [Sk.ins] using hb
             subst this; exact p.lt
  | str x t => intro b hb; cases hb
/-- a thing that is read is no record of the iterator's -/
theorem Sk.apart {k : Sk} {xs : List V} {b c : Addr} {o : Obj} {cl : String} (I : Inv X pins σ H s) (h : k.ok X.K H xs) (hc : s.heap.get? c = some o) (hcl : o.cls = .type cl) (n1 : cl ≠ "list") (n2 : cl ≠ "tuple") (hb : b ∈ k.ins) : b ≠ c := by
  intro e
  subst e
  cases k with
  | lst a =>
    have : b = a := by simpa [Sk.ins] using hb
    subst this
    obtain ⟨its, r, ⟨o', n, e1, e2, e3⟩, _⟩ := I.list h
    rw [hc] at e1; cases e1
    rw [hcl] at e2; injection e2 with e2; exact n1 e2
  | tup a =>
    have : b = a := by simpa [Sk.ins] using hb
    subst this
    obtain ⟨its, r, ⟨o', e1, e2, _⟩, _⟩ := I.tuple h
    rw [hc] at e1; cases e1
    rw [hcl] at e2; injection e2 with e2; exact n2 e2
  | str x t => cases hb
/-- a thing that is read is tracked or the module's: no record of ours -/
theorem Sk.apartF {k : Sk} {xs : List V} {b c : Addr} (I : Inv X pins σ H s) (h : k.ok X.K H xs) (hf : FpOk X pins H c) (hb : b ∈ k.ins) : b ≠ c := by
  intro e
  subst e
  have young : ∀ o, X.K.lookup b = some o → False := fun o q => by
    have e1 := I.ok.mod.kin b o q
    rcases hf.2.2.2.1 with z | z
    · exact I.ok.noex b o e1 z
    · exact absurd (Nat.lt_of_lt_of_le (Heap.lt_size e1) (Nat.le_trans I.ok.bsz z)) (Nat.lt_irrefl _)
  cases k with
  | lst a =>
    have : b = a := by simpa [Sk.ins] using hb
    subst this
    rcases h with (q | ⟨o, q⟩) | ⟨o, its, n, q, _⟩
    · rw [hf.1] at q; cases q
    · rw [hf.1] at q; cases q
    · exact young o q
  | tup a =>
    have : b = a := by simpa [Sk.ins] using hb
    subst this
    rcases h with (q | ⟨o, q⟩) | ⟨o, its, n, q, _⟩
    · rw [hf.1] at q; cases q
    · rw [hf.1] at q; cases q
    · exact young o q
  | str x t => cases hb
/-- what its iterator draws -/
theorem Sk.draws {k : Sk} {xs : List V} {it : Addr} (I : Inv X pins σ H s) (hh : X.A.handled = none) (h : k.ok X.K H xs) (hne : it ∉ k.ins) :
    ∃ (P : Nat → Value → Prop) (St : Nat → Heap → Prop), Draws X.prog X.w X.A.in1 it (it :: k.ins) xs.length P St ∧ (∀ i, k.tn it i s.heap → St i s.heap) ∧ (∀ i h, St i h → k.tn it i h) ∧
      ∀ i v, P i v → ∃ x, xs[i]? = some x ∧ RelV x v := by
  cases k with
  | lst a =>
    obtain ⟨its, r, p, _⟩ := I.list h
    have ne : a ≠ it := fun e => hne (by simp [Sk.ins, e])
    refine ⟨fun i v => its.toArray[i]? = some v, fun i h => h.IsListIter it a i ∧ h.IsList a its.toArray, ?_, fun i st => ⟨st, p.isList⟩, fun i h st => st.1, fun i v hv => ?_⟩
    · have := Draws.list (prog := X.prog) (w := X.w) (A := X.A.in1) hh it a ne its.toArray
      rw [List.size_toArray, ← r.length] at this
      exact this
    · have hv : its.toArray[i]? = some v := hv
      rw [List.getElem?_toArray] at hv
      obtain ⟨hi, _⟩ := List.getElem?_eq_some_iff.mp hv
      have hx : xs[i]? = some (xs[i]'(by rw [r.length]; exact hi)) := List.getElem?_eq_getElem _
      obtain ⟨u, hu, ru⟩ := r.get hx
      rw [hv] at hu; cases hu
      exact ⟨_, hx, ru⟩
  | tup a =>
    obtain ⟨its, r, p, _⟩ := I.tuple h
    have ne : a ≠ it := fun e => hne (by simp [Sk.ins, e])
    refine ⟨fun i v => its.toArray[i]? = some v, fun i h => h.IsTupleIter it a i ∧ h.IsTuple a its.toArray, ?_, fun i st => ⟨st, p⟩, fun i h st => st.1, fun i v hv => ?_⟩
    · have := Draws.tuple (prog := X.prog) (w := X.w) (A := X.A.in1) hh it a ne its.toArray
      rw [List.size_toArray, ← r.length] at this
      exact this
    · have hv : its.toArray[i]? = some v := hv
      rw [List.getElem?_toArray] at hv
      obtain ⟨hi, _⟩ := List.getElem?_eq_some_iff.mp hv
      have hx : xs[i]? = some (xs[i]'(by rw [r.length]; exact hi)) := List.getElem?_eq_getElem _
      obtain ⟨u, hu, ru⟩ := r.get hx
      rw [hv] at hu; cases hu
      exact ⟨_, hx, ru⟩
  | str x t =>
    have h : xs = x.cps.toList.map fun c => V.str ⟨#[c]⟩ := h
    subst h
    refine ⟨fun i v => ∃ c u, x.cps[i]? = some c ∧ v = .str ⟨#[c]⟩ u, fun i h => h.IsStrIter it (strIterType x) x t i, ?_, fun i st => st, fun i h st => st, fun i v hv => ?_⟩
    · have := Draws.text (prog := X.prog) (w := X.w) (A := X.A.in1) hh it x t
      rw [show (x.cps.toList.map fun c => V.str ⟨#[c]⟩).length = x.cps.size by simp]
      exact this
    · obtain ⟨c, u, hc, rfl⟩ := hv
      have hc' : x.cps.toList[i]? = some c := by simpa using hc
      exact ⟨.str ⟨#[c]⟩, by rw [List.getElem?_map, hc']; rfl, u, rfl⟩
theorem Sk.begins {k : Sk} {xs : List V} (I : Inv X pins σ H s) (h : k.ok X.K H xs) : ∃ Hh : Heap → Prop, Begins k.v k.obj Hh ∧ Hh s.heap := by
  cases k with
  | lst a => obtain ⟨its, r, p, _⟩ := I.list h; exact ⟨_, begins_list a its.toArray, p.isList⟩
  | tup a => obtain ⟨its, r, p, _⟩ := I.tuple h; exact ⟨_, begins_tuple a its.toArray, p⟩
  | str x t => exact ⟨_, begins_text x t, trivial⟩
end
/-! ### zip of two -/
def ItzG (K : PySem.W.Frag) (k1 k2 : Sk) : It :=
  ⟨fun i H => ∃ (xs ys : List V) (x y : V), k1.ok K H xs ∧ k2.ok K H ys ∧ xs[i]? = some x ∧ ys[i]? = some y,
    fun i H v H' => ∃ T x y, v = .ref T ∧ H T = none ∧ H' = upd H T (.tup [x, y]) ∧ (∀ xs, k1.ok K H xs → xs[i]? = some x) ∧ ∀ ys, k2.ok K H ys → ys[i]? = some y,
    fun i H => ∃ xs ys : List V, k1.ok K H xs ∧ k2.ok K H ys ∧ i ≤ xs.length ∧ i ≤ ys.length ∧ (xs.length = i ∨ ys.length = i)⟩
structure ZAp (z TI TO i1 i2 : Addr) : Prop where
  TIz : TI ≠ z
  TOz : TO ≠ z
  TITO : TI ≠ TO
  TIi1 : TI ≠ i1
  TIi2 : TI ≠ i2
  zi1 : z ≠ i1
  zi2 : z ≠ i2
  Ti1 : TO ≠ i1
  Ti2 : TO ≠ i2
  i12 : i1 ≠ i2
theorem turn_zipG {P : Program} {w : World} {K : PySem.W.Frag} {elts : List Expr} {kk : Nat} {tpos : Pos} {k1 k2 : Sk} {z TI TO i1 i2 : Addr} (D : ZAp z TI TO i1 i2) :
    Turn P w K (.Tuple elts kk tpos) (ItzG K k1 k2) [z, TI, TO, i1, i2] z (fun i h => IsZip h z TI TO .none ∧ IsTupOf2 h TI (.ref i1) (.ref i2) ∧ (∃ x y, IsTupOf2 h TO x y) ∧ k1.tn i1 i h ∧ k2.tn i2 i h) where
  mem := by simp
  obj := fun i h st c hc => by
    obtain ⟨hz, hTI, ⟨x, y, hTO⟩, h1, h2⟩ := st
    have e' : c = z ∨ c = TI ∨ c = TO ∨ c = i1 ∨ c = i2 := by simpa using hc
    rcases e' with q | q | q | q | q
    · rw [q]; exact ⟨_, hz, fun v q => nomatch q⟩
    · rw [q]; exact ⟨_, hTI, fun v q => nomatch q⟩
    · rw [q]; exact ⟨_, hTO, fun v q => nomatch q⟩
    · rw [q]; exact Sk.tn_obj h1
    · rw [q]; exact Sk.tn_obj h2
  keep := fun i h h' st k => by
    obtain ⟨hz, hTI, ⟨x, y, hTO⟩, h1, h2⟩ := st
    exact ⟨k z (by simp) _ hz, k TI (by simp) _ hTI, ⟨x, y, k TO (by simp) _ hTO⟩, Sk.tn_keep h1 fun o q => k i1 (by simp) o q, Sk.tn_keep h2 fun o q => k i2 (by simp) o q⟩
  item := by
    intro X hP hw hK hc i pins s σ H E I hf st hg
    subst hP hw hK
    obtain ⟨hz, hTI, ⟨x0, y0, hTO⟩, h1, h2⟩ := st
    obtain ⟨xs, ys, x, y, hqx, hqy, hx, hy⟩ := hg
    have ap : ∀ (k : Sk) (zs : List V), k.ok X.K H zs → ∀ b ∈ k.ins, ∀ c ∈ [z, TI, TO, i1, i2], b ≠ c := fun k zs hk b hb c hcm => Sk.apartF I hk (hf c hcm) hb
    have nin : ∀ (k : Sk) (zs : List V), k.ok X.K H zs → ∀ c ∈ [z, TI, TO, i1, i2], c ∉ k.ins := fun k zs hk c hcm hb => ap k zs hk c hb c hcm rfl
    obtain ⟨P1, St1, D1, a1, b1, c1⟩ := Sk.draws I (I.ok.hd hc) hqx (it := i1) (nin k1 xs hqx i1 (by simp))
    obtain ⟨P2, St2, D2, a2, b2, c2⟩ := Sk.draws I (I.ok.hd hc) hqy (it := i2) (nin k2 ys hqy i2 (by simp))
    have S : ZipSep2 z TI TO i1 i2 (i1 :: k1.ins) (i2 :: k2.ins) := by
      refine ⟨D.TIz, D.TOz, D.TITO, D.TIi1, by simp, ?_, ?_, D.TIi2, by simp, ?_, ?_, ?_, ?_⟩
      · intro q; rcases List.mem_cons.mp q with q | q
        · exact D.zi1 q
        · exact nin k1 xs hqx z (by simp) q
      · intro q; rcases List.mem_cons.mp q with q | q
        · exact D.Ti1 q
        · exact nin k1 xs hqx TO (by simp) q
      · intro q; rcases List.mem_cons.mp q with q | q
        · exact D.zi2 q
        · exact nin k2 ys hqy z (by simp) q
      · intro q; rcases List.mem_cons.mp q with q | q
        · exact D.Ti2 q
        · exact nin k2 ys hqy TO (by simp) q
      · intro q; rcases List.mem_cons.mp q with q | q
        · exact D.i12 q
        · exact nin k2 ys hqy i1 (by simp) q
      · intro q; rcases List.mem_cons.mp q with q | q
        · exact D.i12 q.symm
        · exact nin k1 xs hqx i2 (by simp) q
    have hzl : z < s.heap.objs.size := Heap.lt_size hz
    refine wpAny_pyNext_zipD2_item S D1 D2 hz hTI hTO (a1 i h1) (a2 i h2) (List.getElem?_eq_some_iff.mp hx).1 (List.getElem?_eq_some_iff.mp hy).1 fun u u2 h' tk p1 p2 z' TO' h1' h2' hT hsz hk => ?_
    refine ⟨_, rfl, wpAny_letOwnedTupleGo_zip (s := { s with heap := h', toks := tk }) z' fun h'' z'' sb => ?_⟩
    obtain ⟨x', hx', ru⟩ := c1 i u p1
    obtain ⟨y', hy', ru2⟩ := c2 i u2 p2
    rw [hx] at hx'; cases hx'
    rw [hy] at hy'; cases hy'
    have hT2 : h''.get? s.heap.objs.size = some { cls := .type "tuple", data := .seq #[u, u2] } := (sb.2 _ (Nat.ne_of_gt hzl)).trans hT
    have new : ObjOk X.prog X.w (upd H s.heap.objs.size (.tup [x, y])) h'' s.heap.objs.size (.tup [x, y]) :=
      ⟨by show 2 ≤ sizeLine; decide, [u, u2], .cons ru (.cons ru2 .nil), ⟨_, hT2, rfl, _, rfl⟩⟩
    have I1 : Inv X pins σ (upd H s.heap.objs.size (.tup [x, y])) { s with heap := h'', toks := tk } :=
      I.turnedNew (t' := tk) (ch := [z, TI, TO, i1, i2]) (fun c o hb q => (sb.2 c (fun q' => hb (by simp [q']))).trans (hk c o (fun q' => hb (by simp [q'])) (fun q' => hb (by simp [q'])) (fun q' => hb (by simp [q'])) (fun q' => hb (by simp [q'])) q)) hf (Nat.le_refl _) new
    refine ⟨.ref s.heap.objs.size, _, I1, rfl, ⟨_, x, y, rfl, I.hok.fresh (Nat.le_refl _), rfl, fun l hl => by rw [Sk.inj I hl hqx]; exact hx, fun l hl => by rw [Sk.inj I hl hqy]; exact hy⟩, ⟨z'', ?_, ⟨u, u2, ?_⟩, ?_, ?_⟩, fun c hcm => ?_⟩
    · exact (sb.2 _ D.TIz).trans (hk _ _ D.TIz D.TITO D.TIi1 D.TIi2 hTI)
    · exact (sb.2 _ D.TOz).trans TO'
    · exact Sk.tn_keep (b1 _ _ h1') fun o q => (sb.2 _ D.zi1.symm).trans q
    · exact Sk.tn_keep (b2 _ _ h2') fun o q => (sb.2 _ D.zi2.symm).trans q
    · have hlt : c < s.heap.objs.size := by
        have e' : c = z ∨ c = TI ∨ c = TO ∨ c = i1 ∨ c = i2 := by simpa using hcm
        rcases e' with q | q | q | q | q
        · rw [q]; exact hzl
        · rw [q]; exact Heap.lt_size hTI
        · rw [q]; exact Heap.lt_size hTO
        · rw [q]; obtain ⟨_, e1, _⟩ := Sk.tn_obj h1; exact Heap.lt_size e1
        · rw [q]; obtain ⟨_, e2, _⟩ := Sk.tn_obj h2; exact Heap.lt_size e2
      rw [upd_ne (Nat.ne_of_lt hlt)]
      exact (hf c hcm).1
  done := by
    intro X hP hw hK hc i pins s σ H E I hf st hg
    subst hP hw hK
    obtain ⟨hz, hTI, ⟨x0, y0, hTO⟩, h1, h2⟩ := st
    obtain ⟨xs, ys, hqx, hqy, l1, l2, hend⟩ := hg
    have ap : ∀ (k : Sk) (zs : List V), k.ok X.K H zs → ∀ b ∈ k.ins, ∀ c ∈ [z, TI, TO, i1, i2], b ≠ c := fun k zs hk b hb c hcm => Sk.apartF I hk (hf c hcm) hb
    have nin : ∀ (k : Sk) (zs : List V), k.ok X.K H zs → ∀ c ∈ [z, TI, TO, i1, i2], c ∉ k.ins := fun k zs hk c hcm hb => ap k zs hk c hb c hcm rfl
    obtain ⟨P1, St1, D1, a1, b1, c1⟩ := Sk.draws I (I.ok.hd hc) hqx (it := i1) (nin k1 xs hqx i1 (by simp))
    obtain ⟨P2, St2, D2, a2, b2, c2⟩ := Sk.draws I (I.ok.hd hc) hqy (it := i2) (nin k2 ys hqy i2 (by simp))
    have S : ZipSep2 z TI TO i1 i2 (i1 :: k1.ins) (i2 :: k2.ins) := by
      refine ⟨D.TIz, D.TOz, D.TITO, D.TIi1, by simp, ?_, ?_, D.TIi2, by simp, ?_, ?_, ?_, ?_⟩
      · intro q; rcases List.mem_cons.mp q with q | q
        · exact D.zi1 q
        · exact nin k1 xs hqx z (by simp) q
      · intro q; rcases List.mem_cons.mp q with q | q
        · exact D.Ti1 q
        · exact nin k1 xs hqx TO (by simp) q
      · intro q; rcases List.mem_cons.mp q with q | q
        · exact D.zi2 q
        · exact nin k2 ys hqy z (by simp) q
      · intro q; rcases List.mem_cons.mp q with q | q
        · exact D.Ti2 q
        · exact nin k2 ys hqy TO (by simp) q
      · intro q; rcases List.mem_cons.mp q with q | q
        · exact D.i12 q
        · exact nin k2 ys hqy i1 (by simp) q
      · intro q; rcases List.mem_cons.mp q with q | q
        · exact D.i12 q.symm
        · exact nin k1 xs hqx i2 (by simp) q
    exact wpAny_pyNext_zipD2_end S D1 D2 hz hTI hTO (a1 i h1) (a2 i h2) l1 l2 (hend.imp Eq.symm Eq.symm) fun h' tk hk => ⟨rfl, I.turnedL (t' := tk) (ch := [z, TI, TO, i1, i2]) (fun c o hb q =>
      hk c o (fun q' => hb (by simp [q'])) (fun q' => hb (by simp [q'])) (fun q' => hb (by simp [q'])) (fun q' => hb (by simp [q'])) q) hf⟩
  self := fun A i s Q E st h => wpAny_pyIter_zip st.1 h
/-- a value and its kind -/
def SkV (x : V) (u : Value) (k : Sk) : Prop := u = k.v ∧ RelV x u
end Ev
set_option Elab.async false
set_option linter.all false
set_option autoImplicit false
set_option maxRecDepth 100000
set_option maxHeartbeats 4000000
namespace Ev
open PySem PySem.Spec L2
open PyProof.Rows hiding St
/-! ### what a loop goes over -/
def itemsD : D → Option (List D)
  | .lst xs => some xs
  | .ext xs => some xs
  | .tup xs => some xs
  | .str s => some (s.map fun c => .str [c])
  | _ => none
def cItV (fe : M Op) : M (List D) := M.bind fe fun o => M.bind (esc o) fun d => match itemsD d with
  | some ds => mOk ds
  | none => mBad
section
variable {K : PySem.W.Frag} {F : Hp}
theorem repl_chars : ∀ (s : List Nat), RepL K F (s.map fun c => D.str [c]) (s.map fun c => V.str ⟨#[c]⟩)
  | [] => .nil
  | c :: s => .cons (by unfold Rep; rfl) (repl_chars s)
theorem itok_at {J : It} {ds : List D} {vs : List V} {Gd : Hp → Prop} (h : RepL K F ds vs) (wk : Walk J vs.length Gd (YAt vs)) (hG : ∀ H, Sb F H → Gd H) : ItOk K F ds J := by
  refine ⟨Gd, YAt vs, by rw [← h.length]; exact wk, hG, fun i H x H' F1 hi s1 s2 y => ?_⟩
  obtain ⟨rfl, hx⟩ := y
  obtain ⟨d, hd, p⟩ := h.getV hx
  exact ⟨d, hd, .inl ⟨rfl, Rep.sub s1 _ _ p⟩⟩
theorem itok_fn {J : It} {n : Nat} {f : Nat → Int} (wk : Walk J n (fun _ => True) (YFn fun i => .int (f i))) : ItOk K F ((List.range n).map fun i => D.int (f i)) J := by
  refine ⟨_, _, by simpa using wk, fun _ _ => trivial, fun i H x H' F1 hi s1 s2 y => ?_⟩
  obtain ⟨rfl, rfl⟩ := y
  have hi : i < n := by simpa using hi
  exact ⟨.int (f i), by simp [hi], .inl ⟨rfl, by unfold Rep; rfl⟩⟩
end
section
variable {X : Cx} {tg e : Expr} {fe : M Op}
theorem di_val (he : DE X e fe) : DI X tg e (cItV fe) := by
  refine ⟨fun W tk => ?_⟩
  have h1 := pi_list (tg := tg) (he.run W tk)
  have h2 := pi_tup (tg := tg) (he.run W tk)
  have h3 := pi_str (tg := tg) (he.run W tk)
  -- the reading of the value tells which
  refine ⟨fun pins s σ H R I h => ?_⟩
  obtain ⟨G, F, δ, r, h⟩ := h
  have key : ∀ (T : V → Hp → Prop), (∀ op δ1 v F1 H1, Sb F F1 → Rel X.K G F1 H1 σ δ1 → OpRep X.K σ G F1 H1 δ1 op v → Sat X.K G F1 σ W (M.bind (esc op) (fun d => match itemsD d with | some ds => mOk ds | none => mBad) δ1) (fun F' _ _ ds J => ItOk X.K F' ds J) R → T v H1) → tE X.K fe W σ H T := by
    intro T k
    exact bindE r .refl h fun o δ1 v F1 H1 s1 r1 q1 h => k o δ1 v F1 H1 s1 r1 q1 h
  -- the kind is known ahead
  unfold cItV M.bind at h
  cases e1 : fe δ with
  | bad => rw [e1] at h; exact h.elim
  | ex x δ' =>
    rw [e1] at h
    refine h1.run pins s σ H R I ⟨G, F, δ, r, ?_⟩
    rw [e1]; exact h
  | ok op δ1 =>
    rw [e1] at h
    dsimp only at h
    cases e2 : esc op δ1 with
    | bad => rw [e2] at h; exact h.elim
    | ex x δ' => exact absurd e2 esc_never
    | ok d δ2 =>
      rw [e2] at h
      dsimp only at h
      have fin : ∀ {v : V} {F1 H1 : Hp}, Sb F F1 → Rel X.K G F1 H1 σ δ1 → OpRep X.K σ G F1 H1 δ1 op v → ∃ F2, Sb F1 F2 ∧ Rel X.K G F2 H1 σ δ2 ∧ Rep X.K F2 d v := fun s1 r1 q1 => esc_ok r1 q1 e2
      cases d with
      | lst xs =>
        refine h1.run pins s σ H R I ⟨G, F, δ, r, ?_⟩
        rw [e1]
        intro v F1 H1 s1 r1 q1
        obtain ⟨F2, s2, r2, p2⟩ := fin s1 r1 q1
        unfold Rep at p2
        obtain ⟨a, vs, rfl, p3, p4⟩ := p2
        exact ⟨a, rfl, ⟨vs, .of (r2.subF _ _ p3)⟩, h _ F2 H1 (s1.trans s2) r2 (itok_at p4 walk_list fun H s => .of (s _ _ p3))⟩
      | ext xs =>
        refine h1.run pins s σ H R I ⟨G, F, δ, r, ?_⟩
        rw [e1]
        intro v F1 H1 s1 r1 q1
        obtain ⟨F2, s2, r2, p2⟩ := fin s1 r1 q1
        unfold Rep at p2
        obtain ⟨a, vs, rfl, p3, p4⟩ := p2
        exact ⟨a, rfl, ⟨vs, SqL.sub r2.subF p3⟩, h _ F2 H1 (s1.trans s2) r2 (itok_at p4 walk_list fun H s => SqL.sub s p3)⟩
      | tup xs =>
        refine h2.run pins s σ H R I ⟨G, F, δ, r, ?_⟩
        rw [e1]
        intro v F1 H1 s1 r1 q1
        obtain ⟨F2, s2, r2, p2⟩ := fin s1 r1 q1
        unfold Rep at p2
        obtain ⟨a, vs, rfl, p3, p4⟩ := p2
        exact ⟨a, rfl, ⟨vs, .of (r2.subF _ _ p3)⟩, h _ F2 H1 (s1.trans s2) r2 (itok_at p4 walk_tup fun H s => .of (s _ _ p3))⟩
      | str x =>
        refine h3.run pins s σ H R I ⟨G, F, δ, r, ?_⟩
        rw [e1]
        intro v F1 H1 s1 r1 q1
        obtain ⟨F2, s2, r2, p2⟩ := fin s1 r1 q1
        unfold Rep at p2
        subst p2
        refine ⟨⟨x.toArray⟩, rfl, h _ F2 H1 (s1.trans s2) r2 ?_⟩
        refine ⟨fun _ => True, fun i H v H' => H' = H ∧ ∃ c, x[i]? = some c ∧ v = .str ⟨#[c]⟩, ?_, fun _ _ => trivial, fun i H x' H' F1 hi s1 s2 y => ?_⟩
        · have := walk_str (z := ⟨x.toArray⟩)
          have e : (x.map fun c => D.str [c]).length = (⟨x.toArray⟩ : Str).cps.size := by simp
          rw [e]
          refine this.mono (fun _ h => h) fun i H x' H' hi _ y => ?_
          obtain ⟨h1, c, h2, h3⟩ := y
          exact ⟨h1, c, by simpa using h2, h3⟩
        · obtain ⟨rfl, c, hc, rfl⟩ := y
          exact ⟨.str [c], by simp [hc], .inl ⟨rfl, by unfold Rep; rfl⟩⟩
      | _ => exact h.elim
/-! ### range -/
def rngB (i : Int) : Bool := decide (-(2 ^ 62) ≤ i) && decide (i < 2 ^ 62)
def rng (lo : Int) (n : Nat) : List D := (List.range n).map fun i => .int (lo + (i : Nat))
theorem rngB_ok {i : Int} (h : rngB i = true) : -(2 ^ 62) ≤ i ∧ i < 2 ^ 62 := by
  unfold rngB at h
  rw [Bool.and_eq_true] at h
  exact ⟨of_decide_eq_true h.1, of_decide_eq_true h.2⟩
def rng1D : List D → Option (List D)
  | [.int j] => if rngB j then some (rng 0 j.toNat) else none
  | _ => none
def rng2D : List D → Option (List D)
  | [.int i, .int j] => if rngB i && rngB j then some (rng i (j - i).toNat) else none
  | _ => none
def rngCn (i j c : Int) : Option Nat := if c ≠ 0 ∧ c.natAbs < 1073741824 ∧ Builtin.Range.small i j c = true then some (Builtin.Range.rangeSize i j c).toNat else none
def rng3D : List D → Option (List D)
  | [.int i, .int j, .int c] => if c ≠ 0 ∧ c.natAbs < 1073741824 ∧ Builtin.Range.small i j c = true ∧ 0 ≤ Builtin.Range.rangeSize i j c then some ((List.range (Builtin.Range.rangeSize i j c).toNat).map fun k => .int (i + (k : Nat) * c)) else none
  | _ => none
def cRng (g : List D → Option (List D)) (f : M (List D)) : M (List D) := M.bind f fun ds => match g ds with
  | some l => mOk l
  | none => mBad
theorem di_range1 {a : Expr} {f : M (List D)} {p pos : Pos} (hg : Gl X "range") (hm : X.mg "range" = none) (ha : DA X [a] f) (hs : notStar a = true) : DI X tg (.Call (.Name "range" p) [a] [] pos) (cRng rng1D f) := by
  refine ⟨fun W tk => PI.weak (pi_range1 hg hm (ha.run W tk) (by rw [starEach_cons hs]; rfl)) fun pins s σ H R I h => ?_⟩
  obtain ⟨G, F, δ, r, h⟩ := h
  refine bindA r .refl h fun ds δ1 vs F1 H1 s1 r1 q1 h => ?_
  cases e : rng1D ds with
  | none => rw [e] at h; exact h.elim
  | some l =>
    rw [e] at h
    unfold rng1D at e
    split at e
    · rename_i j
      split at e
      · rename_i c
        cases e
        obtain ⟨b1, b2⟩ := rngB_ok c
        unfold RepL at q1
        obtain ⟨v, t, rfl, p, q1⟩ := q1
        unfold RepL at q1
        unfold Rep at p
        subst q1; subst p
        exact ⟨j, rfl, b1, b2, h _ F1 H1 .refl r1 (itok_fn walk_range)⟩
      · cases e
    · cases e
theorem di_range2 {a b : Expr} {f : M (List D)} {p pos : Pos} (hg : Gl X "range") (hm : X.mg "range" = none) (ha : DA X [a, b] f) (hs : notStar a = true) (hs2 : notStar b = true) : DI X tg (.Call (.Name "range" p) [a, b] [] pos) (cRng rng2D f) := by
  refine ⟨fun W tk => PI.weak (pi_range2 hg hm (ha.run W tk) (by rw [starEach_cons hs, starEach_cons hs2]; rfl) (by rw [starEach_cons hs2]; rfl)) fun pins s σ H R I h => ?_⟩
  obtain ⟨G, F, δ, r, h⟩ := h
  refine bindA r .refl h fun ds δ1 vs F1 H1 s1 r1 q1 h => ?_
  cases e : rng2D ds with
  | none => rw [e] at h; exact h.elim
  | some l =>
    rw [e] at h
    unfold rng2D at e
    split at e
    · rename_i i j
      split at e
      · rename_i c
        cases e
        rw [Bool.and_eq_true] at c
        obtain ⟨b1, b2⟩ := rngB_ok c.1
        obtain ⟨b3, b4⟩ := rngB_ok c.2
        unfold RepL at q1
        obtain ⟨v, t, rfl, p, q1⟩ := q1
        unfold RepL at q1
        obtain ⟨v2, t2, rfl, p2, q1⟩ := q1
        unfold RepL at q1
        unfold Rep at p p2
        subst q1; subst p; subst p2
        exact ⟨i, j, rfl, ⟨b1, b2, b3, b4⟩, h _ F1 H1 .refl r1 (itok_fn walk_range)⟩
      · cases e
    · cases e
theorem di_range3 {a b c : Expr} {f : M (List D)} {p pos : Pos} (hg : Gl X "range") (hm : X.mg "range" = none) (ha : DA X [a, b, c] f) (hs : notStar a = true) (hs2 : [b, c].all notStar = true) : DI X tg (.Call (.Name "range" p) [a, b, c] [] pos) (cRng rng3D f) := by
  refine ⟨fun W tk => PI.weak (pi_range3 hg hm (ha.run W tk) (starEach_cons hs) (backTo_plain hs2)) fun pins s σ H R I h => ?_⟩
  obtain ⟨G, F, δ, r, h⟩ := h
  refine bindA r .refl h fun ds δ1 vs F1 H1 s1 r1 q1 h => ?_
  cases e : rng3D ds with
  | none => rw [e] at h; exact h.elim
  | some l =>
    rw [e] at h
    unfold rng3D at e
    split at e
    · rename_i i j c
      split at e
      · rename_i cc
        cases e
        unfold RepL at q1
        obtain ⟨v, t, rfl, p, q1⟩ := q1
        unfold RepL at q1
        obtain ⟨v2, t2, rfl, p2, q1⟩ := q1
        unfold RepL at q1
        obtain ⟨v3, t3, rfl, p3, q1⟩ := q1
        unfold RepL at q1
        unfold Rep at p p2 p3
        subst q1; subst p; subst p2; subst p3
        exact ⟨i, j, c, _, rfl, ⟨cc.1, cc.2.1, cc.2.2.1, (Int.toNat_of_nonneg cc.2.2.2).symm⟩, h _ F1 H1 .refl r1 (itok_fn walk_rangeC)⟩
      · cases e
    · cases e
/-! ### zip of two -/
theorem sk_of {K : PySem.W.Frag} {F : Hp} {d : D} {v : V} {u : Value} {xs : List D} (h : Rep K F d v) (e : itemsD d = some xs) (r : RelV v u) : ∃ k vs, u = Sk.v k ∧ (∀ H, Sb F H → Sk.ok K H vs k) ∧ RepL K F xs vs := by
  cases d with
  | lst ys => cases e; unfold Rep at h; obtain ⟨a, vs, rfl, h1, h2⟩ := h; cases r; exact ⟨.lst a, vs, rfl, fun H s => SqL.of (s _ _ h1), h2⟩
  | ext ys => cases e; unfold Rep at h; obtain ⟨a, vs, rfl, h1, h2⟩ := h; cases r; exact ⟨.lst a, vs, rfl, fun H s => SqL.sub s h1, h2⟩
  | tup ys => cases e; unfold Rep at h; obtain ⟨a, vs, rfl, h1, h2⟩ := h; cases r; exact ⟨.tup a, vs, rfl, fun H s => SqT.of (s _ _ h1), h2⟩
  | str x => cases e; unfold Rep at h; subst h; obtain ⟨t, rfl⟩ := r; exact ⟨.str ⟨x.toArray⟩ t, _, rfl, fun H s => by show _ = _; simp, repl_chars x⟩
  | _ => cases e
def zipD (xs ys : List D) : List D := List.zipWith (fun x y => .tup [x, y]) xs ys
def zip2D : List D → Option (List D)
  | [a, b] => match itemsD a, itemsD b with
    | some xs, some ys => some (zipD xs ys)
    | _, _ => none
  | _ => none
def iZipG (K : PySem.W.Frag) (ta : TA) : TI := fun σ H R => ta σ H fun vs H1 => ∃ v w, vs = [v, w] ∧ ∀ u1 u2, RelV v u1 → RelV w u2 → ∃ k1 k2 xs ys, u1 = Sk.v k1 ∧ u2 = Sk.v k2 ∧ Sk.ok K H1 xs k1 ∧ Sk.ok K H1 ys k2 ∧ R (ItzG K k1 k2) H1
theorem pi_zipG {e2 : Expr} {ta : TA} {p pos tpos : Pos} {elts : List Expr} {kk : Nat} (hg : Gl X "zip") (hm : X.mg "zip" = none) (ha : PA X [e, e2] ta) (hs : notStar e = true) (hs2 : [e2].all notStar = true) :
    PI X (.Tuple elts kk tpos) (.Call (.Name "zip" p) [e, e2] [] pos) (iZipG X.K ta) := by
  refine ⟨fun pins s σ H R I h => ?_⟩
  refine Call_ (ld_blt I hg hm PyProof.Rows.boot_zip (PyProof.Rows.callWith_type1 (thn (ha.run pos pins s σ H _ I h) fun us s1 ⟨vs, H1, I1, r1, q1⟩ => ?_) (starEach_cons hs) (backTo_plain hs2)))
  obtain ⟨v, w, ex, q1⟩ := q1
  subst ex
  cases r1 with
  | cons r rr =>
    cases rr with
    | cons r' rr =>
      cases rr
      obtain ⟨k1, k2, xs, ys, rfl, rfl, o1, o2, q⟩ := q1 _ _ r r'
      obtain ⟨Hh1, B1, b1⟩ := Sk.begins I1 o1
      obtain ⟨Hh2, B2, b2⟩ := Sk.begins I1 o2
      refine zip_begins2 B1 B2 b1 b2 fun h' hz hTI hTO h1 h2 hsz hk => wpAny_pyIter_zip hz ?_
      have I2 : Inv X pins σ H1 { s1 with heap := h' } := I1.kept (t' := s1.toks) hk
      refine ⟨s1.heap.objs.size + 4, [s1.heap.objs.size + 4, s1.heap.objs.size + 2, s1.heap.objs.size + 3, s1.heap.objs.size, s1.heap.objs.size + 1], _, _, H1, rfl, I2, turn_zipG ?_, ⟨hz, hTI, ⟨_, _, hTO⟩, Sk.tn0 h1, Sk.tn0 h2⟩, fun c hcm => ?_, q⟩
      · constructor <;> (intro z; have z : (_ : Nat) = _ := z; omega)
      · have e' : c = s1.heap.objs.size + 4 ∨ c = s1.heap.objs.size + 2 ∨ c = s1.heap.objs.size + 3 ∨ c = s1.heap.objs.size ∨ c = s1.heap.objs.size + 1 := by simpa using hcm
        have hle : s1.heap.objs.size ≤ c := by
          rcases e' with z | z | z | z | z
          · rw [z]; exact Nat.le_add_right _ _
          · rw [z]; exact Nat.le_add_right _ _
          · rw [z]; exact Nat.le_add_right _ _
          · rw [z]; exact Nat.le_refl _
          · rw [z]; exact Nat.le_add_right _ _
        exact I1.fpOk hle (I1.hok.fresh hle)
theorem di_zip {e2 : Expr} {f : M (List D)} {p pos tpos : Pos} {elts : List Expr} {kk : Nat} (hg : Gl X "zip") (hm : X.mg "zip" = none) (ha : DA X [e, e2] f) (hs : notStar e = true) (hs2 : [e2].all notStar = true) :
    DI X (.Tuple elts kk tpos) (.Call (.Name "zip" p) [e, e2] [] pos) (cRng zip2D f) := by
  refine ⟨fun W tk => PI.weak (pi_zipG hg hm (ha.run W tk) hs hs2) fun pins s σ H R I h => ?_⟩
  obtain ⟨G, F, δ, r, h⟩ := h
  refine bindA r .refl h fun ds δ1 vs F1 H1 s1 r1 q1 h => ?_
  cases e : zip2D ds with
  | none => rw [e] at h; exact h.elim
  | some l =>
    rw [e] at h
    unfold zip2D at e
    split at e
    · rename_i a b
      split at e
      · rename_i xs ys ea eb
        cases e
        unfold RepL at q1
        obtain ⟨v, t, rfl, p, q1⟩ := q1
        unfold RepL at q1
        obtain ⟨v2, t2, rfl, p2, q1⟩ := q1
        unfold RepL at q1
        subst q1
        refine ⟨v, v2, rfl, fun u1 u2 ru1 ru2 => ?_⟩
        obtain ⟨k1, as, rfl, o1, l1⟩ := sk_of p ea ru1
        obtain ⟨k2, bs, rfl, o2, l2⟩ := sk_of p2 eb ru2
        refine ⟨k1, k2, as, bs, rfl, rfl, o1 _ r1.subF, o2 _ r1.subF, h _ F1 H1 .refl r1 ?_⟩
        refine ⟨fun H => Sk.ok X.K H as k1 ∧ Sk.ok X.K H bs k2, fun i H v H' => ∃ T x y, v = .ref T ∧ H T = none ∧ H' = upd H T (.tup [x, y]) ∧ as[i]? = some x ∧ bs[i]? = some y, ⟨fun i H hi q => ?_, fun H q => ?_, fun i H v H' hi q y => ?_⟩, fun H s => ⟨o1 H s, o2 H s⟩, fun i H x H' F2 hi s1 s2 y => ?_⟩
        · have hl : i < min as.length bs.length := by simpa [zipD, l1.length, l2.length] using hi
          have hl1 : i < as.length := by omega
          have hl2 : i < bs.length := by omega
          exact ⟨as, bs, as[i], bs[i], q.1, q.2, List.getElem?_eq_getElem hl1, List.getElem?_eq_getElem hl2⟩
        · have hl : (zipD xs ys).length = min as.length bs.length := by simp [zipD, l1.length, l2.length]
          exact ⟨as, bs, q.1, q.2, by omega, by omega, by omega⟩
        · obtain ⟨T, x, y, z1, z2, z3, z4, z5⟩ := y
          exact ⟨T, x, y, z1, z2, z3, z4 as q.1, z5 bs q.2⟩
        · obtain ⟨T, x, y, rfl, z2, z3, z4, z5⟩ := y
          obtain ⟨d1, e1, p1⟩ := l1.getV z4
          obtain ⟨d2, e2, p2⟩ := l2.getV z5
          exact ⟨.tup [d1, d2], by unfold zipD; rw [List.getElem?_zipWith, e1, e2], .inr (.inl ⟨T, [x, y], [d1, d2], rfl, z2, z3, rfl, .cons (Rep.sub s1 _ _ p1) (.one (Rep.sub s1 _ _ p2))⟩)⟩
      · cases e
    · cases e
end
end Ev
set_option Elab.async false
set_option linter.all false
set_option autoImplicit false
set_option maxRecDepth 100000
set_option maxHeartbeats 4000000
namespace EvE
open PySem
open Sem (wp)
open PySem.Spec
theorem meets_enumerate_new1 {v : Value} {o : Obj} {H : Heap → Prop} (B : Begins v o H) :
    Meets (Builtin.«enumerate.__new__» ⟨[.type "enumerate", v], []⟩) (fun _ R s => H s.heap ∧
      R (.ok (.ret (.ref (s.heap.push o).objs.size))) { s with heap := (s.heap.push o).push { cls := .type "enumerate", data := .fields #[.none, .bool false, .ref s.heap.objs.size, rawInt 0, .none, .none] } }) :=
  .of_wp fun prog w A R s h => by
    obtain ⟨hp, g, d, tk, os⟩ := s; obtain ⟨h1, h⟩ := h
    have hsub := sub_enumerate
    have q1 : ∀ {A' : Around} {E : Value → Shared → Prop} {Q : Value → Shared → Prop}, Q (.ref hp.objs.size) ⟨hp.push o, g, d, tk, os⟩ → wpAny (model prog w) A' (pyIter v) Q E ⟨hp, g, d, tk, os⟩ :=
      fun q => B.iter prog w _ _ ⟨hp, g, d, tk, os⟩ _ h1 q
    wp_walk using q1
    refine wpAny_stack_any fun st => wpAny_pure ?_
    split
    · rename_i c _ _ _ _ _
      cases (c == Value.type "enumerate")
      · wp_walk using q1
        exact ⟨_, rfl, h⟩
      · wp_walk using q1
        exact ⟨_, rfl, h⟩
    · wp_walk using q1
      exact ⟨_, rfl, h⟩
section
variable {prog : Program} {w : World} {A : Around} {E : Value → Shared → Prop} {s : Shared}
theorem enum_begins1 {v : Value} {o : Obj} {H : Heap → Prop} {Q : Value → Shared → Prop} (B : Begins v o H) (h1 : H s.heap)
    (h : ∀ h', IsEnum h' (s.heap.objs.size + 1) s.heap.objs.size 0 .none → h'.get? s.heap.objs.size = some o → h'.objs.size = s.heap.objs.size + 2 →
      (∀ b o, s.heap.get? b = some o → h'.get? b = some o) → Q (.ref (s.heap.objs.size + 1)) { s with heap := h' }) :
    wpAny (model prog w) A (call (.type "enumerate") [v]) Q E s := by
  refine callType_new F.called_enumerate (by decide) (F.typeCall_enumerate_1 _) (F.newCall_enumerate_1 _) (fun obj => F.args_object_init_2 obj _) F.entry_enumerate_new
    (meets_enumerate_new1 B) ⟨h1, ?_⟩
  have hz : (s.heap.push o).objs.size = s.heap.objs.size + 1 := Heap.size_push ..
  show _ ∧ _
  rw [hz]
  have he : IsEnum ((s.heap.push o).push { cls := .type "enumerate", data := .fields #[.none, .bool false, .ref s.heap.objs.size, rawInt 0, .none, .none] }) (s.heap.objs.size + 1) s.heap.objs.size 0 .none := by
    have := Heap.get?_push_size (s.heap.push o) (o := { cls := .type "enumerate", data := .fields #[.none, .bool false, .ref s.heap.objs.size, rawInt 0, .none, .none] }) rfl
    rw [hz] at this; exact this
  refine ⟨⟨_, he, rfl⟩, h _ he (Heap.get?_push_of_some _ (Heap.get?_push_size _ B.free)) (by rw [Heap.size_push, hz]) fun b o x => Heap.get?_push_of_some _ (Heap.get?_push_of_some _ x)⟩
end
end EvE
namespace Ev
open PySem PySem.Spec L2
open PyProof.Rows hiding St
def IteG (K : PySem.W.Frag) (k1 : Sk) : It :=
  ⟨fun i H => ∃ (xs : List V) (x : V), k1.ok K H xs ∧ xs[i]? = some x,
    fun i H v H' => ∃ T x, v = .ref T ∧ H T = none ∧ H' = upd H T (.tup [.int (i : Nat), x]) ∧ ∀ xs, k1.ok K H xs → xs[i]? = some x,
    fun i H => ∃ xs : List V, k1.ok K H xs ∧ xs.length = i⟩
theorem turn_enumG {P : Program} {w : World} {K : PySem.W.Frag} {elts : List Expr} {kk : Nat} {tpos : Pos} {k1 : Sk} {e it : Addr} (hne : e ≠ it) :
    Turn P w K (.Tuple elts kk tpos) (IteG K k1) [e, it] e (fun i h => (∃ old, IsEnum h e it ((i : Nat) : Int) old) ∧ k1.tn it i h) where
  mem := by simp
  obj := fun i h st c hc => by
    obtain ⟨⟨old, he⟩, h1⟩ := st
    have e' : c = e ∨ c = it := by simpa using hc
    rcases e' with q | q
    · rw [q]; exact ⟨_, he, fun v q => nomatch q⟩
    · rw [q]; exact Sk.tn_obj h1
  keep := fun i h h' st k => by
    obtain ⟨⟨old, he⟩, h1⟩ := st
    exact ⟨⟨old, k e (by simp) _ he⟩, Sk.tn_keep h1 fun o q => k it (by simp) o q⟩
  item := by
    intro X hP hw hK hc i pins s σ H E I hf st hg
    subst hP hw hK
    obtain ⟨⟨old, he⟩, h1⟩ := st
    obtain ⟨xs, x, hqx, hx⟩ := hg
    have nin : ∀ c ∈ [e, it], c ∉ k1.ins := fun c hcm hb => Sk.apartF I hqx (hf c hcm) hb rfl
    obtain ⟨P1, St1, D1, a1, b1, c1⟩ := Sk.draws I (I.ok.hd hc) hqx (it := it) (nin it (by simp))
    have hel : e < s.heap.objs.size := Heap.lt_size he
    have hil : it < s.heap.objs.size := by obtain ⟨_, e1, _⟩ := Sk.tn_obj h1; exact Heap.lt_size e1
    have hef : e ∉ it :: k1.ins := fun q => by
      rcases List.mem_cons.mp q with q | q
      · exact hne q
      · exact nin e (by simp) q
    refine wpAny_pyNext_enum_itemD D1 he (a1 i h1) (List.getElem?_eq_some_iff.mp hx).1 hne hef fun u h' tk p1 ho h1' hT hsz hk => ?_
    refine ⟨_, rfl, wpAny_letOwnedTupleGo_enum (s := { s with heap := h', toks := tk + 1 }) ho fun h'' he' sb => ?_⟩
    obtain ⟨x', hx', ru⟩ := c1 i u p1
    rw [hx] at hx'; cases hx'
    have hT2 : h''.get? s.heap.objs.size = some { cls := .type "tuple", data := .seq #[.int i tk, u] } := (sb.2 _ (Nat.ne_of_gt hel)).trans hT
    have new : ObjOk X.prog X.w (upd H s.heap.objs.size (.tup [.int (i : Nat), x])) h'' s.heap.objs.size (.tup [.int (i : Nat), x]) :=
      ⟨by show 2 ≤ sizeLine; decide, [.int i tk, u], .cons ⟨_, rfl⟩ (.cons ru .nil), ⟨_, hT2, rfl, _, rfl⟩⟩
    have I1 : Inv X pins σ (upd H s.heap.objs.size (.tup [.int (i : Nat), x])) { s with heap := h'', toks := tk + 1 } :=
      I.turnedNew (t' := tk + 1) (ch := [e, it]) (fun b ob hb q => (sb.2 b (fun z => hb (by simp [z]))).trans (hk b ob (fun z => hb (by simp [z])) (fun z => hb (by simp [z])) q)) hf (Nat.le_refl _) new
    refine ⟨.ref s.heap.objs.size, _, I1, rfl, ⟨_, x, rfl, I.hok.fresh (Nat.le_refl _), rfl, fun l hl => by rw [Sk.inj I hl hqx]; exact hx⟩, ⟨⟨u, ?_⟩, Sk.tn_keep (b1 _ _ h1') fun o q => (sb.2 it (Ne.symm hne)).trans q⟩, fun b hb => ?_⟩
    · have e1 : ((i + 1 : Nat) : Int) = (i : Int) + 1 := by omega
      rw [e1]; exact he'
    · have hb' : b < s.heap.objs.size := by
        have e' : b = e ∨ b = it := by simpa using hb
        rcases e' with z | z
        · rw [z]; exact hel
        · rw [z]; exact hil
      rw [upd_ne (Nat.ne_of_lt hb')]
      exact (hf b hb).1
  done := by
    intro X hP hw hK hc i pins s σ H E I hf st hg
    subst hP hw hK
    obtain ⟨⟨old, he⟩, h1⟩ := st
    obtain ⟨xs, hqx, hl⟩ := hg
    have nin : ∀ c ∈ [e, it], c ∉ k1.ins := fun c hcm hb => Sk.apartF I hqx (hf c hcm) hb rfl
    obtain ⟨P1, St1, D1, a1, b1, c1⟩ := Sk.draws I (I.ok.hd hc) hqx (it := it) (nin it (by simp))
    obtain ⟨f0, f1, f2, f3, f4, f5⟩ := hf it (by simp)
    have h1 := a1 i h1
    rw [← hl] at h1
    exact wpAny_pyNext_enum_endD D1 he h1 fun h' eb => ⟨rfl, I.turned (t' := s.toks) (fun b o hb q => eb b o hb q) f0 f1 f3 f4 f5⟩
  self := fun A i s Q E st h => let ⟨⟨_, he⟩, _⟩ := st; wpAny_pyIter_enum he h
section
variable {X : Cx} {e : Expr}
def iEnumG (K : PySem.W.Frag) (ta : TA) : TI := fun σ H R => ta σ H fun vs H1 => ∃ v, vs = [v] ∧ ∀ u1, RelV v u1 → ∃ k1 xs, u1 = Sk.v k1 ∧ Sk.ok K H1 xs k1 ∧ R (IteG K k1) H1
theorem pi_enumG {ta : TA} {p pos tpos : Pos} {elts : List Expr} {kk : Nat} (hg : Gl X "enumerate") (hm : X.mg "enumerate" = none) (ha : PA X [e] ta) (hs : notStar e = true) :
    PI X (.Tuple elts kk tpos) (.Call (.Name "enumerate" p) [e] [] pos) (iEnumG X.K ta) := by
  refine ⟨fun pins s σ H R I h => ?_⟩
  refine Call_ (ld_blt I hg hm PyProof.Rows.boot_enumerate (PyProof.Rows.callWith_type1 (thn (ha.run pos pins s σ H _ I h) fun us s1 ⟨vs, H1, I1, r1, q1⟩ => ?_) (starEach_cons hs) rfl))
  obtain ⟨v, ex, q1⟩ := q1
  subst ex
  cases r1 with
  | cons r rr =>
    cases rr
    obtain ⟨k1, xs, rfl, o1, q⟩ := q1 _ r
    obtain ⟨Hh1, B1, b1⟩ := Sk.begins I1 o1
    refine EvE.enum_begins1 B1 b1 fun h' he h1 hsz hk => wpAny_pyIter_enum he ?_
    have I2 : Inv X pins σ H1 { s1 with heap := h' } := I1.kept (t' := s1.toks) hk
    refine ⟨s1.heap.objs.size + 1, [s1.heap.objs.size + 1, s1.heap.objs.size], _, _, H1, rfl, I2, turn_enumG (Nat.succ_ne_self _), ⟨⟨.none, he⟩, Sk.tn0 h1⟩, fun b hb => ?_, q⟩
    have e' : b = s1.heap.objs.size + 1 ∨ b = s1.heap.objs.size := by simpa using hb
    have hle : s1.heap.objs.size ≤ b := by
      rcases e' with z | z
      · rw [z]; exact Nat.le_add_right _ _
      · rw [z]; exact Nat.le_refl _
    exact I1.fpOk hle (I1.hok.fresh hle)
/-- the pairs from place i on -/
def enumFrom (i : Nat) : List D → List D
  | [] => []
  | d :: ds => .tup [.int (i : Nat), d] :: enumFrom (i + 1) ds
theorem enumFrom_len : ∀ (ds : List D) (i : Nat), (enumFrom i ds).length = ds.length
  | [], _ => rfl
  | d :: ds, i => by simp [enumFrom, enumFrom_len ds]
theorem enumFrom_get : ∀ (ds : List D) (i j : Nat) (d : D), ds[j]? = some d → (enumFrom i ds)[j]? = some (.tup [.int ((i + j : Nat) : Int), d])
  | [], i, j, d, h => by simp at h
  | x :: ds, i, 0, d, h => by simp at h; subst h; rfl
  | x :: ds, i, j + 1, d, h => by
    have h : ds[j]? = some d := by simpa using h
    have := enumFrom_get ds (i + 1) j d h
    have e : i + 1 + j = i + (j + 1) := by omega
    rw [e] at this
    simpa [enumFrom] using this
def enumD : List D → Option (List D)
  | [a] => (itemsD a).map (enumFrom 0)
  | _ => none
theorem di_enum {f : M (List D)} {p pos tpos : Pos} {elts : List Expr} {kk : Nat} (hg : Gl X "enumerate") (hm : X.mg "enumerate" = none) (ha : DA X [e] f) (hs : notStar e = true) :
    DI X (.Tuple elts kk tpos) (.Call (.Name "enumerate" p) [e] [] pos) (cRng enumD f) := by
  refine ⟨fun W tk => PI.weak (pi_enumG hg hm (ha.run W tk) hs) fun pins s σ H R I h => ?_⟩
  obtain ⟨G, F, δ, r, h⟩ := h
  refine bindA r .refl h fun ds δ1 vs F1 H1 s1 r1 q1 h => ?_
  cases e : enumD ds with
  | none => rw [e] at h; exact h.elim
  | some l =>
    rw [e] at h
    unfold enumD at e
    split at e
    · rename_i a
      cases ea : itemsD a with
      | none => rw [ea] at e; cases e
      | some xs =>
        rw [ea] at e
        cases e
        unfold RepL at q1
        obtain ⟨v, t, rfl, p, q1⟩ := q1
        unfold RepL at q1
        subst q1
        refine ⟨v, rfl, fun u1 ru1 => ?_⟩
        obtain ⟨k1, as, rfl, o1, l1⟩ := sk_of p ea ru1
        refine ⟨k1, as, rfl, o1 _ r1.subF, h _ F1 H1 .refl r1 ?_⟩
        refine ⟨fun H => Sk.ok X.K H as k1, fun i H v H' => ∃ T x, v = .ref T ∧ H T = none ∧ H' = upd H T (.tup [.int (i : Nat), x]) ∧ as[i]? = some x, ⟨fun i H hi q => ?_, fun H q => ?_, fun i H v H' hi q y => ?_⟩, fun H s => o1 H s, fun i H x H' F2 hi s1 s2 y => ?_⟩
        · have hl1 : i < as.length := by rw [l1.length]; simpa [enumFrom_len] using hi
          exact ⟨as, as[i], q, List.getElem?_eq_getElem hl1⟩
        · exact ⟨as, q, by rw [enumFrom_len, l1.length]⟩
        · obtain ⟨T, x, z1, z2, z3, z4⟩ := y
          exact ⟨T, x, z1, z2, z3, z4 as q⟩
        · obtain ⟨T, x, rfl, z2, z3, z4⟩ := y
          obtain ⟨d1, e1, p1⟩ := l1.getV z4
          refine ⟨.tup [.int ((i : Nat) : Int), d1], by have := enumFrom_get xs 0 i d1 e1; rw [Nat.zero_add] at this; exact this, .inr (.inl ⟨T, [.int (i : Nat), x], [.int (i : Nat), d1], rfl, z2, z3, rfl, .cons (rep_int _) (.one (Rep.sub s1 _ _ p1))⟩)⟩
    · cases e
end
end Ev
set_option Elab.async false
set_option linter.all false
set_option autoImplicit false
set_option maxRecDepth 100000
set_option maxHeartbeats 4000000
namespace EvZ
open PySem
open Sem (wp)
open PySem.Spec
/-- a zip's record: its first field tells the pair that is out -/
abbrev ZR (h : Heap) (z TI TO : Addr) (f0 : Value) (f : Bool) : Prop :=
  h.get? z = some { cls := .type "zip", dict := none, data := .fields #[f0, .bool f, .bool false, .ref TI, .ref TO], slots := #[] }
def Out (f0 : Value) : Prop := f0 = .none ∨ ∃ T : Addr, f0 = rawInt T
section
variable {prog : Program} {w : World} {A : Around} {E : Value → Shared → Prop} {s : Shared} {z TI TO i1 i2 : Addr} {fp1 fp2 : List Addr} {n1 n2 i : Nat} {P1 P2 : Nat → Value → Prop} {St1 St2 : Nat → Heap → Prop} {a1 a2 f0 : Value} {f : Bool}
theorem alive_any {a : Addr} {Q : Option Obj → Shared → Prop} (h : Q (s.heap.get? a) s) : wpAny (model prog w) A (loadIfAlive a) Q E s := fun _ _ _ => h
theorem isFree {Q : Bool → Shared → Prop} (hz : ZR s.heap z TI TO f0 f) (h0 : Out f0)
    (h : ∀ b h' f', ZR h' z TI TO f0 f' → Heap.SameBut z s.heap h' → Q b { s with heap := h' }) : wpAny (model prog w) A (Builtin.SmallTypes.ownedTupleIsFree (.ref z)) Q E s := by
  unfold Builtin.SmallTypes.ownedTupleIsFree
  refine wpAny_bind (wpAny_field hz rfl (x := f0) rfl ?_)
  rcases h0 with rfl | ⟨T, rfl⟩
  · exact wpAny_pure (h true s.heap f hz (Heap.SameBut.refl _ _))
  · show wpAny _ _ (loadIfAlive ((T : Int).toNat) >>= _) _ _ _
    rw [Int.toNat_natCast]
    refine wpAny_bind (alive_any ?_)
    cases e : s.heap.get? T with
    | none => exact wpAny_pure (h true s.heap f hz (Heap.SameBut.refl _ _))
    | some oT =>
      simp only [Option.isNone_some, Bool.false_eq_true, if_false]
      refine wpAny_bind (wpAny_field hz rfl (x := .bool f) rfl ?_)
      cases f with
      | true =>
        rw [if_neg (show ¬ ((Value.bool true != Value.bool true) = true) from Bool.false_ne_true)]
        exact wpAny_pure (h false s.heap true hz (Heap.SameBut.refl _ _))
      | false =>
        rw [if_pos (show (Value.bool false != Value.bool true) = true from rfl)]
        exact wpAny_bind (wpAny_setField_rec hz (by simp) fun h₁ hz₁ hs₁ => wpAny_pure (h false h₁ true hz₁ hs₁))
theorem zip_next {Q : Value → Shared → Prop} (S : ZipSep2 z TI TO i1 i2 fp1 fp2) (D1 : Draws prog w A i1 fp1 n1 P1 St1) (D2 : Draws prog w A i2 fp2 n2 P2 St2)
    (hz : ZR s.heap z TI TO f0 f) (h0 : Out f0) (hTI : IsTupOf2 s.heap TI (.ref i1) (.ref i2)) (hTO : IsTupOf2 s.heap TO a1 a2) (st1 : St1 i s.heap) (st2 : St2 i s.heap) (l1 : i < n1) (l2 : i < n2)
    (hQ : ∀ x y h' tk g0 g, P1 i x → P2 i y → ZR h' z TI TO g0 g → Out g0 → (∃ b1 b2, IsTupOf2 h' TO b1 b2) → St1 (i + 1) h' → St2 (i + 1) h' → IsTupOf2 h' s.heap.objs.size x y → h'.objs.size = s.heap.objs.size + 1 →
      (∀ c o, c ≠ z → c ≠ TO → c ≠ i1 → c ≠ i2 → s.heap.get? c = some o → h'.get? c = some o) → Q (.ref s.heap.objs.size) { s with heap := h', toks := tk }) :
    wpAny (model prog w) A (Builtin.«zip.__next__» ⟨[.ref z], []⟩) (fun fin s' => ∃ v, fin = .done (.ret v) ∧ Q v s') E s := by
  obtain ⟨hp, gn, d, tk0, os⟩ := s
  show wpAny _ _ (field (.ref z) 2 >>= _) _ _ _
  refine wpAny_bind (wpAny_field hz rfl (x := .bool false) rfl ?_)
  show wpAny _ _ (field (.ref z) 3 >>= _) _ _ _
  refine wpAny_bind (wpAny_field hz rfl (x := .ref TI) rfl ?_)
  refine wpAny_bind (wpAny_seqItems hTI rfl ?_)
  show wpAny _ _ (Builtin.SmallTypes.ownedTupleIsFree (.ref z) >>= _) _ _ _
  refine wpAny_bind (isFree hz h0 fun b g0 f' hz0 s0 => ?_)
  replace s0 : Heap.SameBut z hp g0 := s0
  cases b with
  | true =>
    simp only [if_true]
    refine wpAny_bind (wpAny_rule ?_)
    refine wpAny_bind (wpAny_field hz0 rfl (x := .ref TO) rfl ?_)
    refine wpAny_bind (wpAny_setField_rec hz0 (by simp) fun g1 hz1 s1 => ?_)
    replace hz1 : ZR g1 z TI TO .ellipsis f' := hz1
    replace s1 : Heap.SameBut z g0 g1 := s1
    refine wpAny_bind ?_
    simp only [List.zipIdx_cons, List.zipIdx_nil, List.forIn_cons, List.forIn_nil]
    refine wpAny_bind (wpAny_bind (wpAny_onRaise ?_))
    show wpAny _ _ (Builtin.SmallTypes.nextOf (.ref i1) >>= _) _ _ ⟨g1, gn, d, tk0, os⟩
    refine wpAny_bind (D1.item i _ _ _ l1 (D1.over (D1.over st1 s0 S.zf1) s1 S.zf1) fun x p1 tk1 hx t1 r1 => wpAny_pure ?_)
    replace r1 : Heap.SameBut i1 g1 p1 := r1
    have u1 : IsTupOf2 p1 TO a1 a2 := r1.extBut _ _ S.Ti1 (s1.extBut _ _ S.TOz (s0.extBut _ _ S.TOz hTO))
    refine wpAny_bind (wpAny_seqItems (s := ⟨p1, gn, d, tk1, os⟩) u1 rfl ?_)
    refine wpAny_bind (updateSeq_IsTupOf2 (s := ⟨p1, gn, d, tk1, os⟩) u1 fun q1 v1 w1 => ?_)
    replace v1 : IsTupOf2 q1 TO x a2 := v1
    replace w1 : Heap.SameBut TO p1 q1 := w1
    refine wpAny_bind (wpAny_letGo (wpAny_pure ?_))
    refine wpAny_bind (wpAny_bind (wpAny_onRaise ?_))
    show wpAny _ _ (Builtin.SmallTypes.nextOf (.ref i2) >>= _) _ _ ⟨q1, gn, d, tk1, os⟩
    refine wpAny_bind (D2.item i _ _ _ l2 (D2.over (D2.over (D2.over (D2.over st2 s0 S.zf2) s1 S.zf2) r1 S.sep1_2) w1 S.Tf2) fun y p2 tk2 hy t2 r2 => wpAny_pure ?_)
    replace r2 : Heap.SameBut i2 q1 p2 := r2
    have u2 : IsTupOf2 p2 TO x a2 := r2.extBut _ _ S.Ti2 v1
    refine wpAny_bind (wpAny_seqItems (s := ⟨p2, gn, d, tk2, os⟩) u2 rfl ?_)
    refine wpAny_bind (updateSeq_IsTupOf2 (s := ⟨p2, gn, d, tk2, os⟩) u2 fun q2 v2 w2 => ?_)
    replace v2 : IsTupOf2 q2 TO x y := v2
    replace w2 : Heap.SameBut TO p2 q2 := w2
    refine wpAny_bind (wpAny_letGo (wpAny_pure (wpAny_pure ?_)))
    refine wpAny_bind (wpAny_seqItems (s := ⟨q2, gn, d, tk2, os⟩) v2 rfl ?_)
    refine wpAny_bind (wpAny_newTuple ?_)
    have hsz : q2.objs.size = hp.objs.size := by rw [w2.1, r2.1, w1.1, r1.1, s1.1, s0.1]
    have hzz : ZR q2 z TI TO .ellipsis f' := w2.extBut _ _ S.TOz.symm (r2.extBut _ _ S.zi2 (w1.extBut _ _ S.TOz.symm (r1.extBut _ _ S.zi1 hz1)))
    have hkk : ∀ c o, c ≠ z → c ≠ TO → c ≠ i1 → c ≠ i2 → hp.get? c = some o → q2.get? c = some o := fun c o cz cT c1 c2 e =>
      w2.extBut _ _ cT (r2.extBut _ _ c2 (w1.extBut _ _ cT (r1.extBut _ _ c1 (s1.extBut _ _ cz (s0.extBut _ _ cz e)))))
    have j1 : St1 (i + 1) q2 := D1.over (D1.over (D1.over t1 w1 S.Tf1) r2 S.sep2_1) w2 S.Tf1
    have j2 : St2 (i + 1) q2 := D2.over t2 w2 S.Tf2
    have hzl : z < q2.objs.size := Heap.lt_size hzz
    show wpAny _ _ (Builtin.SmallTypes.ownedTupleHandOut (.ref z) (.ref q2.objs.size) >>= _) _ _ ⟨q2.push { cls := .type "tuple", data := .seq #[x, y] }, gn, d, tk2, os⟩
    refine wpAny_bind ?_
    unfold Builtin.SmallTypes.ownedTupleHandOut
    have e6 : ZR (q2.push { cls := .type "tuple", data := .seq #[x, y] }) z TI TO .ellipsis f' := Heap.get?_push_of_some _ hzz
    refine wpAny_bind (wpAny_setField_rec e6 (by simp) fun h7 e7 s7 => ?_)
    replace e7 : ZR h7 z TI TO (rawInt q2.objs.size) f' := e7
    refine wpAny_setField_rec e7 (by simp) fun h8 e8 s8 => ?_
    replace e8 : ZR h8 z TI TO (rawInt q2.objs.size) false := e8
    replace s7 : Heap.SameBut z (q2.push { cls := .type "tuple", data := .seq #[x, y] }) h7 := s7
    replace s8 : Heap.SameBut z h7 h8 := s8
    have up : ∀ c o, c ≠ z → q2.get? c = some o → h8.get? c = some o := fun c o c1 e => s8.extBut _ _ c1 (s7.extBut _ _ c1 (Heap.get?_push_of_some _ e))
    have t8 : IsTupOf2 h8 q2.objs.size x y := s8.extBut _ _ (Nat.ne_of_gt hzl) (s7.extBut _ _ (Nat.ne_of_gt hzl) (Heap.get?_push_size _ rfl))
    have z8 : h8.objs.size = q2.objs.size + 1 := by rw [s8.1, s7.1, Heap.size_push]
    rw [hsz] at e8 t8 z8
    refine wpAny_pure ⟨_, rfl, ?_⟩
    show Q (.ref q2.objs.size) ⟨h8, gn, d, tk2, os⟩
    rw [hsz]
    exact hQ x y h8 tk2 _ _ hx hy e8 (.inr ⟨_, rfl⟩) ⟨_, _, up _ _ S.TOz v2⟩ (D1.frame _ _ _ j1 fun b hb o e => up b o (fun q => S.zf1 (q ▸ hb)) e) (D2.frame _ _ _ j2 fun b hb o e => up b o (fun q => S.zf2 (q ▸ hb)) e) t8 z8 fun c o cz cT c1 c2 e => up c o cz (hkk c o cz cT c1 c2 e)
  | false =>
    simp only [Bool.false_eq_true, if_false]
    refine wpAny_bind ?_
    rw [← Array.forIn_toList]
    simp only [List.forIn_cons, List.forIn_nil]
    refine wpAny_bind (wpAny_bind (wpAny_holding ?_))
    show wpAny _ _ (Builtin.SmallTypes.nextOf (.ref i1) >>= _) _ _ ⟨g0, gn, d, tk0, os⟩
    refine wpAny_bind (D1.item i _ _ _ l1 (D1.over st1 s0 S.zf1) fun x p1 tk1 hx t1 r1 => wpAny_pure ?_)
    replace r1 : Heap.SameBut i1 g0 p1 := r1
    refine wpAny_pure ?_
    refine wpAny_bind (wpAny_bind (wpAny_holding ?_))
    show wpAny _ _ (Builtin.SmallTypes.nextOf (.ref i2) >>= _) _ _ ⟨p1, gn, d, tk1, os⟩
    refine wpAny_bind (D2.item i _ _ _ l2 (D2.over (D2.over st2 s0 S.zf2) r1 S.sep1_2) fun y p2 tk2 hy t2 r2 => wpAny_pure ?_)
    replace r2 : Heap.SameBut i2 p1 p2 := r2
    refine wpAny_pure (wpAny_pure ?_)
    show wpAny _ _ (newTuple [x, y] >>= _) _ _ _
    refine wpAny_bind (wpAny_newTuple ?_)
    have hsz : p2.objs.size = hp.objs.size := by rw [r2.1, r1.1, s0.1]
    have hzz : ZR p2 z TI TO f0 f' := r2.extBut _ _ S.zi2 (r1.extBut _ _ S.zi1 hz0)
    have hkk : ∀ c o, c ≠ z → c ≠ i1 → c ≠ i2 → hp.get? c = some o → p2.get? c = some o := fun c o cz c1 c2 e => r2.extBut _ _ c2 (r1.extBut _ _ c1 (s0.extBut _ _ cz e))
    have j1 : St1 (i + 1) p2 := D1.over t1 r2 S.sep2_1
    refine wpAny_pure ⟨_, rfl, ?_⟩
    show Q (.ref p2.objs.size) ⟨p2.push { cls := .type "tuple", data := .seq #[x, y] }, gn, d, tk2, os⟩
    have up : ∀ c o, p2.get? c = some o → (p2.push { cls := .type "tuple", data := .seq #[x, y] }).get? c = some o := fun c o e => Heap.get?_push_of_some _ e
    have t8 : IsTupOf2 (p2.push { cls := .type "tuple", data := .seq #[x, y] }) p2.objs.size x y := Heap.get?_push_size _ rfl
    have z8 : (p2.push { cls := .type "tuple", data := .seq #[x, y] }).objs.size = p2.objs.size + 1 := Heap.size_push ..
    rw [hsz] at t8 z8 ⊢
    exact hQ x y _ tk2 f0 f' hx hy (up _ _ hzz) h0 ⟨_, _, up _ _ (r2.extBut _ _ S.Ti2 (r1.extBut _ _ S.Ti1 (s0.extBut _ _ S.TOz hTO)))⟩ (D1.frame _ _ _ j1 fun b hb o e => up b o e) (D2.frame _ _ _ t2 fun b hb o e => up b o e) t8 z8 fun c o cz cT c1 c2 e => up c o (hkk c o cz c1 c2 e)
theorem zip_end {Q : Fin → Shared → Prop} (S : ZipSep2 z TI TO i1 i2 fp1 fp2) (D1 : Draws prog w A i1 fp1 n1 P1 St1) (D2 : Draws prog w A i2 fp2 n2 P2 St2)
    (hz : ZR s.heap z TI TO f0 f) (h0 : Out f0) (hTI : IsTupOf2 s.heap TI (.ref i1) (.ref i2)) (hTO : IsTupOf2 s.heap TO a1 a2) (st1 : St1 i s.heap) (st2 : St2 i s.heap) (l1 : i ≤ n1) (l2 : i ≤ n2) (hend : i = n1 ∨ i = n2)
    (hE : ∀ h' tk e, (∀ c o, c ≠ z → c ≠ TO → c ≠ i1 → c ≠ i2 → s.heap.get? c = some o → h'.get? c = some o) → (∃ o, h'.get? e = some o ∧ o.cls = .type "StopIteration") → E (.ref e) { s with heap := h', toks := tk }) :
    wpAny (model prog w) A (Builtin.«zip.__next__» ⟨[.ref z], []⟩) Q E s := by
  obtain ⟨hp, gn, d, tk0, os⟩ := s
  show wpAny _ _ (field (.ref z) 2 >>= _) _ _ _
  refine wpAny_bind (wpAny_field hz rfl (x := .bool false) rfl ?_)
  show wpAny _ _ (field (.ref z) 3 >>= _) _ _ _
  refine wpAny_bind (wpAny_field hz rfl (x := .ref TI) rfl ?_)
  refine wpAny_bind (wpAny_seqItems hTI rfl ?_)
  show wpAny _ _ (Builtin.SmallTypes.ownedTupleIsFree (.ref z) >>= _) _ _ _
  refine wpAny_bind (isFree hz h0 fun b g0 f' hz0 s0 => ?_)
  replace s0 : Heap.SameBut z hp g0 := s0
  cases b with
  | true =>
    simp only [if_true]
    refine wpAny_bind (wpAny_rule ?_)
    refine wpAny_bind (wpAny_field hz0 rfl (x := .ref TO) rfl ?_)
    refine wpAny_bind (wpAny_setField_rec hz0 (by simp) fun g1 hz1 s1 => ?_)
    replace hz1 : ZR g1 z TI TO .ellipsis f' := hz1
    replace s1 : Heap.SameBut z g0 g1 := s1
    refine wpAny_bind ?_
    simp only [List.zipIdx_cons, List.zipIdx_nil, List.forIn_cons, List.forIn_nil]
    refine wpAny_bind (wpAny_bind (wpAny_onRaise ?_))
    show wpAny _ _ (Builtin.SmallTypes.nextOf (.ref i1) >>= _) _ _ ⟨g1, gn, d, tk0, os⟩
    by_cases hlt : i < n1
    · refine wpAny_bind (D1.item i _ _ _ hlt (D1.over (D1.over st1 s0 S.zf1) s1 S.zf1) fun x p1 tk1 hx t1 r1 => wpAny_pure ?_)
      replace r1 : Heap.SameBut i1 g1 p1 := r1
      have u1 : IsTupOf2 p1 TO a1 a2 := r1.extBut _ _ S.Ti1 (s1.extBut _ _ S.TOz (s0.extBut _ _ S.TOz hTO))
      refine wpAny_bind (wpAny_seqItems (s := ⟨p1, gn, d, tk1, os⟩) u1 rfl ?_)
      refine wpAny_bind (updateSeq_IsTupOf2 (s := ⟨p1, gn, d, tk1, os⟩) u1 fun q1 v1 w1 => ?_)
      replace w1 : Heap.SameBut TO p1 q1 := w1
      refine wpAny_bind (wpAny_letGo (wpAny_pure ?_))
      have e2 : i = n2 := by omega
      refine wpAny_bind (wpAny_bind (wpAny_onRaise ?_))
      show wpAny _ _ (Builtin.SmallTypes.nextOf (.ref i2) >>= _) _ _ ⟨q1, gn, d, tk1, os⟩
      refine wpAny_bind (D2.done ⟨q1, gn, d, tk1, os⟩ _ _ (by rw [← e2]; exact D2.over (D2.over (D2.over (D2.over st2 s0 S.zf2) s1 S.zf2) r1 S.sep1_2) w1 S.Tf2) fun q e hq he => ?_)
      replace hq : Heap.ExtBut i2 q1 q := hq
      obtain ⟨oe, hoe, hce⟩ := he
      replace hoe : q.get? e = some oe := hoe
      have hzq : ZR q z TI TO .ellipsis f' := hq _ _ S.zi2 (w1.extBut _ _ S.TOz.symm (r1.extBut _ _ S.zi1 hz1))
      have hez : e ≠ z := fun x => by subst x; rw [hzq] at hoe; cases hoe; simp at hce
      refine wpAny_setField_rec (s := ⟨q, gn, d, tk1, os⟩) hzq (by simp) fun q' _ hq' => ?_
      replace hq' : Heap.SameBut z q q' := hq'
      exact hE q' tk1 e (fun c o cz cT c1 c2 x => hq'.extBut _ _ cz (hq _ _ c2 (w1.extBut _ _ cT (r1.extBut _ _ c1 (s1.extBut _ _ cz (s0.extBut _ _ cz x)))))) ⟨oe, hq'.extBut _ _ hez hoe, hce⟩
    · have e1 : i = n1 := by omega
      refine wpAny_bind (D1.done ⟨g1, gn, d, tk0, os⟩ _ _ (by rw [← e1]; exact D1.over (D1.over st1 s0 S.zf1) s1 S.zf1) fun q e hq he => ?_)
      replace hq : Heap.ExtBut i1 g1 q := hq
      obtain ⟨oe, hoe, hce⟩ := he
      replace hoe : q.get? e = some oe := hoe
      have hzq : ZR q z TI TO .ellipsis f' := hq _ _ S.zi1 hz1
      have hez : e ≠ z := fun x => by subst x; rw [hzq] at hoe; cases hoe; simp at hce
      refine wpAny_setField_rec (s := ⟨q, gn, d, tk0, os⟩) hzq (by simp) fun q' _ hq' => ?_
      replace hq' : Heap.SameBut z q q' := hq'
      exact hE q' tk0 e (fun c o cz cT c1 c2 x => hq'.extBut _ _ cz (hq _ _ c1 (s1.extBut _ _ cz (s0.extBut _ _ cz x)))) ⟨oe, hq'.extBut _ _ hez hoe, hce⟩
  | false =>
    simp only [Bool.false_eq_true, if_false]
    refine wpAny_bind ?_
    rw [← Array.forIn_toList]
    simp only [List.forIn_cons, List.forIn_nil]
    refine wpAny_bind (wpAny_bind (wpAny_holding ?_))
    show wpAny _ _ (Builtin.SmallTypes.nextOf (.ref i1) >>= _) _ _ ⟨g0, gn, d, tk0, os⟩
    by_cases hlt : i < n1
    · refine wpAny_bind (D1.item i _ _ _ hlt (D1.over st1 s0 S.zf1) fun x p1 tk1 hx t1 r1 => wpAny_pure ?_)
      replace r1 : Heap.SameBut i1 g0 p1 := r1
      refine wpAny_pure ?_
      have e2 : i = n2 := by omega
      refine wpAny_bind (wpAny_bind (wpAny_holding ?_))
      show wpAny _ _ (Builtin.SmallTypes.nextOf (.ref i2) >>= _) _ _ ⟨p1, gn, d, tk1, os⟩
      refine wpAny_bind (D2.done ⟨p1, gn, d, tk1, os⟩ _ _ (by rw [← e2]; exact D2.over (D2.over st2 s0 S.zf2) r1 S.sep1_2) fun q e hq he => ?_)
      replace hq : Heap.ExtBut i2 p1 q := hq
      exact hE q tk1 e (fun c o cz cT c1 c2 x => hq _ _ c2 (r1.extBut _ _ c1 (s0.extBut _ _ cz x))) he
    · have e1 : i = n1 := by omega
      refine wpAny_bind (D1.done ⟨g0, gn, d, tk0, os⟩ _ _ (by rw [← e1]; exact D1.over st1 s0 S.zf1) fun q e hq he => ?_)
      replace hq : Heap.ExtBut i1 g0 q := hq
      exact hE q tk0 e (fun c o cz cT c1 c2 x => hq _ _ c1 (s0.extBut _ _ cz x)) he
theorem zip_pyNext {Q : Option Value → Shared → Prop} (S : ZipSep2 z TI TO i1 i2 fp1 fp2) (D1 : Draws prog w A.in1 i1 fp1 n1 P1 St1) (D2 : Draws prog w A.in1 i2 fp2 n2 P2 St2)
    (hz : ZR s.heap z TI TO f0 f) (h0 : Out f0) (hTI : IsTupOf2 s.heap TI (.ref i1) (.ref i2)) (hTO : IsTupOf2 s.heap TO a1 a2) (st1 : St1 i s.heap) (st2 : St2 i s.heap) (l1 : i < n1) (l2 : i < n2)
    (hQ : ∀ x y h' tk g0 g, P1 i x → P2 i y → ZR h' z TI TO g0 g → Out g0 → (∃ b1 b2, IsTupOf2 h' TO b1 b2) → St1 (i + 1) h' → St2 (i + 1) h' → IsTupOf2 h' s.heap.objs.size x y → h'.objs.size = s.heap.objs.size + 1 →
      (∀ c o, c ≠ z → c ≠ TO → c ≠ i1 → c ≠ i2 → s.heap.get? c = some o → h'.get? c = some o) → Q (some (.ref s.heap.objs.size)) { s with heap := h', toks := tk }) :
    wpAny (model prog w) A (pyNext (.ref z)) Q E s := by
  have hT : s.TypeIs (.ref z) "zip" := ⟨_, hz, rfl⟩
  unfold pyNext
  exact wpAny_bind (wpAny_attempt (wpAny_callSpecial?_slot (name := Str.ofString "__next__") hT F.slot_zip_next
    (wpAny_call_entry F.slot_zip_next hT F.entry_zip_next
      (zip_next S D1 D2 hz h0 hTI hTO st1 st2 l1 l2 fun x y h' tk g0 g c1 c2 c3 c4 c5 c6 c7 c8 c9 c10 => wpAny_pure (hQ x y h' tk g0 g c1 c2 c3 c4 c5 c6 c7 c8 c9 c10)) (F.args_zip_next_1 _))))
theorem zip_pyEnd {Q : Option Value → Shared → Prop} (S : ZipSep2 z TI TO i1 i2 fp1 fp2) (D1 : Draws prog w A.in1 i1 fp1 n1 P1 St1) (D2 : Draws prog w A.in1 i2 fp2 n2 P2 St2)
    (hz : ZR s.heap z TI TO f0 f) (h0 : Out f0) (hTI : IsTupOf2 s.heap TI (.ref i1) (.ref i2)) (hTO : IsTupOf2 s.heap TO a1 a2) (st1 : St1 i s.heap) (st2 : St2 i s.heap) (l1 : i ≤ n1) (l2 : i ≤ n2) (hend : i = n1 ∨ i = n2)
    (hQ : ∀ h' tk, (∀ c o, c ≠ z → c ≠ TO → c ≠ i1 → c ≠ i2 → s.heap.get? c = some o → h'.get? c = some o) → Q none { s with heap := h', toks := tk }) : wpAny (model prog w) A (pyNext (.ref z)) Q E s := by
  have hT : s.TypeIs (.ref z) "zip" := ⟨_, hz, rfl⟩
  unfold pyNext
  refine wpAny_bind (wpAny_attempt (wpAny_callSpecial?_slot (name := Str.ofString "__next__") hT F.slot_zip_next
    (wpAny_call_entry F.slot_zip_next hT F.entry_zip_next (zip_end S D1 D2 hz h0 hTI hTO st1 st2 l1 l2 hend fun h' tk e hk he => ?_) (F.args_zip_next_1 _))))
  obtain ⟨o, ho, hc⟩ := he
  refine wpAny_bind (wpAny_isInstance (T := "StopIteration") (b := true) ⟨o, ho, hc⟩ isSubtype_stop ?_)
  exact wpAny_pure (hQ _ _ hk)
theorem zip_nextOf {Q : Value → Shared → Prop} (S : ZipSep2 z TI TO i1 i2 fp1 fp2) (D1 : Draws prog w A.in1 i1 fp1 n1 P1 St1) (D2 : Draws prog w A.in1 i2 fp2 n2 P2 St2)
    (hz : ZR s.heap z TI TO f0 f) (h0 : Out f0) (hTI : IsTupOf2 s.heap TI (.ref i1) (.ref i2)) (hTO : IsTupOf2 s.heap TO a1 a2) (st1 : St1 i s.heap) (st2 : St2 i s.heap) (l1 : i < n1) (l2 : i < n2)
    (hQ : ∀ x y h' tk g0 g, P1 i x → P2 i y → ZR h' z TI TO g0 g → Out g0 → (∃ b1 b2, IsTupOf2 h' TO b1 b2) → St1 (i + 1) h' → St2 (i + 1) h' → IsTupOf2 h' s.heap.objs.size x y → h'.objs.size = s.heap.objs.size + 1 →
      (∀ c o, c ≠ z → c ≠ TO → c ≠ i1 → c ≠ i2 → s.heap.get? c = some o → h'.get? c = some o) → Q (.ref s.heap.objs.size) { s with heap := h', toks := tk }) :
    wpAny (model prog w) A (Builtin.SmallTypes.nextOf (.ref z)) Q E s := by
  have hT : s.TypeIs (.ref z) "zip" := ⟨_, hz, rfl⟩
  unfold Builtin.SmallTypes.nextOf
  exact wpAny_bind (wpAny_callSpecial?_slot (name := Str.ofString "__next__") hT F.slot_zip_next
    (wpAny_call_entry F.slot_zip_next hT F.entry_zip_next
      (zip_next S D1 D2 hz h0 hTI hTO st1 st2 l1 l2 fun x y h' tk g0 g c1 c2 c3 c4 c5 c6 c7 c8 c9 c10 => wpAny_pure (hQ x y h' tk g0 g c1 c2 c3 c4 c5 c6 c7 c8 c9 c10)) (F.args_zip_next_1 _)))
theorem zip_nextOfEnd {Q : Value → Shared → Prop} (S : ZipSep2 z TI TO i1 i2 fp1 fp2) (D1 : Draws prog w A.in1 i1 fp1 n1 P1 St1) (D2 : Draws prog w A.in1 i2 fp2 n2 P2 St2)
    (hz : ZR s.heap z TI TO f0 f) (h0 : Out f0) (hTI : IsTupOf2 s.heap TI (.ref i1) (.ref i2)) (hTO : IsTupOf2 s.heap TO a1 a2) (st1 : St1 i s.heap) (st2 : St2 i s.heap) (l1 : i ≤ n1) (l2 : i ≤ n2) (hend : i = n1 ∨ i = n2)
    (hE : ∀ h' tk e, (∀ c o, c ≠ z → c ≠ TO → c ≠ i1 → c ≠ i2 → s.heap.get? c = some o → h'.get? c = some o) → (∃ o, h'.get? e = some o ∧ o.cls = .type "StopIteration") → E (.ref e) { s with heap := h', toks := tk }) :
    wpAny (model prog w) A (Builtin.SmallTypes.nextOf (.ref z)) Q E s := by
  have hT : s.TypeIs (.ref z) "zip" := ⟨_, hz, rfl⟩
  unfold Builtin.SmallTypes.nextOf
  exact wpAny_bind (wpAny_callSpecial?_slot (name := Str.ofString "__next__") hT F.slot_zip_next
    (wpAny_call_entry F.slot_zip_next hT F.entry_zip_next (zip_end S D1 D2 hz h0 hTI hTO st1 st2 l1 l2 hend hE) (F.args_zip_next_1 _)))
/-- enumerate over any iterator whose next item is told -/
theorem enum_next {e it : Addr} {c : Int} {old : Value} {Q : Value → Shared → Prop} {R : Value → Heap → Nat → Prop} (he : IsEnum s.heap e it c old)
    (hin : ∀ Q' : Value → Shared → Prop, (∀ x h1 tk, R x h1 tk → Q' x { s with heap := h1, toks := tk }) → wpAny (model prog w) A (Builtin.SmallTypes.nextOf (.ref it)) Q' E s)
    (hR : ∀ x h1 tk, R x h1 tk → IsEnum h1 e it c old)
    (hQ : ∀ x h1 tk h', R x h1 tk → IsEnumOut h' e it (c + 1) x h1.objs.size → h'.get? h1.objs.size = some { cls := .type "tuple", data := .seq #[.int c tk, x] } → h'.objs.size = h1.objs.size + 1 →
      (∀ b o, b ≠ e → h1.get? b = some o → h'.get? b = some o) → Q (.ref h1.objs.size) { s with heap := h', toks := tk + 1 }) :
    wpAny (model prog w) A (Builtin.«enumerate.__next__» ⟨[.ref e], []⟩) (fun fin s' => ∃ v, fin = .done (.ret v) ∧ Q v s') E s := by
  obtain ⟨hp, gn, d, tk0, os⟩ := s
  show wpAny _ _ (field (.ref e) 2 >>= _) _ _ _
  refine wpAny_bind (wpAny_field he rfl (x := .ref it) rfl ?_)
  refine wpAny_bind (hin _ fun x h1 tk hx => ?_)
  have e1 : IsEnum h1 e it c old := hR x h1 tk hx
  show wpAny _ _ (field (.ref e) 3 >>= _) _ _ ⟨h1, gn, d, tk, os⟩
  refine wpAny_bind (wpAny_field e1 rfl (x := rawInt c) rfl ?_)
  show wpAny _ _ (field (.ref e) 4 >>= _) _ _ ⟨h1, gn, d, tk, os⟩
  refine wpAny_bind (wpAny_field e1 rfl (x := .none) rfl ?_)
  show wpAny _ _ (mkInt c >>= _) _ _ ⟨h1, gn, d, tk, os⟩
  refine wpAny_bind (wpAny_mkInt ?_)
  show wpAny _ _ (setField (.ref e) 3 (rawInt (c + 1)) >>= _) _ _ ⟨h1, gn, d, tk + 1, os⟩
  refine wpAny_bind (wpAny_setField_rec e1 (by simp) fun h2 e2 s2 => ?_)
  replace s2 : Heap.SameBut e h1 h2 := s2
  replace e2 : IsEnum h2 e it (c + 1) old := e2
  show wpAny _ _ (setField (.ref e) 4 .none >>= _) _ _ ⟨h2, gn, d, tk + 1, os⟩
  refine wpAny_bind (wpAny_setField_rec e2 (by simp) fun h3 e3 s3 => ?_)
  replace s3 : Heap.SameBut e h2 h3 := s3
  replace e3 : IsEnum h3 e it (c + 1) old := e3
  show wpAny _ _ (newTuple [.int c tk, x] >>= _) _ _ ⟨h3, gn, d, tk + 1, os⟩
  refine wpAny_bind (wpAny_newTuple ?_)
  have e4 : IsEnum (h3.push { cls := .type "tuple", data := .seq #[.int c tk, x] }) e it (c + 1) old := Heap.get?_push_of_some _ e3
  generalize hh : h3.push { cls := .type "tuple", data := .seq #[.int c tk, x] } = h4 at e4
  have hsz : h3.objs.size = h1.objs.size := by rw [s3.1, s2.1]
  have hel : e < h1.objs.size := Heap.lt_size e1
  have t4 : h4.get? h1.objs.size = some { cls := .type "tuple", data := .seq #[.int c tk, x] } := by rw [← hh, ← hsz]; exact Heap.get?_push_size _ rfl
  have z4 : h4.objs.size = h1.objs.size + 1 := by rw [← hh, Heap.size_push, hsz]
  have k4 : ∀ b o, b ≠ e → h1.get? b = some o → h4.get? b = some o := fun b o hb y => by
    rw [← hh]; exact Heap.get?_push_of_some _ (s3.extBut b o hb (s2.extBut b o hb y))
  show wpAny _ _ (Builtin.SmallTypes.ownedTupleIsFree (.ref e) >>= _) _ _ ⟨h4, gn, d, tk + 1, os⟩
  rw [hsz]
  clear hh e3 s3 e2 s2 hsz h3 h2
  refine wpAny_bind ?_
  · unfold Builtin.SmallTypes.ownedTupleIsFree
    refine wpAny_bind (wpAny_field e4 rfl (x := .none) rfl (wpAny_pure ?_))
    simp only [if_true]
    refine wpAny_bind (wpAny_rule ?_)
    refine wpAny_bind (wpAny_field e4 rfl (x := old) rfl ?_)
    refine wpAny_bind (wpAny_setField_rec e4 (by simp) fun h5 e5 s5 => ?_)
    replace s5 : Heap.SameBut e h4 h5 := s5
    replace e5 : IsEnum h5 e it (c + 1) x := e5
    show wpAny _ _ (Builtin.SmallTypes.ownedTupleHandOut (.ref e) (.ref h1.objs.size) >>= _) _ _ ⟨h5, gn, d, tk + 1, os⟩
    refine wpAny_bind ?_
    · unfold Builtin.SmallTypes.ownedTupleHandOut
      refine wpAny_bind (wpAny_setField_rec e5 (by simp) fun h6 e6 s6 => ?_)
      replace s6 : Heap.SameBut e h5 h6 := s6
      replace e6 : IsEnumOut h6 e it (c + 1) x h1.objs.size := e6
      refine wpAny_setField_rec e6 (by simp) fun h7 e7 s7 => ?_
      replace s7 : Heap.SameBut e h6 h7 := s7
      replace e7 : IsEnumOut h7 e it (c + 1) x h1.objs.size := e7
      refine wpAny_bind (wpAny_letGo (wpAny_pure ⟨_, rfl, hQ x h1 tk h7 hx e7 ?_ ?_ ?_⟩))
      · exact s7.extBut _ _ (Nat.ne_of_gt hel) (s6.extBut _ _ (Nat.ne_of_gt hel) (s5.extBut _ _ (Nat.ne_of_gt hel) t4))
      · rw [s7.1, s6.1, s5.1, z4]
      · exact fun b o hb y => s7.extBut b o hb (s6.extBut b o hb (s5.extBut b o hb (k4 b o hb y)))
theorem enum_pyNext {e it : Addr} {c : Int} {old : Value} {Q : Option Value → Shared → Prop} {R : Value → Heap → Nat → Prop} (he : IsEnum s.heap e it c old)
    (hin : ∀ (E' : Value → Shared → Prop) (Q' : Value → Shared → Prop), (∀ x h1 tk, R x h1 tk → Q' x { s with heap := h1, toks := tk }) → wpAny (model prog w) A.in1 (Builtin.SmallTypes.nextOf (.ref it)) Q' E' s)
    (hR : ∀ x h1 tk, R x h1 tk → IsEnum h1 e it c old)
    (hQ : ∀ x h1 tk h', R x h1 tk → IsEnumOut h' e it (c + 1) x h1.objs.size → h'.get? h1.objs.size = some { cls := .type "tuple", data := .seq #[.int c tk, x] } → h'.objs.size = h1.objs.size + 1 →
      (∀ b o, b ≠ e → h1.get? b = some o → h'.get? b = some o) → Q (some (.ref h1.objs.size)) { s with heap := h', toks := tk + 1 }) :
    wpAny (model prog w) A (pyNext (.ref e)) Q E s := by
  have hT : s.TypeIs (.ref e) "enumerate" := ⟨_, he, rfl⟩
  unfold pyNext
  exact wpAny_bind (wpAny_attempt (wpAny_callSpecial?_slot (name := Str.ofString "__next__") hT F.slot_enumerate_next
    (wpAny_call_entry F.slot_enumerate_next hT F.entry_enumerate_next
      (enum_next he (hin _) hR fun x h1 tk h' c1 c2 c3 c4 c5 => wpAny_pure (hQ x h1 tk h' c1 c2 c3 c4 c5)) (F.args_enumerate_next_1 _))))
theorem enum_pyEnd {e it : Addr} {c : Int} {old : Value} {Q : Option Value → Shared → Prop} {R : Heap → Nat → Prop} (he : IsEnum s.heap e it c old)
    (hin : ∀ (E' : Value → Shared → Prop) (Q' : Value → Shared → Prop), (∀ h1 tk x, R h1 tk → (∃ o, h1.get? x = some o ∧ o.cls = .type "StopIteration") → E' (.ref x) { s with heap := h1, toks := tk }) → wpAny (model prog w) A.in1 (Builtin.SmallTypes.nextOf (.ref it)) Q' E' s)
    (hQ : ∀ h1 tk, R h1 tk → Q none { s with heap := h1, toks := tk }) : wpAny (model prog w) A (pyNext (.ref e)) Q E s := by
  have hT : s.TypeIs (.ref e) "enumerate" := ⟨_, he, rfl⟩
  unfold pyNext
  refine wpAny_bind (wpAny_attempt (wpAny_callSpecial?_slot (name := Str.ofString "__next__") hT F.slot_enumerate_next
    (wpAny_call_entry F.slot_enumerate_next hT F.entry_enumerate_next ?_ (F.args_enumerate_next_1 _))))
  show wpAny _ _ (field (.ref e) 2 >>= _) _ _ _
  refine wpAny_bind (wpAny_field he rfl (x := .ref it) rfl ?_)
  refine wpAny_bind (hin _ _ fun h1 tk x hx hs => ?_)
  obtain ⟨o, ho, hc⟩ := hs
  refine wpAny_bind (wpAny_isInstance (T := "StopIteration") (b := true) ⟨o, ho, hc⟩ isSubtype_stop ?_)
  exact wpAny_pure (hQ _ _ hx)
end
theorem meets_enumerate_newZ {z TI TO : Addr} {f0 : Value} :
    Meets (Builtin.«enumerate.__new__» ⟨[.type "enumerate", .ref z], []⟩) (fun _ R s => IsZip s.heap z TI TO f0 ∧
      R (.ok (.ret (.ref s.heap.objs.size))) { s with heap := s.heap.push { cls := .type "enumerate", data := .fields #[.none, .bool false, .ref z, rawInt 0, .none, .none] } }) :=
  .of_wp fun prog w A R s h => by
    obtain ⟨hp, g, d, tk, os⟩ := s; obtain ⟨h1, h⟩ := h
    have hsub := sub_enumerate
    have q1 : ∀ {A' : Around} {E : Value → Shared → Prop} {Q : Value → Shared → Prop}, Q (.ref z) ⟨hp, g, d, tk, os⟩ → wpAny (model prog w) A' (pyIter (.ref z)) Q E ⟨hp, g, d, tk, os⟩ :=
      fun q => wpAny_pyIter_zip h1 q
    wp_walk using q1
    refine wpAny_stack_any fun st => wpAny_pure ?_
    split
    · rename_i c _ _ _ _ _
      cases (c == Value.type "enumerate")
      · wp_walk using q1
        exact ⟨_, rfl, h⟩
      · wp_walk using q1
        exact ⟨_, rfl, h⟩
    · wp_walk using q1
      exact ⟨_, rfl, h⟩
section
variable {prog : Program} {w : World} {A : Around} {E : Value → Shared → Prop} {s : Shared}
theorem enum_zip {z TI TO : Addr} {f0 : Value} {Q : Value → Shared → Prop} (hz : IsZip s.heap z TI TO f0)
    (h : ∀ h', IsEnum h' s.heap.objs.size z 0 .none → h'.objs.size = s.heap.objs.size + 1 →
      (∀ b o, s.heap.get? b = some o → h'.get? b = some o) → Q (.ref s.heap.objs.size) { s with heap := h' }) :
    wpAny (model prog w) A (call (.type "enumerate") [.ref z]) Q E s := by
  refine callType_new F.called_enumerate (by decide) (F.typeCall_enumerate_1 _) (F.newCall_enumerate_1 _) (fun obj => F.args_object_init_2 obj _) F.entry_enumerate_new
    meets_enumerate_newZ ⟨hz, ?_⟩
  have he : IsEnum (s.heap.push { cls := .type "enumerate", data := .fields #[.none, .bool false, .ref z, rawInt 0, .none, .none] }) s.heap.objs.size z 0 .none := Heap.get?_push_size _ rfl
  exact ⟨⟨_, he, rfl⟩, h _ he (Heap.size_push ..) fun b o x => Heap.get?_push_of_some _ x⟩
end
end EvZ
namespace Ev
open PySem PySem.Spec L2
open PyProof.Rows hiding St
open EvZ
theorem Sk.drawsA {X : Cx} {pins : List (Addr × Obj)} {σ : St} {H : Hp} {s : Shared} {k : Sk} {xs : List V} {it : Addr} (I : Inv X pins σ H s) (h : k.ok X.K H xs) (hne : it ∉ k.ins) :
    ∃ (P : Nat → Value → Prop) (St : Nat → Heap → Prop), (∀ A : Around, A.handled = none → Draws X.prog X.w A it (it :: k.ins) xs.length P St) ∧ (∀ i, k.tn it i s.heap → St i s.heap) ∧ (∀ i h, St i h → k.tn it i h) ∧
      ∀ i v, P i v → ∃ x, xs[i]? = some x ∧ RelV x v := by
  cases k with
  | lst a =>
    obtain ⟨its, r, p, _⟩ := I.list h
    have ne : a ≠ it := fun e => hne (by simp [Sk.ins, e])
    refine ⟨fun i v => its.toArray[i]? = some v, fun i h => h.IsListIter it a i ∧ h.IsList a its.toArray, fun A hA => ?_, fun i st => ⟨st, p.isList⟩, fun i h st => st.1, fun i v hv => ?_⟩
    · have := Draws.list (prog := X.prog) (w := X.w) (A := A) hA it a ne its.toArray
      rw [List.size_toArray, ← r.length] at this
      exact this
    · have hv : its.toArray[i]? = some v := hv
      rw [List.getElem?_toArray] at hv
      obtain ⟨hi, _⟩ := List.getElem?_eq_some_iff.mp hv
      have hx : xs[i]? = some (xs[i]'(by rw [r.length]; exact hi)) := List.getElem?_eq_getElem _
      obtain ⟨u, hu, ru⟩ := r.get hx
      rw [hv] at hu; cases hu
      exact ⟨_, hx, ru⟩
  | tup a =>
    obtain ⟨its, r, p, _⟩ := I.tuple h
    have ne : a ≠ it := fun e => hne (by simp [Sk.ins, e])
    refine ⟨fun i v => its.toArray[i]? = some v, fun i h => h.IsTupleIter it a i ∧ h.IsTuple a its.toArray, fun A hA => ?_, fun i st => ⟨st, p⟩, fun i h st => st.1, fun i v hv => ?_⟩
    · have := Draws.tuple (prog := X.prog) (w := X.w) (A := A) hA it a ne its.toArray
      rw [List.size_toArray, ← r.length] at this
      exact this
    · have hv : its.toArray[i]? = some v := hv
      rw [List.getElem?_toArray] at hv
      obtain ⟨hi, _⟩ := List.getElem?_eq_some_iff.mp hv
      have hx : xs[i]? = some (xs[i]'(by rw [r.length]; exact hi)) := List.getElem?_eq_getElem _
      obtain ⟨u, hu, ru⟩ := r.get hx
      rw [hv] at hu; cases hu
      exact ⟨_, hx, ru⟩
  | str x t =>
    have h : xs = x.cps.toList.map fun c => V.str ⟨#[c]⟩ := h
    subst h
    refine ⟨fun i v => ∃ c u, x.cps[i]? = some c ∧ v = .str ⟨#[c]⟩ u, fun i h => h.IsStrIter it (strIterType x) x t i, fun A hA => ?_, fun i st => st, fun i h st => st, fun i v hv => ?_⟩
    · have := Draws.text (prog := X.prog) (w := X.w) (A := A) hA it x t
      rw [show (x.cps.toList.map fun c => V.str ⟨#[c]⟩).length = x.cps.size by simp]
      exact this
    · obtain ⟨c, u, hc, rfl⟩ := hv
      have hc' : x.cps.toList[i]? = some c := by simpa using hc
      exact ⟨.str ⟨#[c]⟩, by rw [List.getElem?_map, hc']; rfl, u, rfl⟩
/-- the state of a zip of two -/
def ZSt (k1 k2 : Sk) (z TI TO i1 i2 : Addr) (i : Nat) (h : Heap) : Prop :=
  (∃ f0 f, ZR h z TI TO f0 f ∧ Out f0) ∧ IsTupOf2 h TI (.ref i1) (.ref i2) ∧ (∃ x y, IsTupOf2 h TO x y) ∧ k1.tn i1 i h ∧ k2.tn i2 i h
def zfp (z TI TO i1 i2 : Addr) : List Addr := [z, TI, TO, i1, i2]
theorem zfp_or {z TI TO i1 i2 c : Addr} (h : c ∈ zfp z TI TO i1 i2) : c = z ∨ c = TI ∨ c = TO ∨ c = i1 ∨ c = i2 := by simpa [zfp] using h
theorem ZSt.obj {k1 k2 : Sk} {z TI TO i1 i2 c : Addr} {i : Nat} {h : Heap} (st : ZSt k1 k2 z TI TO i1 i2 i h) (hc : c ∈ zfp z TI TO i1 i2) : ∃ o, h.get? c = some o ∧ ∀ v, o.data ≠ .cell v := by
  obtain ⟨⟨f0, f, hz, _⟩, hTI, ⟨x, y, hTO⟩, h1, h2⟩ := st
  rcases zfp_or hc with q | q | q | q | q
  · rw [q]; exact ⟨_, hz, fun v q => nomatch q⟩
  · rw [q]; exact ⟨_, hTI, fun v q => nomatch q⟩
  · rw [q]; exact ⟨_, hTO, fun v q => nomatch q⟩
  · rw [q]; exact Sk.tn_obj h1
  · rw [q]; exact Sk.tn_obj h2
theorem ZSt.keep {k1 k2 : Sk} {z TI TO i1 i2 : Addr} {i : Nat} {h h' : Heap} (st : ZSt k1 k2 z TI TO i1 i2 i h) (k : ∀ b ∈ zfp z TI TO i1 i2, ∀ o, h.get? b = some o → h'.get? b = some o) : ZSt k1 k2 z TI TO i1 i2 i h' := by
  obtain ⟨⟨f0, f, hz, q⟩, hTI, ⟨x, y, hTO⟩, h1, h2⟩ := st
  exact ⟨⟨f0, f, k z (by simp [zfp]) _ hz, q⟩, k TI (by simp [zfp]) _ hTI, ⟨x, y, k TO (by simp [zfp]) _ hTO⟩, Sk.tn_keep h1 fun o q => k i1 (by simp [zfp]) o q, Sk.tn_keep h2 fun o q => k i2 (by simp [zfp]) o q⟩
section
variable {X : Cx} {pins : List (Addr × Obj)} {σ : St} {H : Hp} {s : Shared} {k1 k2 : Sk} {xs ys : List V} {z TI TO i1 i2 : Addr}
/-- what the next turn of a zip does, whoever asks -/
theorem zip_turn (D : ZAp z TI TO i1 i2) (I : Inv X pins σ H s) (hf : ∀ b ∈ zfp z TI TO i1 i2, FpOk X pins H b) (hqx : k1.ok X.K H xs) (hqy : k2.ok X.K H ys) :
    ∃ fp1 fp2 P1 P2 St1 St2, ZipSep2 z TI TO i1 i2 fp1 fp2 ∧ (∀ A : Around, A.handled = none → Draws X.prog X.w A i1 fp1 xs.length P1 St1) ∧ (∀ A : Around, A.handled = none → Draws X.prog X.w A i2 fp2 ys.length P2 St2) ∧ (∀ i, k1.tn i1 i s.heap → St1 i s.heap) ∧ (∀ i, k2.tn i2 i s.heap → St2 i s.heap) ∧
      (∀ i h, St1 i h → k1.tn i1 i h) ∧ (∀ i h, St2 i h → k2.tn i2 i h) ∧ (∀ i v, P1 i v → ∃ x, xs[i]? = some x ∧ RelV x v) ∧ ∀ i v, P2 i v → ∃ x, ys[i]? = some x ∧ RelV x v := by
  have nin : ∀ (k : Sk) (zs : List V), k.ok X.K H zs → ∀ c ∈ zfp z TI TO i1 i2, c ∉ k.ins := fun k zs hk c hcm hb => Sk.apartF I hk (hf c hcm) hb rfl
  obtain ⟨P1, St1, D1, a1, b1, c1⟩ := Sk.drawsA I hqx (it := i1) (nin k1 xs hqx i1 (by simp [zfp]))
  obtain ⟨P2, St2, D2, a2, b2, c2⟩ := Sk.drawsA I hqy (it := i2) (nin k2 ys hqy i2 (by simp [zfp]))
  refine ⟨_, _, P1, P2, St1, St2, ⟨D.TIz, D.TOz, D.TITO, D.TIi1, by simp, ?_, ?_, D.TIi2, by simp, ?_, ?_, ?_, ?_⟩, D1, D2, a1, a2, b1, b2, c1, c2⟩
  · intro q; rcases List.mem_cons.mp q with q | q
    · exact D.zi1 q
    · exact nin k1 xs hqx z (by simp [zfp]) q
  · intro q; rcases List.mem_cons.mp q with q | q
    · exact D.Ti1 q
    · exact nin k1 xs hqx TO (by simp [zfp]) q
  · intro q; rcases List.mem_cons.mp q with q | q
    · exact D.zi2 q
    · exact nin k2 ys hqy z (by simp [zfp]) q
  · intro q; rcases List.mem_cons.mp q with q | q
    · exact D.Ti2 q
    · exact nin k2 ys hqy TO (by simp [zfp]) q
  · intro q; rcases List.mem_cons.mp q with q | q
    · exact D.i12 q
    · exact nin k2 ys hqy i1 (by simp [zfp]) q
  · intro q; rcases List.mem_cons.mp q with q | q
    · exact D.i12 q.symm
    · exact nin k1 xs hqx i2 (by simp [zfp]) q
/-- behind a turn: the pair is new, all but the zip's own stays -/
structure ZPost (k1 k2 : Sk) (z TI TO i1 i2 : Addr) (i : Nat) (x y : V) (s : Shared) (T : Addr) (h' : Heap) : Prop where
  fresh : T = s.heap.objs.size
  sz : h'.objs.size = s.heap.objs.size + 1
  st : ZSt k1 k2 z TI TO i1 i2 (i + 1) h'
  pair : ∃ u v, RelV x u ∧ RelV y v ∧ IsTupOf2 h' T u v
  kept : ∀ c o, c ∉ zfp z TI TO i1 i2 → s.heap.get? c = some o → h'.get? c = some o
theorem zip_post {i : Nat} {x y : V} {u v g0 : Value} {h' : Heap} {g : Bool} (D : ZAp z TI TO i1 i2) (ru : RelV x u) (rv : RelV y v) (hTI : IsTupOf2 s.heap TI (.ref i1) (.ref i2)) (hz : ZR h' z TI TO g0 g) (ho : Out g0) (hTO : ∃ b1 b2, IsTupOf2 h' TO b1 b2)
    (t1 : k1.tn i1 (i + 1) h') (t2 : k2.tn i2 (i + 1) h') (hT : IsTupOf2 h' s.heap.objs.size u v) (hs : h'.objs.size = s.heap.objs.size + 1) (hk : ∀ c o, c ≠ z → c ≠ TO → c ≠ i1 → c ≠ i2 → s.heap.get? c = some o → h'.get? c = some o) :
    ZPost k1 k2 z TI TO i1 i2 i x y s s.heap.objs.size h' :=
  ⟨rfl, hs, ⟨⟨g0, g, hz, ho⟩, hk _ _ D.TIz D.TITO D.TIi1 D.TIi2 hTI, hTO, t1, t2⟩, ⟨u, v, ru, rv, hT⟩, fun c o hb q => hk c o (fun e => hb (by simp [zfp, e])) (fun e => hb (by simp [zfp, e])) (fun e => hb (by simp [zfp, e])) (fun e => hb (by simp [zfp, e])) q⟩
end
/-! ### enumerate(zip(a, b)) -/
def ItezG (K : PySem.W.Frag) (k1 k2 : Sk) : It :=
  ⟨fun i H => ∃ (xs ys : List V) (x y : V), k1.ok K H xs ∧ k2.ok K H ys ∧ xs[i]? = some x ∧ ys[i]? = some y,
    fun i H v H' => ∃ T O x y, v = .ref O ∧ H T = none ∧ H O = none ∧ O ≠ T ∧ H' = upd (upd H T (.tup [x, y])) O (.tup [.int (i : Nat), .ref T]) ∧ (∀ xs, k1.ok K H xs → xs[i]? = some x) ∧ ∀ ys, k2.ok K H ys → ys[i]? = some y,
    fun i H => ∃ xs ys : List V, k1.ok K H xs ∧ k2.ok K H ys ∧ i ≤ xs.length ∧ i ≤ ys.length ∧ (xs.length = i ∨ ys.length = i)⟩
theorem turn_enumZip {P : Program} {w : World} {K : PySem.W.Frag} {elts : List Expr} {kk : Nat} {tpos : Pos} {k1 k2 : Sk} {e z TI TO i1 i2 : Addr} (D : ZAp z TI TO i1 i2) (ne : e ∉ zfp z TI TO i1 i2) :
    Turn P w K (.Tuple elts kk tpos) (ItezG K k1 k2) (e :: zfp z TI TO i1 i2) e (fun i h => (∃ old, IsEnum h e z ((i : Nat) : Int) old) ∧ ZSt k1 k2 z TI TO i1 i2 i h) where
  mem := by simp
  obj := fun i h st c hc => by
    obtain ⟨⟨old, he⟩, st⟩ := st
    rcases List.mem_cons.mp hc with q | q
    · rw [q]; exact ⟨_, he, fun v q => nomatch q⟩
    · exact st.obj q
  keep := fun i h h' st k => by
    obtain ⟨⟨old, he⟩, st⟩ := st
    exact ⟨⟨old, k e (by simp) _ he⟩, st.keep fun b hb o q => k b (List.mem_cons_of_mem _ hb) o q⟩
  item := by
    intro X hP hw hK hc i pins s σ H E I hf st hg
    subst hP hw hK
    obtain ⟨⟨old, he⟩, st⟩ := st
    obtain ⟨xs, ys, x, y, hqx, hqy, hx, hy⟩ := hg
    have hf' : ∀ b ∈ zfp z TI TO i1 i2, FpOk X pins H b := fun b hb => hf b (List.mem_cons_of_mem _ hb)
    obtain ⟨fp1, fp2, P1, P2, St1, St2, S, D1, D2, a1, a2, b1, b2, c1, c2⟩ := zip_turn D I hf' hqx hqy
    have hobj : ∀ b ∈ e :: zfp z TI TO i1 i2, b < s.heap.objs.size := fun b hb => by
      rcases List.mem_cons.mp hb with q | q
      · rw [q]; exact Heap.lt_size he
      · obtain ⟨o, q, _⟩ := st.obj q; exact Heap.lt_size q
    obtain ⟨⟨f0, f, hz, ho⟩, hTI, ⟨t1, t2, hTO⟩, n1, n2⟩ := st
    have ez : e ≠ z := fun q => ne (by simp [zfp, q])
    refine enum_pyNext (it := z) he (R := fun v h1 tk => v = .ref s.heap.objs.size ∧ ZPost k1 k2 z TI TO i1 i2 i x y s s.heap.objs.size h1) (fun E' Q' k => ?_) (fun v h1 tk r => r.2.kept e _ ne he) fun v h1 tk h' r eo hO hsz hk => ?_
    · refine zip_nextOf S (D1 _ (I.ok.hd hc)) (D2 _ (I.ok.hd hc)) hz ho hTI hTO (a1 i n1) (a2 i n2) (List.getElem?_eq_some_iff.mp hx).1 (List.getElem?_eq_some_iff.mp hy).1 fun u v h1 tk g0 g p1 p2 z1 o1 t1' m1 m2 T1 s1 hk1 => ?_
      obtain ⟨x', hx', ru⟩ := c1 i u p1
      obtain ⟨y', hy', rv⟩ := c2 i v p2
      rw [hx] at hx'; cases hx'
      rw [hy] at hy'; cases hy'
      exact k _ h1 tk ⟨rfl, zip_post D ru rv hTI z1 o1 t1' (b1 _ _ m1) (b2 _ _ m2) T1 s1 hk1⟩
    obtain ⟨rfl, r⟩ := r
    obtain ⟨u, v, ru, rv, hT⟩ := r.pair
    refine ⟨_, rfl, wpAny_letOwnedTupleGo_enum (s := { s with heap := h', toks := tk + 1 }) eo fun h'' he' sb => ?_⟩
    have eT : e ≠ s.heap.objs.size := Nat.ne_of_lt (hobj e (by simp))
    have eO : e ≠ h1.objs.size := Nat.ne_of_lt (by rw [r.sz]; exact Nat.lt_succ_of_lt (hobj e (by simp)))
    have OT : h1.objs.size ≠ s.heap.objs.size := by rw [r.sz]; exact Nat.succ_ne_self _
    have hT2 : h''.get? s.heap.objs.size = some { cls := .type "tuple", data := .seq #[u, v] } := (sb.2 _ eT.symm).trans (hk _ _ eT.symm hT)
    have hO2 : h''.get? h1.objs.size = some { cls := .type "tuple", data := .seq #[.int (i : Nat) tk, .ref s.heap.objs.size] } := (sb.2 _ eO.symm).trans hO
    have kk2 : ∀ b o, b ∉ e :: zfp z TI TO i1 i2 → s.heap.get? b = some o → h''.get? b = some o := fun b o hb q => by
      have be : b ≠ e := fun q' => hb (by simp [q'])
      exact (sb.2 b be).trans (hk b o be (r.kept b o (fun q' => hb (List.mem_cons_of_mem _ q')) q))
    have nH : H h1.objs.size = none := I.hok.fresh (by rw [r.sz]; exact Nat.le_succ _)
    have nT : ∀ b ∈ e :: zfp z TI TO i1 i2, b ≠ s.heap.objs.size := fun b hb => Nat.ne_of_lt (hobj b hb)
    have nO : ∀ b ∈ e :: zfp z TI TO i1 i2, b ≠ h1.objs.size := fun b hb => Nat.ne_of_lt (by rw [r.sz]; exact Nat.lt_succ_of_lt (hobj b hb))
    have I1 : Inv X pins σ (upd H s.heap.objs.size (.tup [x, y])) { s with heap := h1, toks := tk } :=
      I.turnedNew (t' := tk) (ch := e :: zfp z TI TO i1 i2) (fun b o hb q => r.kept b o (fun q' => hb (List.mem_cons_of_mem _ q')) q) hf (Nat.le_refl _) ⟨by show 2 ≤ sizeLine; decide, [u, v], .cons ru (.cons rv .nil), ⟨_, hT, rfl, _, rfl⟩⟩
    have f1 : ∀ b ∈ e :: zfp z TI TO i1 i2, FpOk X pins (upd H s.heap.objs.size (.tup [x, y])) b := fun b hb => ⟨by rw [upd_ne (nT b hb)]; exact (hf b hb).1, (hf b hb).2⟩
    have I2 : Inv X pins σ (upd (upd H s.heap.objs.size (.tup [x, y])) h1.objs.size (.tup [.int (i : Nat), .ref s.heap.objs.size])) { s with heap := h'', toks := tk + 1 } :=
      I1.turnedNew (t' := tk + 1) (ch := [e]) (fun b o hb q => (sb.2 b (fun q' => hb (by simp [q']))).trans (hk b o (fun q' => hb (by simp [q'])) q)) (fun b hb => f1 b (by rw [List.mem_singleton.mp hb]; simp)) (Nat.le_refl _)
        ⟨by show 2 ≤ sizeLine; decide, _, .cons ⟨_, rfl⟩ (.cons rfl .nil), ⟨_, hO2, rfl, _, rfl⟩⟩
    refine ⟨.ref h1.objs.size, _, I2, rfl, ⟨_, _, x, y, rfl, I.hok.fresh (Nat.le_refl _), nH, OT, rfl, fun l hl => by rw [Sk.inj I hl hqx]; exact hx, fun l hl => by rw [Sk.inj I hl hqy]; exact hy⟩, ⟨⟨.ref s.heap.objs.size, ?_⟩, r.st.keep fun b hb o q => ?_⟩, fun b hb => ?_⟩
    · have e1 : ((i + 1 : Nat) : Int) = (i : Int) + 1 := by omega
      rw [e1]; exact he'
    · have be : b ≠ e := fun q' => ne (q' ▸ hb)
      exact (sb.2 b be).trans (hk b o be q)
    · rw [upd_ne (nO b hb), upd_ne (nT b hb)]
      exact (hf b hb).1
  done := by
    intro X hP hw hK hc i pins s σ H E I hf st hg
    subst hP hw hK
    obtain ⟨⟨old, he⟩, st⟩ := st
    obtain ⟨xs, ys, hqx, hqy, l1, l2, hend⟩ := hg
    have hf' : ∀ b ∈ zfp z TI TO i1 i2, FpOk X pins H b := fun b hb => hf b (List.mem_cons_of_mem _ hb)
    obtain ⟨fp1, fp2, P1, P2, St1, St2, S, D1, D2, a1, a2, b1, b2, c1, c2⟩ := zip_turn D I hf' hqx hqy
    obtain ⟨⟨f0, f, hz, ho⟩, hTI, ⟨t1, t2, hTO⟩, n1, n2⟩ := st
    refine enum_pyEnd (it := z) he (R := fun h1 tk => ∀ c o, c ≠ z → c ≠ TO → c ≠ i1 → c ≠ i2 → s.heap.get? c = some o → h1.get? c = some o) (fun E' Q' k => ?_) fun h1 tk r => ?_
    · exact zip_nextOfEnd S (D1 _ (I.ok.hd hc)) (D2 _ (I.ok.hd hc)) hz ho hTI hTO (a1 i n1) (a2 i n2) l1 l2 (hend.imp Eq.symm Eq.symm) fun h1 tk x hk hx => k h1 tk x hk hx
    · exact ⟨rfl, I.turnedL (t' := tk) (ch := e :: zfp z TI TO i1 i2) (fun c o hb q => r c o (fun q' => hb (by simp [zfp, q'])) (fun q' => hb (by simp [zfp, q'])) (fun q' => hb (by simp [zfp, q'])) (fun q' => hb (by simp [zfp, q'])) q) hf⟩
  self := fun A i s Q E st h => let ⟨⟨_, he⟩, _⟩ := st; wpAny_pyIter_enum he h
section
variable {X : Cx} {e e2 : Expr}
/-- zip of two is made: its five objects -/
theorem zip_made {pins : List (Addr × Obj)} {σ : St} {H : Hp} {s : Shared} {k1 k2 : Sk} {xs ys : List V} {Q : Value → Shared → Prop} (I : Inv X pins σ H s) (o1 : k1.ok X.K H xs) (o2 : k2.ok X.K H ys)
    (k : ∀ (z TI TO i1 i2 : Addr) (h' : Heap), ZAp z TI TO i1 i2 → IsZip h' z TI TO .none → ZSt k1 k2 z TI TO i1 i2 0 h' → Inv X pins σ H { s with heap := h' } → (∀ b ∈ zfp z TI TO i1 i2, FpOk X pins H b) → (∀ b ∈ zfp z TI TO i1 i2, b < h'.objs.size) → Q (.ref z) { s with heap := h' }) :
    wpAny (model X.prog X.w) X.A (call (.type "zip") [Sk.v k1, Sk.v k2]) Q X.xe s := by
  obtain ⟨Hh1, B1, b1⟩ := Sk.begins I o1
  obtain ⟨Hh2, B2, b2⟩ := Sk.begins I o2
  refine zip_begins2 B1 B2 b1 b2 fun h' hz hTI hTO h1 h2 hsz hk => ?_
  refine k _ _ _ _ _ h' ?_ hz ⟨⟨_, _, hz, .inl rfl⟩, hTI, ⟨_, _, hTO⟩, Sk.tn0 h1, Sk.tn0 h2⟩ (I.kept (t' := s.toks) hk) (fun c hcm => ?_) (fun c hcm => ?_)
  · constructor <;> (intro z; have z : (_ : Nat) = _ := z; omega)
  · have hle : s.heap.objs.size ≤ c := by
      rcases zfp_or hcm with z | z | z | z | z
      · rw [z]; exact Nat.le_add_right _ _
      · rw [z]; exact Nat.le_add_right _ _
      · rw [z]; exact Nat.le_add_right _ _
      · rw [z]; exact Nat.le_refl _
      · rw [z]; exact Nat.le_add_right _ _
    exact I.fpOk hle (I.hok.fresh hle)
  · rw [hsz]
    rcases zfp_or hcm with z | z | z | z | z <;> (rw [z]; show (_ : Nat) < _; omega)
def iEnumZip (K : PySem.W.Frag) (ta : TA) : TI := fun σ H R => ta σ H fun vs H1 => ∃ v w, vs = [v, w] ∧ ∀ u1 u2, RelV v u1 → RelV w u2 → ∃ k1 k2 xs ys, u1 = Sk.v k1 ∧ u2 = Sk.v k2 ∧ Sk.ok K H1 xs k1 ∧ Sk.ok K H1 ys k2 ∧ R (ItezG K k1 k2) H1
theorem pi_enumZip {ta : TA} {p pz pos zpos tpos : Pos} {elts : List Expr} {kk : Nat} (hg : Gl X "enumerate") (hm : X.mg "enumerate" = none) (hgz : Gl X "zip") (hmz : X.mg "zip" = none) (ha : PA X [e, e2] ta) (hs : notStar e = true) (hs2 : [e2].all notStar = true) :
    PI X (.Tuple elts kk tpos) (.Call (.Name "enumerate" p) [.Call (.Name "zip" pz) [e, e2] [] zpos] [] pos) (iEnumZip X.K ta) := by
  refine ⟨fun pins s σ H R I h => ?_⟩
  refine Call_ (ld_blt I hg hm PyProof.Rows.boot_enumerate (PyProof.Rows.callWith_type1 ?_ (starEach_cons rfl) rfl))
  rw [starEach_cons rfl]
  show wpAny _ _ (spliced ((false, eval (.Call (.Name "zip" pz) [e, e2] [] zpos) X.env) :: backTo pos (starEach [] X.env))) _ _ _
  refine Calls.spliced_cons (Call_ (ld_blt I hgz hmz PyProof.Rows.boot_zip (PyProof.Rows.callWith_type1 (thn (ha.run zpos pins s σ H _ I h) fun us s1 ⟨vs, H1, I1, r1, q1⟩ => ?_) (starEach_cons hs) (backTo_plain hs2))))
  obtain ⟨v, w, ex, q1⟩ := q1
  subst ex
  cases r1 with
  | cons r rr =>
    cases rr with
    | cons r' rr =>
      cases rr
      obtain ⟨k1, k2, xs, ys, rfl, rfl, o1, o2, q⟩ := q1 _ _ r r'
      refine zip_made I1 o1 o2 fun z TI TO i1 i2 h' D hz st I2 hf hlt => ?_
      refine Calls.spliced_nil ?_
      refine enum_zip (s := { s1 with heap := h' }) hz fun h'' he hsz hk => wpAny_pyIter_enum he ?_
      have I3 : Inv X pins σ H1 { s1 with heap := h'' } := I2.kept (t' := s1.toks) hk
      refine ⟨h'.objs.size, _, _, _, H1, rfl, I3, turn_enumZip D (fun hb => Nat.lt_irrefl _ (hlt _ hb)), ⟨⟨.none, he⟩, st.keep fun b _ o q => hk b o q⟩, fun b hb => ?_, q⟩
      rcases List.mem_cons.mp hb with q' | q'
      · rw [q']; exact I2.fpOk (Nat.le_refl _) (I2.hok.fresh (Nat.le_refl _))
      · exact hf b q'
def enumZipD : List D → Option (List D)
  | [a, b] => match itemsD a, itemsD b with
    | some xs, some ys => some (enumFrom 0 (zipD xs ys))
    | _, _ => none
  | _ => none
theorem di_enumZip {f : M (List D)} {p pz pos zpos tpos : Pos} {elts : List Expr} {kk : Nat} (hg : Gl X "enumerate") (hm : X.mg "enumerate" = none) (hgz : Gl X "zip") (hmz : X.mg "zip" = none) (ha : DA X [e, e2] f) (hs : notStar e = true) (hs2 : [e2].all notStar = true) :
    DI X (.Tuple elts kk tpos) (.Call (.Name "enumerate" p) [.Call (.Name "zip" pz) [e, e2] [] zpos] [] pos) (cRng enumZipD f) := by
  refine ⟨fun W tk => PI.weak (pi_enumZip hg hm hgz hmz (ha.run W tk) hs hs2) fun pins s σ H R I h => ?_⟩
  obtain ⟨G, F, δ, r, h⟩ := h
  refine bindA r .refl h fun ds δ1 vs F1 H1 s1 r1 q1 h => ?_
  cases e : enumZipD ds with
  | none => rw [e] at h; exact h.elim
  | some l =>
    rw [e] at h
    unfold enumZipD at e
    split at e
    · rename_i a b
      split at e
      · rename_i xs ys ea eb
        cases e
        unfold RepL at q1
        obtain ⟨v, t, rfl, p, q1⟩ := q1
        unfold RepL at q1
        obtain ⟨v2, t2, rfl, p2, q1⟩ := q1
        unfold RepL at q1
        subst q1
        refine ⟨v, v2, rfl, fun u1 u2 ru1 ru2 => ?_⟩
        obtain ⟨k1, as, rfl, o1, l1⟩ := sk_of p ea ru1
        obtain ⟨k2, bs, rfl, o2, l2⟩ := sk_of p2 eb ru2
        have hlen : (enumFrom 0 (zipD xs ys)).length = min as.length bs.length := by rw [enumFrom_len]; simp [zipD, l1.length, l2.length]
        refine ⟨k1, k2, as, bs, rfl, rfl, o1 _ r1.subF, o2 _ r1.subF, h _ F1 H1 .refl r1 ?_⟩
        refine ⟨fun H => Sk.ok X.K H as k1 ∧ Sk.ok X.K H bs k2, fun i H v H' => ∃ T O x y, v = .ref O ∧ H T = none ∧ H O = none ∧ O ≠ T ∧ H' = upd (upd H T (.tup [x, y])) O (.tup [.int (i : Nat), .ref T]) ∧ as[i]? = some x ∧ bs[i]? = some y, ⟨fun i H hi q => ?_, fun H q => ?_, fun i H v H' hi q y => ?_⟩, fun H s => ⟨o1 H s, o2 H s⟩, fun i H x H' F2 hi s1 s2 y => ?_⟩
        · have hl : i < min as.length bs.length := by rw [← hlen]; exact hi
          have hl1 : i < as.length := by omega
          have hl2 : i < bs.length := by omega
          exact ⟨as, bs, as[i], bs[i], q.1, q.2, List.getElem?_eq_getElem hl1, List.getElem?_eq_getElem hl2⟩
        · exact ⟨as, bs, q.1, q.2, by omega, by omega, by omega⟩
        · obtain ⟨T, O, x, y, z1, z2, z3, z4, z5, z6, z7⟩ := y
          exact ⟨T, O, x, y, z1, z2, z3, z4, z5, z6 as q.1, z7 bs q.2⟩
        · obtain ⟨T, O, x, y, rfl, z2, z3, z4, rfl, z6, z7⟩ := y
          obtain ⟨d1, e1, p1⟩ := l1.getV z6
          obtain ⟨d2, e2, p2⟩ := l2.getV z7
          refine ⟨.tup [.int ((i : Nat) : Int), .tup [d1, d2]], ?_, .inr (.inr fun G σ δ r => ?_)⟩
          · have := enumFrom_get (zipD xs ys) 0 i (.tup [d1, d2]) (by unfold zipD; rw [List.getElem?_zipWith, e1, e2])
            rw [Nat.zero_add] at this; exact this
          · have nT := s2.nn z2
            have nO : upd H T (.tup [x, y]) O = none := by rw [upd_ne z4]; exact z3
            have r1 := r.allocF (o := .tup [x, y]) z2
            have nF : upd F2 T (.tup [x, y]) O = none := r1.subF.nn nO
            have r2 := r1.allocF (o := .tup [.int (i : Nat), .ref T]) nO
            have sA : Sb F2 (upd F2 T (.tup [x, y])) := .upd_new nT
            have sB : Sb (upd F2 T (.tup [x, y])) (upd (upd F2 T (.tup [x, y])) O (.tup [.int (i : Nat), .ref T])) := .upd_new nF
            refine ⟨_, sA.trans sB, r2, ?_⟩
            unfold Rep
            refine ⟨O, _, rfl, upd_same, .cons (rep_int _) (.one ?_)⟩
            refine Rep.sub sB _ _ ?_
            unfold Rep
            exact ⟨T, _, rfl, upd_same, .cons (Rep.sub (s1.trans sA) _ _ p1) (.one (Rep.sub (s1.trans sA) _ _ p2))⟩
      · cases e
    · cases e
end
end Ev
set_option Elab.async false
set_option linter.all false
set_option autoImplicit false
set_option maxRecDepth 100000
set_option maxHeartbeats 4000000
namespace EvW
open PySem
open Sem (wp)
open PySem.Spec
theorem zip_no_len : typeLookup (.type "zip") "__len__" = pure none := by rw [typeLookup_type, builtinLookup_eq_fast]; kernel_rfl
theorem zip_no_hint : typeLookup (.type "zip") "__length_hint__" = pure none := by rw [typeLookup_type, builtinLookup_eq_fast]; kernel_rfl
section
variable {prog : Program} {w : World} {A : Around} {s : Shared} {R : Result → Shared → Prop}
theorem extend_zip {z TI TO : Addr} {f0 : Value} (hz : IsZip s.heap z TI TO f0) (S : Addr) (res : Value) (c₀ : Nat) (hSz : S ≠ z) (hS : s.heap.get? S = some { cls := .type "list", data := .seq #[] c₀ })
    (k : ∀ h' c, (∀ b o, b ≠ S → s.heap.get? b = some o → h'.get? b = some o) → h'.get? S = some { cls := .type "list", dict := none, data := .seq #[] c, slots := #[] } →
      codeAny (model prog w) A (.builtin "list.extend.loop" ⟨[.ref S, .ref z, res], []⟩) R { s with heap := h' }) :
    wpAny (model prog w) A.in1 (Builtin.List.listExtendWith (.ref S) (.ref z) res)
      (fun fin s' => match fin with | .done f => R (.ok f) s' | .again c' => c'.quiet = true ∧ codeAny (model prog w) A c' R s') (fun e s' => R (.error e) s') s := by
  have hT : s.TypeIs (.ref z) "zip" := ⟨_, hz, rfl⟩
  unfold Builtin.List.listExtendWith
  refine wpAny_bind (wpAny_typeOf hT ?_)
  have h1 : Builtin.List.listSameRef (.ref S) (.ref z) = false := by simp [Builtin.List.listSameRef, hSz]
  have h2 : (Value.type "zip" == Value.type "list") = false := by decide
  have h3 : (Value.type "zip" == Value.type "tuple") = false := by decide
  simp only [h1, h2, h3, Bool.or_false, Bool.false_eq_true, if_false]
  refine wpAny_bind (wpAny_pyIter_zip hz ?_)
  refine wpAny_bind (wpAny_holding ?_)
  unfold Builtin.List.listLengthHint
  refine wpAny_bind (wpAny_specialOf hT zip_no_len ?_)
  show wpAny _ A.in1 (specialOf (Value.ref z) (Str.ofString "__length_hint__") >>= _) _ _ _
  refine wpAny_bind (wpAny_specialOf hT zip_no_hint ?_)
  refine wpAny_pure ?_
  show wpAny _ A.in1 (rule "list.extend.makes-room" >>= fun _ => Builtin.List.listTouch (.ref S) >>= fun _ =>
    again (.builtin "list.extend.loop" ⟨[.ref S, .ref z, res], []⟩)) _ _ _
  refine wpAny_bind (wpAny_rule ?_)
  refine wpAny_bind ?_
  show wpAny _ A.in1 (updateSeq S (·.push .none) >>= fun _ => updateSeq S (·.pop)) _ _ _
  refine wpAny_bind (wpAny_updateSeq hS rfl ?_)
  have hS₂ := Heap.get?_update_self (Obj.mapSeq (·.push Value.none)) hS rfl
  refine wpAny_updateSeq (hz := by seq_fits) hS₂ rfl ?_
  have hS₃ := Heap.get?_update_self (Obj.mapSeq (·.pop)) hS₂ rfl
  have oth : ∀ b o, b ≠ S → s.heap.get? b = some o → ((s.heap.update S (Obj.mapSeq (·.push Value.none))).update S (Obj.mapSeq (·.pop))).get? b = some o :=
    fun b o hb e => (Heap.get?_update_other _ _ (Ne.symm hb)).trans ((Heap.get?_update_other _ _ (Ne.symm hb)).trans e)
  exact wpAny_pure ⟨plainId_quiet F.plain_extend_loop _, k _ _ oth hS₃⟩
theorem init_zip {z TI TO : Addr} {f0 : Value} (hz : IsZip s.heap z TI TO f0) (S : Addr) (hSz : S ≠ z) (hS : s.heap.get? S = some { cls := .type "list", data := .seq #[] })
    (k : ∀ h' c, (∀ b o, b ≠ S → s.heap.get? b = some o → h'.get? b = some o) → h'.get? S = some { cls := .type "list", dict := none, data := .seq #[] c, slots := #[] } →
      codeAny (model prog w) A (.builtin "list.extend.loop" ⟨[.ref S, .ref z, .none], []⟩) R { s with heap := h' }) :
    wpAny (model prog w) A.in1 (Builtin.«list.__init__» ⟨[.ref S, .ref z], []⟩)
      (fun fin s' => match fin with | .done f => R (.ok f) s' | .again c' => c'.quiet = true ∧ codeAny (model prog w) A c' R s') (fun e s' => R (.error e) s') s := by
  show wpAny _ _ (do let old ← Builtin.List.listItems (.ref S); Builtin.List.listUpdate (.ref S) (fun _ => #[]); letGo old.toList.reverse; Builtin.List.listExtendWith (.ref S) (.ref z) .none) _ _ s
  refine wpAny_bind ?_
  unfold Builtin.List.listItems
  refine wpAny_bind (wpAny_seqItems hS rfl (wpAny_pure ?_))
  show wpAny _ _ (updateSeq S (fun _ => #[]) >>= fun _ => letGo (#[] : Array Value).toList.reverse >>= fun _ => Builtin.List.listExtendWith (.ref S) (.ref z) .none) _ _ s
  refine wpAny_bind (wpAny_updateSeq hS rfl ?_)
  have hS₂ := Heap.get?_update_self (Obj.mapSeq (fun _ => (#[] : Array Value))) hS rfl
  have oth : ∀ b o, b ≠ S → s.heap.get? b = some o → (s.heap.update S (Obj.mapSeq (fun _ => (#[] : Array Value)))).get? b = some o :=
    fun b o hb e => (Heap.get?_update_other _ _ (Ne.symm hb)).trans e
  refine wpAny_bind (wpAny_letGo ?_)
  refine extend_zip (oth z _ (Ne.symm hSz) hz) S .none _ hSz hS₂ fun h' c hk hS' => ?_
  exact k h' c (fun b o hb e => hk b o hb (oth b o hb e)) hS'
end
section
variable {prog : Program} {w : World} {A : Around} {E : Value → Shared → Prop} {s : Shared}
theorem call_list_zip {z TI TO : Addr} {f0 : Value} {Q : Value → Shared → Prop} (hz : IsZip s.heap z TI TO f0)
    (k : ∀ h' c, (∀ b o, s.heap.get? b = some o → h'.get? b = some o) → h'.get? s.heap.objs.size = some { cls := .type "list", dict := none, data := .seq #[] c, slots := #[] } →
      codeAny (model prog w) A.in1 (.builtin "list.extend.loop" ⟨[.ref s.heap.objs.size, .ref z, .none], []⟩) (wants (fun r s₂ => r = .none ∧ Q (.ref s.heap.objs.size) s₂) E) { s with heap := h' }) :
    wpAny (model prog w) A (call (.type "list") [.ref z]) Q E s := by
  refine callType_codes (Q₁ := fun obj s₁ => obj = .ref s.heap.objs.size ∧ s₁ = { s with heap := s.heap.push { cls := .type "list", data := .seq #[] } }) PySem.F.called_list (PySem.F.typeCall_list_1 _) PySem.F.entry_list_init
    (code_list_new _ ⟨rfl, rfl⟩) fun obj s₁ h₁ => ?_
  obtain ⟨rfl, rfl⟩ := h₁
  have hS : (s.heap.push { cls := .type "list", data := .seq #[] }).get? s.heap.objs.size = some { cls := .type "list", data := .seq #[] } := Heap.get?_push_size _ rfl
  have hzl : z < s.heap.objs.size := Heap.lt_size hz
  refine ⟨⟨_, hS, rfl⟩, PySem.F.args_list_init_2 _ _, init_zip (A := A.in1) (Heap.get?_push_of_some _ hz) _ (Nat.ne_of_gt hzl) hS fun h' c hk hS' => ?_⟩
  exact k h' c (fun b o e => hk b o (Nat.ne_of_lt (Heap.lt_size e)) (Heap.get?_push_of_some _ e)) hS'
end
end EvW
namespace Ev
open PySem PySem.Spec L2
open PyProof.Rows hiding St
open EvZ EvW
/-- new pairs, one after another -/
def ZG : Hp → List (V × V) → List V → Hp → Prop
  | H, [], us, H' => us = [] ∧ H' = H
  | H, p :: ps, us, H' => ∃ T t, us = .ref T :: t ∧ H T = none ∧ ZG (upd H T (.tup [p.1, p.2])) ps t H'
theorem Sk.okUp {K : PySem.W.Frag} {F H : Hp} {k : Sk} {xs : List V} (s : Sb F H) (h : k.ok K F xs) : k.ok K H xs := by
  cases k with
  | lst a => exact SqL.sub s h
  | tup a => exact SqT.sub s h
  | str x t => exact h
section
variable {X : Cx} {pins : List (Addr × Obj)} {σ : St} {k1 k2 : Sk} {xs ys : List V} {z TI TO i1 i2 S : Addr} {A : Around} {R : Result → Shared → Prop} {res : Value}
theorem list_zip_loop (D : ZAp z TI TO i1 i2) (hA : A.handled = none) (nS : S ∉ zfp z TI TO i1 i2) (hn : min xs.length ys.length ≤ sizeLine) :
    ∀ (n i : Nat) (H : Hp) (s : Shared) (acc : Array Value) (c : Nat) (us0 : List V), n + i = min xs.length ys.length → Inv X pins σ H s → k1.ok X.K H xs → k2.ok X.K H ys → (∀ b ∈ S :: zfp z TI TO i1 i2, FpOk X pins H b) →
      ZSt k1 k2 z TI TO i1 i2 i s.heap → s.heap.get? S = some { cls := .type "list", dict := none, data := .seq acc c, slots := #[] } → Vals us0 acc.toList → us0.length = i →
      (∀ H' s' acc' c' us, Inv X pins σ H' s' → s'.heap.get? S = some { cls := .type "list", dict := none, data := .seq acc' c', slots := #[] } → Vals (us0 ++ us) acc'.toList → FpOk X pins H' S → ZG H ((xs.zip ys).drop i) us H' → R (.ok (.ret res)) s') →
      codeAny (model X.prog X.w) A (.builtin "list.extend.loop" ⟨[.ref S, .ref z, res], []⟩) R s
  | 0, i, H, s, acc, c, us0, hni, I, hqx, hqy, hf, st, hS, hv, hl, hR => by
    have hf' : ∀ b ∈ zfp z TI TO i1 i2, FpOk X pins H b := fun b hb => hf b (List.mem_cons_of_mem _ hb)
    obtain ⟨fp1, fp2, P1, P2, St1, St2, Sp, D1, D2, a1, a2, b1, b2, c1, c2⟩ := zip_turn D I hf' hqx hqy
    obtain ⟨⟨f0, f, hz, ho⟩, hTI, ⟨t1, t2, hTO⟩, n1, n2⟩ := st
    refine codeAny_builtin F.entry_extend_loop ?_
    rw [Around.under_plainId F.plain_extend_loop _]
    show wpAny _ A.in1 (pyNext (.ref z) >>= _) _ _ s
    refine wpAny_bind (zip_pyEnd Sp (D1 _ hA) (D2 _ hA) hz ho hTI hTO (a1 i n1) (a2 i n2) (by omega) (by omega) (by omega) fun h' tk hk => ?_)
    have kk : ∀ b o, b ∉ zfp z TI TO i1 i2 → s.heap.get? b = some o → h'.get? b = some o := fun b o hb q =>
      hk b o (fun q' => hb (by simp [zfp, q'])) (fun q' => hb (by simp [zfp, q'])) (fun q' => hb (by simp [zfp, q'])) (fun q' => hb (by simp [zfp, q'])) q
    refine wpAny_pure (hR H _ acc c [] (I.turnedL (t' := tk) kk hf') (kk S _ nS hS) (by rw [List.append_nil]; exact hv) (hf S (by simp)) ?_)
    rw [List.drop_of_length_le (by rw [List.length_zip]; omega)]
    exact ⟨rfl, rfl⟩
  | n + 1, i, H, s, acc, c, us0, hni, I, hqx, hqy, hf, st, hS, hv, hl, hR => by
    have hf' : ∀ b ∈ zfp z TI TO i1 i2, FpOk X pins H b := fun b hb => hf b (List.mem_cons_of_mem _ hb)
    obtain ⟨fp1, fp2, P1, P2, St1, St2, Sp, D1, D2, a1, a2, b1, b2, c1, c2⟩ := zip_turn D I hf' hqx hqy
    have hobj : ∀ b ∈ S :: zfp z TI TO i1 i2, b < s.heap.objs.size := fun b hb => by
      rcases List.mem_cons.mp hb with q | q
      · rw [q]; exact Heap.lt_size hS
      · obtain ⟨o, q, _⟩ := st.obj q; exact Heap.lt_size q
    obtain ⟨⟨f0, f, hz, ho⟩, hTI, ⟨t1, t2, hTO⟩, n1, n2⟩ := st
    have l1 : i < xs.length := by omega
    have l2 : i < ys.length := by omega
    refine codeAny_builtin F.entry_extend_loop ?_
    rw [Around.under_plainId F.plain_extend_loop _]
    show wpAny _ A.in1 (pyNext (.ref z) >>= _) _ _ s
    refine wpAny_bind (zip_pyNext Sp (D1 _ hA) (D2 _ hA) hz ho hTI hTO (a1 i n1) (a2 i n2) l1 l2 fun u v h1 tk g0 g p1 p2 z1 o1 t1' m1 m2 T1 s1 hk1 => ?_)
    obtain ⟨x, hx, ru⟩ := c1 i u p1
    obtain ⟨y, hy, rv⟩ := c2 i v p2
    have post := zip_post (k1 := k1) (k2 := k2) D ru rv hTI z1 o1 t1' (b1 _ _ m1) (b2 _ _ m2) T1 s1 hk1
    have nT : ∀ b ∈ S :: zfp z TI TO i1 i2, b ≠ s.heap.objs.size := fun b hb => Nat.ne_of_lt (hobj b hb)
    have I1 : Inv X pins σ (upd H s.heap.objs.size (.tup [x, y])) { s with heap := h1, toks := tk } :=
      I.turnedNew (t' := tk) post.kept hf' (Nat.le_refl _) ⟨by show 2 ≤ sizeLine; decide, [u, v], .cons ru (.cons rv .nil), ⟨_, T1, rfl, _, rfl⟩⟩
    have f1 : ∀ b ∈ S :: zfp z TI TO i1 i2, FpOk X pins (upd H s.heap.objs.size (.tup [x, y])) b := fun b hb => ⟨by rw [upd_ne (nT b hb)]; exact (hf b hb).1, (hf b hb).2⟩
    have hS1 := post.kept S _ nS hS
    have hlen : acc.size = i := by rw [← Array.length_toList, ← hv.length, hl]
    show wpAny _ A.in1 (updateSeq S (·.push (.ref s.heap.objs.size)) >>= _) _ _ _
    refine wpAny_bind ?_
    refine wpAny_updateSeq hS1 rfl (wpAny_pure ⟨plainId_quiet F.plain_extend_loop _, ?_⟩) (by rw [hlen]; omega) (by show (acc.push _).size ≤ sizeLine + 1; rw [Array.size_push, hlen]; omega)
    obtain ⟨q0, q1, q2, q3, q4, q5⟩ := f1 S (by simp)
    have I2 : Inv X pins σ (upd H s.heap.objs.size (.tup [x, y])) { s with heap := h1.update S (Obj.mapSeq (·.push (.ref s.heap.objs.size))), toks := tk } :=
      Inv.turned (s := { s with heap := h1, toks := tk }) (t' := tk) (it := S) I1 (fun b o hb q => (Heap.get?_update_other _ _ (Ne.symm hb)).trans q) q0 q1 q3 q4 q5
    have hS2 := Heap.get?_update_self (Obj.mapSeq (·.push (.ref s.heap.objs.size))) hS1 rfl
    have sH : Sb H (upd H s.heap.objs.size (.tup [x, y])) := .upd_new (I.hok.fresh (Nat.le_refl _))
    refine list_zip_loop D hA nS hn n (i + 1) _ _ (acc.push (.ref s.heap.objs.size)) _ (us0 ++ [.ref s.heap.objs.size]) (by omega) I2 (Sk.okUp sH hqx) (Sk.okUp sH hqy) f1 (post.st.keep fun b hb o q => ?_) hS2 ?_ (by simp [hl]) fun H' s' acc' c' us I' hS' hv' hn' hg => ?_
    · have hb' : S ≠ b := fun q' => nS (q' ▸ hb)
      exact (Heap.get?_update_other _ _ hb').trans q
    · rw [Array.toList_push]
      exact hv.append (.cons rfl .nil)
    · refine hR H' s' acc' c' (.ref s.heap.objs.size :: us) I' hS' (by rw [List.append_assoc] at hv'; exact hv') hn' ?_
      have hd : (xs.zip ys).drop i = (x, y) :: (xs.zip ys).drop (i + 1) := by
        have hi : i < (xs.zip ys).length := by rw [List.length_zip]; omega
        rw [List.drop_eq_getElem_cons hi]
        congr 1
        have := List.getElem?_eq_getElem hi
        rw [show (xs.zip ys)[i]? = some (x, y) from List.getElem?_zip_eq_some.mpr ⟨hx, hy⟩] at this
        injection this with this
        exact this.symm
      rw [hd]
      exact ⟨_, us, rfl, I.hok.fresh (Nat.le_refl _), hg⟩

theorem ZG.len : ∀ {ps : List (V × V)} {us : List V} {H H' : Hp}, ZG H ps us H' → us.length = ps.length
  | [], us, H, H', h => by obtain ⟨rfl, _⟩ := h; rfl
  | p :: ps, us, H, H', h => by obtain ⟨T, t, rfl, _, h⟩ := h; simp [ZG.len h]
end
section
variable {X : Cx} {e e2 : Expr}
def tListZip (K : PySem.W.Frag) (ta : TA) : TE := fun σ H Q => ta σ H fun vs H1 => ∃ v w, vs = [v, w] ∧ ∀ u1 u2, RelV v u1 → RelV w u2 → ∃ k1 k2 xs ys, u1 = Sk.v k1 ∧ u2 = Sk.v k2 ∧ Sk.ok K H1 xs k1 ∧ Sk.ok K H1 ys k2 ∧ min xs.length ys.length ≤ sizeLine ∧
  ∀ us H2 l, ZG H1 (xs.zip ys) us H2 → H2 l = none → Q (.ref l) (upd H2 l (.lst us))
theorem pe_listZip {ta : TA} {p pz pos zpos : Pos} (hc : X.calm = true) (hg : Gl X "list") (hm : X.mg "list" = none) (hgz : Gl X "zip") (hmz : X.mg "zip" = none) (ha : PA X [e, e2] ta) (hs : notStar e = true) (hs2 : [e2].all notStar = true) :
    PE X (.Call (.Name "list" p) [.Call (.Name "zip" pz) [e, e2] [] zpos] [] pos) (tListZip X.K ta) := by
  refine ⟨fun pins s σ H Q I h => ?_⟩
  refine Call_ (ld_blt I hg hm PyProof.Rows.boot_list (PyProof.Rows.callWith_type1 ?_ (starEach_cons rfl) rfl))
  rw [starEach_cons rfl]
  show wpAny _ _ (spliced ((false, eval (.Call (.Name "zip" pz) [e, e2] [] zpos) X.env) :: backTo pos (starEach [] X.env))) _ _ _
  refine Calls.spliced_cons (Call_ (ld_blt I hgz hmz PyProof.Rows.boot_zip (PyProof.Rows.callWith_type1 (thn (ha.run zpos pins s σ H _ I h) fun us s1 ⟨vs, H1, I1, r1, q1⟩ => ?_) (starEach_cons hs) (backTo_plain hs2))))
  obtain ⟨v, w, ex, q1⟩ := q1
  subst ex
  cases r1 with
  | cons r rr =>
    cases rr with
    | cons r' rr =>
      cases rr
      obtain ⟨k1, k2, xs, ys, rfl, rfl, o1, o2, hn, q⟩ := q1 _ _ r r'
      refine zip_made I1 o1 o2 fun z TI TO i1 i2 h' D hz st I2 hf hlt => ?_
      refine Calls.spliced_nil ?_
      refine call_list_zip (s := { s1 with heap := h' }) hz fun h2 c hk hS => ?_
      have I3 : Inv X pins σ H1 { s1 with heap := h2 } := I2.kept (t' := s1.toks) hk
      have fS : FpOk X pins H1 h'.objs.size := I2.fpOk (Nat.le_refl _) (I2.hok.fresh (Nat.le_refl _))
      refine list_zip_loop (A := X.A.in1) D (I.ok.hd hc) (fun hb => Nat.lt_irrefl _ (hlt _ hb)) hn (min xs.length ys.length) 0 H1 _ #[] c [] rfl I3 o1 o2 (fun b hb => ?_) (st.keep fun b _ o q => hk b o q) hS .nil rfl fun H2 s2 acc c' us I4 hS' hv f4 hz' => ?_
      · rcases List.mem_cons.mp hb with q' | q'
        · rw [q']; exact fS
        · exact hf b q'
      · rw [List.nil_append] at hv
        rw [List.drop_zero] at hz'
        refine ⟨rfl, .ref h'.objs.size, upd H2 h'.objs.size (.lst us), ?_, rfl, q us H2 _ hz' f4.1⟩
        exact I4.take (h' := s2.heap) (t' := s2.toks) (fun b ob _ e => e) f4 ⟨by rw [ZG.len hz', List.length_zip]; exact hn, acc.toList, c', hv, by rw [Array.toArray_toList]; exact hS'⟩
end
/-- all pairs are frozen -/
theorem zg_ok {K : PySem.W.Frag} {G : GP} {σ : St} {δ : EnvS} : ∀ {ps : List (V × V)} {us : List V} {F H H' : Hp} {xs ys : List D}, Rel K G F H σ δ → RepL K F xs (ps.map (·.1)) → RepL K F ys (ps.map (·.2)) → ZG H ps us H' →
    ∃ F', Sb F F' ∧ Rel K G F' H' σ δ ∧ RepL K F' (zipD xs ys) us
  | [], us, F, H, H', xs, ys, r, h1, h2, hz => by
    obtain ⟨rfl, rfl⟩ := hz
    have e1 := h1.length
    have : xs = [] := by cases xs with
      | nil => rfl
      | cons a b => simp at e1
    subst this
    exact ⟨F, .refl, r, .nil⟩
  | p :: ps, us, F, H, H', xs, ys, r, h1, h2, hz => by
    obtain ⟨T, t, rfl, n, hz⟩ := hz
    cases xs with
    | nil => have := h1.length; simp at this
    | cons d1 xs =>
      cases ys with
      | nil => have := h2.length; simp at this
      | cons d2 ys =>
        unfold RepL at h1 h2
        obtain ⟨v, t1, e1, p1, h1⟩ := h1
        obtain ⟨v2, t2, e2, p2, h2⟩ := h2
        injection e1 with ea eb
        injection e2 with ec ed
        subst ea eb ec ed
        have nF := r.subF.nn n
        have s1 : Sb F (upd F T (.tup [p.1, p.2])) := .upd_new nF
        obtain ⟨F', s2, r2, q2⟩ := zg_ok (r.allocF (o := .tup [p.1, p.2]) n) (RepL.sub s1 _ _ h1) (RepL.sub s1 _ _ h2) hz
        refine ⟨F', s1.trans s2, r2, .cons (Rep.sub s2 _ _ ?_) q2⟩
        unfold Rep
        exact ⟨T, _, rfl, upd_same, .cons (Rep.sub s1 _ _ p1) (.one (Rep.sub s1 _ _ p2))⟩
def cLz (f : M (List D)) : M Op := M.bind f fun ds => match zip2D ds with
  | some l => if fits l.length then mOk (.fresh (.lst l)) else mBad
  | none => mBad
theorem repL_zip1 {K : PySem.W.Frag} {F : Hp} : ∀ {xs ys : List D} {as bs : List V}, RepL K F xs as → RepL K F ys bs → ∃ xs' ys' : List D, zipD xs' ys' = zipD xs ys ∧ RepL K F xs' ((as.zip bs).map (·.1)) ∧ RepL K F ys' ((as.zip bs).map (·.2))
  | [], ys, as, bs, h1, h2 => by
    unfold RepL at h1; subst h1
    exact ⟨[], [], by simp [zipD], by simp; exact .nil, by simp; exact .nil⟩
  | x :: xs, [], as, bs, h1, h2 => by
    unfold RepL at h2; subst h2
    exact ⟨[], [], by simp [zipD], by simp; exact .nil, by simp; exact .nil⟩
  | x :: xs, y :: ys, as, bs, h1, h2 => by
    unfold RepL at h1 h2
    obtain ⟨v, t, rfl, p, h1⟩ := h1
    obtain ⟨v2, t2, rfl, p2, h2⟩ := h2
    obtain ⟨xs', ys', e, q1, q2⟩ := repL_zip1 h1 h2
    exact ⟨x :: xs', y :: ys', by show List.zipWith _ _ _ = List.zipWith _ _ _; simp only [List.zipWith_cons_cons]; congr 1, .cons p q1, .cons p2 q2⟩
theorem de_listZip {X : Cx} {e e2 : Expr} {f : M (List D)} {p pz pos zpos : Pos} (hc : X.calm = true) (hg : Gl X "list") (hm : X.mg "list" = none) (hgz : Gl X "zip") (hmz : X.mg "zip" = none) (ha : DA X [e, e2] f) (hs : notStar e = true) (hs2 : [e2].all notStar = true) :
    DE X (.Call (.Name "list" p) [.Call (.Name "zip" pz) [e, e2] [] zpos] [] pos) (cLz f) := by
  refine ⟨fun W tk => PE.weak (pe_listZip hc hg hm hgz hmz (ha.run W tk) hs hs2) fun pins s σ H Q I h => ?_⟩
  obtain ⟨G, F, δ, r, h⟩ := h
  refine bindA r .refl h fun ds δ1 vs F1 H1 s1 r1 q1 h => ?_
  cases e : zip2D ds with
  | none => rw [e] at h; exact h.elim
  | some l =>
    rw [e] at h
    unfold zip2D at e
    split at e
    · rename_i a b
      split at e
      · rename_i xs ys ea eb
        cases e
        unfold RepL at q1
        obtain ⟨v, t, rfl, p, q1⟩ := q1
        unfold RepL at q1
        obtain ⟨v2, t2, rfl, p2, q1⟩ := q1
        unfold RepL at q1
        subst q1
        dsimp only at h
        split at h
        · rename_i hfit
          refine ⟨v, v2, rfl, fun u1 u2 ru1 ru2 => ?_⟩
          obtain ⟨k1, as, rfl, o1, l1⟩ := sk_of p ea ru1
          obtain ⟨k2, bs, rfl, o2, l2⟩ := sk_of p2 eb ru2
          have hlen : (zipD xs ys).length = min as.length bs.length := by simp [zipD, l1.length, l2.length]
          refine ⟨k1, k2, as, bs, rfl, rfl, o1 _ r1.subF, o2 _ r1.subF, by rw [← hlen]; exact fits_le hfit, fun us H2 l hz hl => ?_⟩
          obtain ⟨xs', ys', e', w1, w2⟩ := repL_zip1 l1 l2
          obtain ⟨F2, s2, r2, q2⟩ := zg_ok r1 w1 w2 hz
          rw [e'] at q2
          exact new_lst r2 q2 (fun u F' H' s' r' q' => h u F' H' (s2.trans s') r' q') l hl
        · exact h.elim
      · cases e
    · cases e
end Ev
set_option Elab.async false
set_option linter.all false
set_option autoImplicit false
set_option maxRecDepth 100000
set_option maxHeartbeats 4000000
namespace Ev
open PySem PySem.Spec L2
open PyProof.Rows hiding St
/-! ### replace: a token must be out -/
def DET (X : Cx) (e : Expr) (f : M Op) : Prop := ∀ W, Takes X W → PET X e (tE X.K f W)
def DAT (X : Cx) (es : List Expr) (f : M (List D)) : Prop := ∀ W, Takes X W → PAT X es (tA X.K f W)
def PEO (X : Cx) (e : Expr) (t : TE) : Prop := ∀ (pins : List (Addr × Obj)) (s : Shared) (σ : St) (H : Hp) (Q : VK), Inv X pins σ H s → t σ H Q →
  wpAny (model X.prog X.w) X.A (eval e X.env) (fun v s1 => 1 ≤ s1.toks ∧ EP X pins σ Q v s1) X.xe s
def DEO (X : Cx) (e : Expr) (f : M Op) : Prop := ∀ W, Takes X W → PEO X e (tE X.K f W)
section
variable {X : Cx} {e a b : Expr} {es : List Expr} {f fa fb : M Op} {g : M (List D)} {pos : Pos}
theorem PET.weak {t t' : TE} (h : PET X e t) (k : ∀ pins s σ H Q, Inv X pins σ H s → t' σ H Q → t σ H Q) : PET X e t' := fun pins s σ H Q h0 I q => h pins s σ H Q h0 I (k pins s σ H Q I q)
theorem PEO.weak {t t' : TE} (h : PEO X e t) (k : ∀ pins s σ H Q, Inv X pins σ H s → t' σ H Q → t σ H Q) : PEO X e t' := fun pins s σ H Q I q => h pins s σ H Q I (k pins s σ H Q I q)
theorem PAT.weak {t t' : TA} (h : PAT X es t) (k : ∀ pins s σ H Q, Inv X pins σ H s → t' σ H Q → t σ H Q) : PAT X es t' := fun pos pins s σ H Q h0 I q => h pos pins s σ H Q h0 I (k pins s σ H Q I q)
theorem DET.of (h : DE X e f) : DET X e f := fun W tk => CwR.PET.of (h.run W tk)
theorem dat_nil : DAT X [] cNil := fun W tk => PAT.weak pat_nil fun pins s σ H Q I h => by
  obtain ⟨G, F, δ, r, h⟩ := h
  exact h [] F H .refl r .nil
theorem dat_cons (ha : DET X e f) (hr : DAT X es g) (hs : notStar e = true) : DAT X (e :: es) (cCons f g) := by
  intro W tk
  refine PAT.weak (pat_cons (ha W tk) (hr W tk) (starEach_cons hs)) fun pins s σ H Q I h => ?_
  obtain ⟨G, F, δ, r, h⟩ := h
  refine bindE r .refl h fun o δ1 v F1 H1 s1 r1 q1 h => ?_
  obtain ⟨d, F2, δ2, s2, r2, p2, h⟩ := escE r1 q1 h
  refine bindA r2 .refl h fun ds δ3 vs F3 H3 s3 r3 p3 h => ?_
  exact h (v :: vs) F3 H3 .refl r3 (.cons (Rep.sub s3 _ _ p2) p3)
theorem deo_str {x : Str} {j} : DEO X (.Constant (.str x) j pos) (cC (.str x.cps.toList)) := by
  intro W tk pins s σ H Q I h
  obtain ⟨G, F, δ, r, h⟩ := h
  exact Calls.Constant_str ⟨Nat.le_add_left _ _, .str x, H, I.tok _, ⟨_, rfl⟩, h _ F H .refl r (by show Rep _ _ _ _; unfold Rep; rfl)⟩
theorem peo_op {op : Operator} {r : R2} {ta tb : TE} (ho : OpR X (binaryOp op) r) (ha : PEO X a ta) (hb : PE X b tb) : PEO X (.BinOp a op b pos) (tOp r ta tb) := by
  intro pins s σ H Q I h
  refine wpAny_BinOp (thn (ha pins s σ H _ I h) fun v s1 q => ?_)
  obtain ⟨hk, x, H1, I1, r1, q1⟩ := q
  refine wpAny_mono (PySem.wpAny_toks (hb.run pins s1 σ H1 _ I1 q1)) (fun u s2 q => ?_) fun _ _ z => z.2
  obtain ⟨hk2, y, H2, I2, r2, q2⟩ := q
  refine wpAny_mono (PySem.wpAny_toks (ho pins s2 σ H2 x y v u Q I2 r1 r2 q2)) (fun w s3 q => ?_) fun _ _ z => z.2
  exact ⟨Nat.le_trans hk (Nat.le_trans hk2 q.1), q.2⟩
theorem deo_bin {op : Operator} {r : R2} {g : D → D → Option Op} (ho : OpR X (binaryOp op) r) (hg : OpG X.K r g) (ha : DEO X a fa) (hb : DE X b fb) : DEO X (.BinOp a op b pos) (cBin g fa fb) := by
  intro W tk
  refine PEO.weak (peo_op ho (ha W tk) (hb.run W tk)) fun pins s σ H Q I h => ?_
  obtain ⟨G, F, δ, r, h⟩ := h
  refine bin2 r .refl h fun o1 o2 δ2 v w F2 H2 s2 r2 q1 q2 h => ?_
  unfold lift2 at h
  cases e1 : deref δ2 o1 with
  | none => rw [e1] at h; exact h.elim
  | some x =>
    cases e2 : deref δ2 o2 with
    | none => rw [e1, e2] at h; exact h.elim
    | some y =>
      rw [e1, e2] at h
      dsimp only at h
      cases e3 : g x y with
      | none => rw [e3] at h; exact h.elim
      | some o =>
        rw [e3] at h
        exact hg σ G F2 H2 δ2 x y v w o Q r2 (deref_rep r2 q1 e1) (deref_rep r2 q2 e2) e3 fun u F' H' s' r' q' => h u F' H' s' r' q'
theorem pa_consO {ta : TE} {tb : TA} (ha : PEO X e ta) (hr : PAT X es tb) (hs : starEach (e :: es) X.env = (false, eval e X.env) :: starEach es X.env) : PA X (e :: es) (tCons ta tb) := by
  refine ⟨fun pos pins s σ H Q I h => ?_⟩
  rw [hs]
  show wpAny _ _ (spliced ((false, eval e X.env) :: backTo pos (starEach es X.env))) _ _ s
  refine Calls.spliced_cons (thn (ha pins s σ H _ I h) fun u s1 q => ?_)
  obtain ⟨hk, x, H1, I1, r1, q1⟩ := q
  exact thn (hr pos pins s1 σ H1 _ hk I1 q1) fun us s2 ⟨xs, H2, I2, r2, q2⟩ => ⟨x :: xs, H2, I2, .cons r1 r2, q2⟩
theorem da_consO (ha : DEO X e f) (hr : DAT X es g) (hs : notStar e = true) : DA X (e :: es) (cCons f g) := by
  refine ⟨fun W tk => PA.weak (pa_consO (ha W tk) (hr W tk) (starEach_cons hs)) fun pins s σ H Q I h => ?_⟩
  obtain ⟨G, F, δ, r, h⟩ := h
  refine bindE r .refl h fun o δ1 v F1 H1 s1 r1 q1 h => ?_
  obtain ⟨d, F2, δ2, s2, r2, p2, h⟩ := escE r1 q1 h
  refine bindA r2 .refl h fun ds δ3 vs F3 H3 s3 r3 p3 h => ?_
  exact h (v :: vs) F3 H3 .refl r3 (.cons (Rep.sub s3 _ _ p2) p3)
end
def gRepl (y z : List Nat) : D → Option Op
  | .str x => if fits (x.length + (x.length + 1) * z.length) then some (.val (.str (StrLaws.replL y z x))) else none
  | _ => none
section
variable {X : Cx} {o : Expr} {f : M Op} {y z : Str} {j k : Nat} {c0 c1 apos pos : Pos}
theorem det_repl (ho : DET X o f) (hyz : (y == z) = false) (hy : y.cps.toList.isEmpty = false) (hr : plainRecv o = true) (hline : (apos.endLine == pos.line) = true) :
    DET X (.Call (.Attribute o "replace" apos) [.Constant (.str y) j c0, .Constant (.str z) k c1] [] pos) (cUn (gRepl y.cps.toList z.cps.toList) f) := by
  intro W tk
  refine PET.weak (CwR.pet_replT (ho W tk) hyz rfl (plainRecv_ok hr) hline) fun pins s σ H Q I h => ?_
  obtain ⟨G, F, δ, r, h⟩ := h
  refine bindE r .refl h fun op δ1 v F1 H1 s1 r1 q1 h => ?_
  obtain ⟨x, a, e1, e2, h⟩ := lift1_ok h
  unfold gRepl at e2
  split at e2
  · rename_i xs
    split at e2
    · rename_i hf
      cases e2
      have hv := (deref_rep r1 q1 e1).str
      subst hv
      have y1 : 1 ≤ y.length := by
        cases e : y.cps.toList with
        | nil => rw [e] at hy; cases hy
        | cons c t =>
          have : y.cps.toList.length = t.length + 1 := by rw [e]; rfl
          simp at this
          show 1 ≤ y.cps.size
          omega
      refine ⟨⟨xs.toArray⟩, rfl, ?_, h _ F1 H1 .refl r1 ?_⟩
      · have := of_decide_eq_true hf
        simpa [Str.length] using this
      · show Rep _ _ _ _
        unfold Rep
        have := StrLaws.replace_list (x := ⟨xs.toArray⟩) (z := z) y1
        simp only at this
        rw [← this]
    · cases e2
  · cases e2
end
end Ev
set_option Elab.async false
set_option linter.all false
set_option autoImplicit false
set_option maxRecDepth 100000
set_option maxHeartbeats 4000000
namespace Ev
open PySem PySem.Spec L2
open PyProof.Rows hiding St
/-! ### comprehensions, whatever is gathered -/
def compG {A : Type} (vs : List Nat) (T : Tgt) (ft : M Bool) (body : A → M A) : List D → A → M A
  | [], a => fun δ => .ok a δ
  | d :: ds, a => fun δ => M.bind (tgF T d) (fun _ => M.bind ft fun b => if b = true then M.bind (body a) (fun a' δ' => compG vs T ft body ds a' (wipeE δ' vs)) else fun δ' => compG vs T ft body ds a (wipeE δ' vs)) δ
theorem wipe_wipe {vs ws : List Nat} (h : ∀ z ∈ ws, z ∈ vs) (τ : St) : wipe (wipe τ ws) vs = wipe τ vs := by
  induction ws with
  | nil => rfl
  | cons z ws ih =>
    show wipe ((wipe τ ws).set z none) vs = wipe τ vs
    rw [← wipe_comm, ih (fun y hy => h y (List.mem_cons_of_mem _ hy))]
    have : ∀ (us : List Nat), z ∈ us → (wipe τ us).set z none = wipe τ us := by
      intro us
      induction us with
      | nil => intro h; cases h
      | cons y us ih2 =>
        intro h
        show ((wipe τ us).set y none).set z none = (wipe τ us).set y none
        by_cases hyz : y = z
        · subst hyz; rw [List.set_set]
        · rw [List.set_comm _ _ hyz, ih2 (by rcases List.mem_cons.mp h with h | h; exact absurd h.symm hyz; exact h)]
    exact this vs (h z List.mem_cons_self)
section
variable {K : PySem.W.Frag} {G : GP} {F1 : Hp} {Da : Addr} {ds : List D} {J : It} {τ : St} {vs : List Nat} {T : Tgt} {ft : M Bool} {A : Type} {body : A → M A} {RA : Hp → A → HO → Prop} {accF : A} {δF : EnvS}
/-- τ: the slots, those of vs open -/
theorem comp_walk (nG : G Da = none) (hw : wipe τ vs = τ) (hT : ∀ i ∈ T.slots, i ∈ vs) (it : ItOk K F1 ds J) {H0 : Hp} {δ0 : EnvS} {a0 : A} {o0 : HO} (r0 : Rel K (G.put Da o0) F1 H0 τ δ0) (ra : RA F1 a0 o0) (ec : compG vs T ft body ds a0 δ0 = .ok accF δF)
    (mono : ∀ F F' a o, Sb F F' → RA F a o → RA F' a o) {B : (Hp → Prop) → St → Hp → Prop}
    (hB : ∀ (F2 H3 : Hp) (σ2 : St) (δ δ' : EnvS) (a a' : A) (o : HO) (Nx : Hp → Prop), wipe σ2 vs = τ → Sb F1 F2 → Rel K (G.put Da o) F2 H3 σ2 δ → RA F2 a o → body a δ = .ok a' δ' →
      (∀ (F' H' : Hp) (o' : HO), Sb F2 F' → Rel K (G.put Da o') F' H' τ (wipeE δ' vs) → RA F' a' o' → Nx H') → B Nx σ2 H3) {End : Hp → Prop}
    (hE : ∀ F2 H o, Sb F1 F2 → Rel K (G.put Da o) F2 H τ δF → RA F2 accF o → End H) :
    ∃ W : Nat → Nat → Hp → Prop, (∃ m, W 0 m H0) ∧ ∀ i m H, W i m H → (J.stop i H ∧ End H) ∨ (J.go i H ∧ ∃ Nx : Hp → Prop, (∀ H', Nx H' → ∃ m', m' < m ∧ W (i + 1) m' H') ∧ ∀ x H', J.yld i H x H' → gT K T x τ H' fun σ2 H2 => wipe σ2 vs = τ ∧ tT K ft W0 σ2 H2 fun b H3 =>
      if b = true then B Nx σ2 H3 else Nx H3) := by
  obtain ⟨Gd, Y, wk, hG, hY⟩ := it
  refine ⟨fun i k H => ∃ F2 δ2 a o, Sb F1 F2 ∧ Rel K (G.put Da o) F2 H τ δ2 ∧ RA F2 a o ∧ i ≤ ds.length ∧ k = ds.length - i ∧ compG vs T ft body (ds.drop i) a δ2 = .ok accF δF,
    ⟨ds.length, F1, _, a0, o0, .refl, r0, ra, Nat.zero_le _, rfl, ec⟩, ?_⟩
  rintro i k H ⟨F2, δ2, a, o, s2, r2, ra, hi', rfl, h2⟩
  have gd := hG H (s2.trans r2.subF)
  by_cases hlt : i < ds.length
  · right
    refine ⟨wk.goes i H hlt gd, fun H' => ∃ F3 δ3 a o, Sb F1 F3 ∧ Rel K (G.put Da o) F3 H' τ δ3 ∧ RA F3 a o ∧ compG vs T ft body (ds.drop (i + 1)) a δ3 = .ok accF δF, fun H' q => ?_, fun x H' hy => ?_⟩
    · obtain ⟨F3, δ3, a, o, q1, q2, q3, q4⟩ := q
      exact ⟨ds.length - (i + 1), by omega, F3, δ3, a, o, q1, q2, q3, hlt, rfl, q4⟩
    · obtain ⟨d, hd, hx⟩ := hY i H x H' F2 hlt s2 r2.subF (wk.yields i H x H' hlt gd hy)
      obtain ⟨F3, s3, r3, p3⟩ := item_ok r2 hx
      have ed : ds.drop i = d :: ds.drop (i + 1) := by
        rw [List.drop_eq_getElem_cons hlt]
        rw [List.getElem?_eq_getElem hlt] at hd
        cases hd; rfl
      rw [ed] at h2
      unfold compG M.bind at h2
      rcases tgF_ok (T := T) (d := d) (δ := δ2) with ⟨δ3, e3⟩ | e3
      · rw [e3] at h2
        dsimp only at h2
        refine gT_ok r3 p3 e3 fun σ2 r4 hw' => ?_
        have hw2 : wipe σ2 vs = τ := by rw [hw' vs hT, hw]
        refine ⟨hw2, G.put Da o, F3, δ3, r4, ?_⟩
        cases e4 : ft δ3 with
        | bad => rw [e4] at h2; cases h2
        | ex z δ' => rw [e4] at h2; cases h2
        | ok b δ4 =>
          rw [e4] at h2
          intro b' F4 H4 s4 r5 hb
          have hb : b = b' := hb
          subst hb
          cases b with
          | false =>
            simp only [Bool.false_eq_true, if_false] at h2 ⊢
            have r6 := r5.wipeBoth vs
            rw [hw2] at r6
            exact ⟨F4, _, a, o, (s2.trans s3).trans s4, r6, mono _ _ _ _ (s3.trans s4) ra, h2⟩
          | true =>
            simp only [if_true] at h2 ⊢
            cases e5 : body a δ4 with
            | bad => rw [e5] at h2; cases h2
            | ex z δ' => rw [e5] at h2; cases h2
            | ok a' δ5 =>
              rw [e5] at h2
              dsimp only at h2
              exact hB F4 H4 σ2 δ4 δ5 a a' o _ hw2 ((s2.trans s3).trans s4) r5 (mono _ _ _ _ (s3.trans s4) ra) e5 fun F' H' o' s' r' ra' => ⟨F', _, a', o', ((s2.trans s3).trans s4).trans s', r', ra', h2⟩
      · rw [e3] at h2; cases h2
  · left
    have hie : i = ds.length := by omega
    subst hie
    refine ⟨wk.stops H gd, ?_⟩
    rw [List.drop_length] at h2
    cases h2
    exact hE F2 H o s2 r2 ra
end
/-! ### [.. for .. in .. for .. in ..] -/
def lBody (fe : M Op) : List D → M (List D) := fun acc => M.bind fe fun o => M.bind (esc o) fun e => fun δ' => if fits (acc.length + 1) then .ok (acc ++ [e]) δ' else .bad
def RL (K : PySem.W.Frag) : Hp → List D → HO → Prop := fun F a o => ∃ va, o = .lst va ∧ RepL K F a va
theorem RL.mono {K : PySem.W.Frag} (F F' : Hp) (a : List D) (o : HO) (s : Sb F F') (h : RL K F a o) : RL K F' a o := by
  obtain ⟨va, e, h⟩ := h; exact ⟨va, e, RepL.sub s _ _ h⟩
theorem lBody_ok {K : PySem.W.Frag} {G : GP} {F2 H3 : Hp} {σ2 τ : St} {Da : Addr} {δ δ' : EnvS} {a a' : List D} {o : HO} {fe : M Op} {vs : List Nat} {Nx : Hp → Prop} (nG : G Da = none) (hw : wipe σ2 vs = τ) (r : Rel K (G.put Da o) F2 H3 σ2 δ) (ra : RL K F2 a o) (e : lBody fe a δ = .ok a' δ')
    (k : ∀ (F' H' : Hp) (o' : HO), Sb F2 F' → Rel K (G.put Da o') F' H' τ (wipeE δ' vs) → RL K F' a' o' → Nx H') : tE K fe W0 σ2 H3 fun y H4 => ∃ acc, H4 Da = some (.lst acc) ∧ acc.length < sizeLine ∧ Nx (upd H4 Da (.lst (acc ++ [y]))) := by
  refine ⟨_, F2, δ, r, ?_⟩
  unfold lBody M.bind at e
  cases e5 : fe δ with
  | bad => rw [e5] at e; cases e
  | ex z δ' => rw [e5] at e; cases e
  | ok op δ5 =>
    rw [e5] at e
    dsimp only at e
    intro y F5 H5 s5 r6 q6
    have q6 : OpRep K σ2 (G.put Da o) F5 H5 δ5 op y := q6
    cases e6 : esc op δ5 with
    | bad => rw [e6] at e; cases e
    | ex z δ' => exact absurd e6 esc_never
    | ok ed δ6 =>
      rw [e6] at e
      dsimp only at e
      obtain ⟨F6, s6, r7, p7⟩ := esc_ok r6 q6 e6
      split at e
      · rename_i hf
        cases e
        obtain ⟨va, rfl, ra⟩ := ra
        have hD : H5 Da = some (.lst va) := r7.subG Da _ upd_same
        refine ⟨va, hD, by rw [ra.length]; have := fits_le hf; omega, ?_⟩
        have r8 := (r7.bump (o' := .lst (va ++ [y])) nG).wipeBoth vs
        rw [hw] at r8
        exact k F6 _ _ (s5.trans s6) r8 ⟨_, rfl, (RepL.sub (s5.trans s6) _ _ ra).append (.one p7)⟩
      · cases e
def cLc2 (vs vs1 : List Nat) (T : Tgt) (fi : M (List D)) (ft : M Bool) (T1 : Tgt) (fi1 : M (List D)) (ft1 : M Bool) (fe : M Op) : M Op := M.bind fi fun ds => fun δ => match compG vs T ft (fun acc => M.bind fi1 fun ds1 δ' => compG vs1 T1 ft1 (lBody fe) ds1 acc (wipeE δ' vs1)) ds [] (wipeE δ vs) with
  | .ok acc δ' => .ok (.fresh (.lst acc)) (restoreE δ δ' vs)
  | _ => .bad
theorem de_lc2 {X : Cx} {elt tg iter tg1 iter1 : Expr} {ifs ifs1 : List Expr} {scope : Scope} {own : List (Str × Nat)} {vs1 : List Nat} {pos : Pos} {T T1 : Tgt} {fi fi1 : M (List D)} {ft ft1 : M Bool} {fe : M Op} (hc : X.calm = true) (hN : X.N.Nodup) (hi : DI X tg iter fi) (ok : BlkOk X.N X.env.scope scope own)
    (hv : ∀ i ∈ vs1, i ∈ own.map (·.2))
    (hg : ∀ (s : Shared) (H : Hp) (C : Addr) (cl : List (Str × Addr)) (fp : List Addr), PG (X.blk s H scope (compEnvC scope cl C X.env) fp) tg (gT X.K T)) (ht : ∀ (s : Shared) (H : Hp) (C : Addr) (cl : List (Str × Addr)) (fp : List Addr), DTs (X.blk s H scope (compEnvC scope cl C X.env) fp) ifs ft)
    (hi1 : ∀ (s : Shared) (H : Hp) (C : Addr) (cl : List (Str × Addr)) (fp : List Addr), DI (X.blk s H scope (compEnvC scope cl C X.env) fp) tg1 iter1 fi1)
    (hg1 : ∀ (s : Shared) (H : Hp) (C : Addr) (cl : List (Str × Addr)) (fp : List Addr), PG (X.blk s H scope (compEnvC scope cl C X.env) fp) tg1 (gT X.K T1)) (ht1 : ∀ (s : Shared) (H : Hp) (C : Addr) (cl : List (Str × Addr)) (fp : List Addr), DTs (X.blk s H scope (compEnvC scope cl C X.env) fp) ifs1 ft1)
    (he : ∀ (s : Shared) (H : Hp) (C : Addr) (cl : List (Str × Addr)) (fp : List Addr), DE (X.blk s H scope (compEnvC scope cl C X.env) fp) elt fe) (hT : ∀ i ∈ T.slots, i ∈ own.map (·.2)) (hT1 : ∀ i ∈ T1.slots, i ∈ vs1) (hs : ∀ x, foldedSetIterable iter X.env x = pure x) (hs1 : ∀ env x, foldedSetIterable iter1 env x = pure x) :
    DE X (.ListComp elt [⟨tg, iter, ifs, 0⟩, ⟨tg1, iter1, ifs1, 0⟩] scope pos) (cLc2 (own.map (·.2)) vs1 T fi ft T1 fi1 ft1 fe) ∧
    ∀ (W : WX), Takes X W → ∀ (σ : St) (H : Hp) (Q : VK), tE X.K (cLc2 (own.map (·.2)) vs1 T fi ft T1 fi1 ft1 fe) W σ H Q → tLc2 (tI X.K fi W) (gT X.K T) (tT X.K ft W0) (tI X.K fi1 W0) (gT X.K T1) (tT X.K ft1 W0) (tE X.K fe W0) (own.map (·.2)) vs1 σ H Q := by
  have key : ∀ (W : WX), Takes X W → ∀ (σ : St) (H : Hp) (Q : VK), tE X.K (cLc2 (own.map (·.2)) vs1 T fi ft T1 fi1 ft1 fe) W σ H Q → tLc2 (tI X.K fi W) (gT X.K T) (tT X.K ft W0) (tI X.K fi1 W0) (gT X.K T1) (tT X.K ft1 W0) (tE X.K fe W0) (own.map (·.2)) vs1 σ H Q := by
    intro W tk σ H Q h
    obtain ⟨G, F, δ, r, h⟩ := h
    generalize hvs : own.map (·.2) = vs at *
    refine ⟨G, F, δ, r, ?_⟩
    unfold cLc2 at h
    generalize eb : (fun acc => M.bind fi1 fun ds1 δ' => compG vs1 T1 ft1 (lBody fe) ds1 acc (wipeE δ' vs1)) = bd at h
    unfold M.bind at h
    cases e : fi δ with
    | bad => rw [e] at h; exact h.elim
    | ex x δ' => rw [e] at h; exact h
    | ok ds δ1 =>
      rw [e] at h
      intro J F1 H1 s1 r1 it
      have it : ItOk X.K F1 ds J := it
      intro Da nD
      dsimp only at h
      cases ec : compG vs T ft bd ds [] (wipeE δ1 vs) with
      | bad => simp only [ec] at h; exact h.elim
      | ex x δ' => simp only [ec] at h; exact h.elim
      | ok accF δF =>
        simp only [ec] at h
        have nF : F1 Da = none := r1.subF.nn nD
        have nG : G Da = none := r1.subG.nn nD
        have start : Rel X.K (G.put Da (.lst [])) F1 (upd H1 Da (.lst [])) (wipe σ vs) (wipeE δ1 vs) :=
          ((r1.alloc nD).moreG (o := .lst []) upd_same nF (r1.not_own (o := .lst []) (.inr (.inr nD)))).wipeBoth vs
        have ww : wipe (wipe σ vs) vs = wipe σ vs := wipe_wipe (fun _ h => h) σ
        refine comp_walk (RA := RL X.K) nG ww hT it start ⟨[], rfl, .nil⟩ ec RL.mono ?_ ?_
        · intro F2 H3 σ2 δ2 δ2' a a' o Nx hw s2 r2 ra ebd k
          subst eb
          unfold M.bind at ebd
          dsimp only at ebd
          refine ⟨_, F2, δ2, r2, ?_⟩
          cases e1 : fi1 δ2 with
          | bad => rw [e1] at ebd; cases ebd
          | ex x δ' => rw [e1] at ebd; cases ebd
          | ok ds1 δ3 =>
            rw [e1] at ebd
            dsimp only at ebd
            intro J1 F3 H4 s3 r3 it1
            have it1 : ItOk X.K F3 ds1 J1 := it1
            have ww1 : wipe (wipe σ2 vs1) vs1 = wipe σ2 vs1 := wipe_wipe (fun _ h => h) σ2
            have r3' := r3.wipeBoth vs1
            refine comp_walk (RA := RL X.K) nG ww1 hT1 it1 r3' (RL.mono _ _ _ _ s3 ra) ebd RL.mono ?_ ?_
            · intro F4 H5 σ3 δ4 δ4' b b' o4 Nx1 hw4 s4 r4 ra4 eb4 k4
              exact lBody_ok nG hw4 r4 ra4 eb4 k4
            · intro F4 H5 o4 s4 r4 ra4
              have r5 := r4.wipeBoth vs
              rw [wipe_wipe hv, hw] at r5
              exact k F4 H5 o4 (s3.trans s4) r5 ra4
        · intro F2 H2 o s2 r2 ra
          obtain ⟨va, rfl, ra⟩ := ra
          have r3 : Rel X.K (G.put Da (.lst va)) F2 H2 σ (restoreE δ1 δF vs) := r2.restore r1 s2
          exact h (.ref Da) F2 H2 (s1.trans s2) (r3.lessG (.upd_new nG)) ⟨Da, rfl, r3.disj Da _ upd_same, nG, ⟨va, r3.subG Da _ upd_same, ra⟩, r3.not_own (.inr (.inl upd_same))⟩
  refine ⟨⟨fun W tk => PE.weak (pe_lc2 (tt := tT X.K ft W0) (wi1 := tI X.K fi1 W0) (tt1 := tT X.K ft1 W0) (te := tE X.K fe W0) hc hN (hi.run W tk) ok hv hg (fun s H C cl fp => (ht s H C cl fp).run W0 takes0) (fun s H C cl fp => (hi1 s H C cl fp).run W0 takes0) hg1 (fun s H C cl fp => (ht1 s H C cl fp).run W0 takes0) (fun s H C cl fp => (he s H C cl fp).run W0 takes0) hs hs1) fun pins s σ H Q I h => key W tk σ H Q h⟩, key⟩
theorem ds_setLc2 {X : Cx} {i : Nat} {y : Str} {py spos : Pos} {elt tg iter tg1 iter1 : Expr} {ifs ifs1 : List Expr} {scope : Scope} {own : List (Str × Nat)} {vs1 : List Nat} {pos : Pos} {T T1 : Tgt} {fi fi1 : M (List D)} {ft ft1 : M Bool} {fe : M Op} (hc : X.calm = true) (hN : X.N.Nodup)
    (hy : X.N[i]? = some y) (hyl : X.env.scope.names.lookup y = some .local) (hsw : swapsWith (.ListComp elt [⟨tg, iter, ifs, 0⟩, ⟨tg1, iter1, ifs1, 0⟩] scope pos) (some (.Name y py)) spos.line X.env = pure true) (hi : DI X tg iter fi) (ok : BlkOk X.N X.env.scope scope own)
    (hv : ∀ i ∈ vs1, i ∈ own.map (·.2))
    (hg : ∀ (s : Shared) (H : Hp) (C : Addr) (cl : List (Str × Addr)) (fp : List Addr), PG (X.blk s H scope (compEnvC scope cl C X.env) fp) tg (gT X.K T)) (ht : ∀ (s : Shared) (H : Hp) (C : Addr) (cl : List (Str × Addr)) (fp : List Addr), DTs (X.blk s H scope (compEnvC scope cl C X.env) fp) ifs ft)
    (hi1 : ∀ (s : Shared) (H : Hp) (C : Addr) (cl : List (Str × Addr)) (fp : List Addr), DI (X.blk s H scope (compEnvC scope cl C X.env) fp) tg1 iter1 fi1)
    (hg1 : ∀ (s : Shared) (H : Hp) (C : Addr) (cl : List (Str × Addr)) (fp : List Addr), PG (X.blk s H scope (compEnvC scope cl C X.env) fp) tg1 (gT X.K T1)) (ht1 : ∀ (s : Shared) (H : Hp) (C : Addr) (cl : List (Str × Addr)) (fp : List Addr), DTs (X.blk s H scope (compEnvC scope cl C X.env) fp) ifs1 ft1)
    (he : ∀ (s : Shared) (H : Hp) (C : Addr) (cl : List (Str × Addr)) (fp : List Addr), DE (X.blk s H scope (compEnvC scope cl C X.env) fp) elt fe) (hT : ∀ i ∈ T.slots, i ∈ own.map (·.2)) (hT1 : ∀ i ∈ T1.slots, i ∈ vs1) (hs : ∀ x, foldedSetIterable iter X.env x = pure x) (hs1 : ∀ env x, foldedSetIterable iter1 env x = pure x) :
    DS X (.Assign [.Name y py] (.ListComp elt [⟨tg, iter, ifs, 0⟩, ⟨tg1, iter1, ifs1, 0⟩] scope pos) spos) (cAsg i (cLc2 (own.map (·.2)) vs1 T fi ft T1 fi1 ft1 fe)) := by
  refine ⟨fun W tk => PS.weak (ps_setLc2 (tt := tT X.K ft W0) (wi1 := tI X.K fi1 W0) (tt1 := tT X.K ft1 W0) (te := tE X.K fe W0) hc hN hy hyl hsw (hi.run W tk) ok hv hg (fun s H C cl fp => (ht s H C cl fp).run W0 takes0) (fun s H C cl fp => (hi1 s H C cl fp).run W0 takes0) hg1 (fun s H C cl fp => (ht1 s H C cl fp).run W0 takes0) (fun s H C cl fp => (he s H C cl fp).run W0 takes0) hs hs1) fun pins s σ H D I h => ?_⟩
  obtain ⟨G, F, δ, r, h⟩ := h
  refine (de_lc2 (pos := pos) hc hN hi ok hv hg ht hi1 hg1 ht1 he hT hT1 hs hs1).2 W tk σ H _ ?_
  exact stE r h fun op δ1 v F1 H1 s1 r1 q1 h => setN_ok r1 q1 h
end Ev
set_option Elab.async false
set_option linter.all false
set_option autoImplicit false
set_option maxRecDepth 100000
set_option maxHeartbeats 4000000
namespace Ev
open PySem PySem.Spec L2
open PyProof.Rows hiding St
/-! ### dicts: keys and what stands under them -/
def dGetD (ks xs : List D) (k : D) : Option D := ((ks.zip xs).find? fun p => eqD p.1 k).map (·.2)
def dPutD (ks xs : List D) (k v : D) : List D × List D :=
  if ks.any (fun y => eqD y k) then (ks, (ks.zip xs).map fun p => if eqD p.1 k then v else p.2) else (ks ++ [k], xs ++ [v])
theorem keyD_eq {x y : D} {a b : Key} (hx : keyD x = some a) (hy : keyD y = some b) : eqD x y = decide (a = b) := by
  cases x <;> cases hx <;> cases y <;> cases hy
  · rename_i i j
    show (i == j) = decide ((Sum.inl i : Key) = Sum.inl j)
    by_cases h : i = j
    · subst h; simp
    · simp [h]
  · rename_i i j; show false = _; simp
  · rename_i i j; show false = _; simp
  · rename_i i j
    show (i == j) = decide ((Sum.inr ⟨i.toArray⟩ : Key) = Sum.inr ⟨j.toArray⟩)
    by_cases h : i = j
    · subst h; simp
    · simp [h]
theorem keysD_eq : ∀ {xs ys : List D} {a b : List Key}, keysD xs = some a → keysD ys = some b → eqDL xs ys = decide (a = b)
  | [], [], a, b, hx, hy => by cases hx; cases hy; simp [eqDL]
  | [], y :: ys, a, b, hx, hy => by
    cases hx
    unfold keysD at hy
    split at hy
    · cases hy; simp [eqDL]
    · cases hy
  | x :: xs, [], a, b, hx, hy => by
    cases hy
    unfold keysD at hx
    split at hx
    · cases hx; simp [eqDL]
    · cases hx
  | x :: xs, y :: ys, a, b, hx, hy => by
    unfold keysD at hx hy
    split at hx
    · rename_i a1 a2 e1 e2
      cases hx
      split at hy
      · rename_i b1 b2 e3 e4
        cases hy
        unfold eqDL
        rw [keyD_eq e1 e3, keysD_eq e2 e4]
        by_cases h1 : a1 = b1
        · by_cases h2 : a2 = b2
          · simp [h1, h2]
          · simp [h1, h2]
        · simp [h1]
      · cases hy
    · cases hx
/-- the keys of a dict of either kind -/
inductive Enc : Bool → {κ : Type} → D → κ → Prop where
  | k {d : D} {a : Key} (h : keyD d = some a) : Enc false d a
  | t {xs : List D} {a : List Key} (h : keysD xs = some a) : Enc true (.tup xs) a
section
variable {κ : Type} [DecidableEq κ] {enc : D → Option κ} (he : ∀ x y a b, enc x = some a → enc y = some b → eqD x y = decide (a = b))
def encs (enc : D → Option κ) : List D → Option (List κ)
  | [] => some []
  | d :: ds => match enc d, encs enc ds with
    | some k, some ks => some (k :: ks)
    | _, _ => none
theorem encs_len : ∀ {ks : List D} {l : List κ}, encs enc ks = some l → l.length = ks.length
  | [], l, h => by cases h; rfl
  | d :: ds, l, h => by
    unfold encs at h
    split at h
    · rename_i k ks e1 e2; cases h; simp [encs_len e2]
    · cases h
theorem encs_snoc : ∀ {ks : List D} {l : List κ} {k : D} {a : κ}, encs enc ks = some l → enc k = some a → encs enc (ks ++ [k]) = some (l ++ [a])
  | [], l, k, a, h, h2 => by cases h; simp [encs, h2]
  | d :: ds, l, k, a, h, h2 => by
    unfold encs at h
    split at h
    · rename_i k' ks e1 e2
      cases h
      show encs enc (d :: (ds ++ [k])) = _
      unfold encs
      rw [e1, encs_snoc e2 h2]
      rfl
    · cases h
include he in
theorem enc_get {K : PySem.W.Frag} {F : Hp} {k : D} {a : κ} (hk : enc k = some a) : ∀ {ks xs : List D} {l : List κ} {vs : List V}, encs enc ks = some l → RepL K F xs vs →
    match dGetD ks xs k with
    | some d => ∃ v, valV (l.zip vs) a = some v ∧ Rep K F d v
    | none => valV (l.zip vs) a = none
  | [], xs, l, vs, h, hr => by cases h; show valV _ _ = _; simp [valV]
  | d :: ds, [], l, vs, h, hr => by
    unfold RepL at hr
    subst hr
    show valV _ _ = _
    simp [valV]
  | d :: ds, x :: xs, l, vs, h, hr => by
    unfold encs at h
    split at h
    · rename_i k' ks' e1 e2
      cases h
      unfold RepL at hr
      obtain ⟨v, t, rfl, p1, p2⟩ := hr
      have ih := enc_get hk e2 p2
      unfold dGetD
      rw [List.zip_cons_cons, List.zip_cons_cons, List.find?_cons]
      have q := he d k k' a e1 hk
      dsimp only
      by_cases c : k' = a
      · rw [q, decide_eq_true c]
        exact ⟨v, by rw [valV_pos c], p1⟩
      · rw [q, decide_eq_false c]
        rw [valV_neg (by exact c)]
        exact ih
    · cases h
include he in
theorem enc_any {k : D} {a : κ} (hk : enc k = some a) {K : PySem.W.Frag} {F : Hp} : ∀ {ks : List D} {l : List κ} {vs : List V}, encs enc ks = some l → vs.length = ks.length → ((l.zip vs).any fun kv => decide (kv.1 = a)) = ks.any fun y => eqD y k
  | [], l, vs, h, hl => by cases h; simp
  | d :: ds, l, [], h, hl => by simp at hl
  | d :: ds, l, v :: vs, h, hl => by
    unfold encs at h
    split at h
    · rename_i k' ks' e1 e2
      cases h
      rw [List.zip_cons_cons, List.any_cons, List.any_cons, he d k k' a e1 hk, enc_any hk (K := K) (F := F) e2 (by simpa using hl)]
    · cases h
include he in
theorem enc_repl {K : PySem.W.Frag} {F : Hp} {k v : D} {a : κ} {w : V} (hk : enc k = some a) (hv : Rep K F v w) : ∀ {ks xs : List D} {l : List κ} {vs : List V}, encs enc ks = some l → RepL K F xs vs → xs.length = ks.length →
    ∃ us, (l.zip vs).map (fun kv => if kv.1 = a then (kv.1, w) else kv) = l.zip us ∧ RepL K F ((ks.zip xs).map fun p => if eqD p.1 k then v else p.2) us
  | [], xs, l, vs, h, hr, hl => by cases h; exact ⟨[], by simp, .nil⟩
  | d :: ds, [], l, vs, h, hr, hl => by simp at hl
  | d :: ds, x :: xs, l, vs, h, hr, hl => by
    unfold encs at h
    split at h
    · rename_i k' ks' e1 e2
      cases h
      unfold RepL at hr
      obtain ⟨u, t, rfl, p1, p2⟩ := hr
      obtain ⟨us, q1, q2⟩ := enc_repl hk hv e2 p2 (by simpa using hl)
      have q := he d k k' a e1 hk
      by_cases c : k' = a
      · refine ⟨w :: us, ?_, ?_⟩
        · rw [List.zip_cons_cons, List.map_cons, q1, List.zip_cons_cons, if_pos c]
        · rw [List.zip_cons_cons, List.map_cons, if_pos (by rw [q]; exact decide_eq_true c)]; exact .cons hv q2
      · refine ⟨u :: us, ?_, ?_⟩
        · rw [List.zip_cons_cons, List.map_cons, q1, List.zip_cons_cons, if_neg c]
        · rw [List.zip_cons_cons, List.map_cons, if_neg (by rw [q]; simp [c])]; exact .cons p1 q2
    · cases h
include he in
theorem enc_put {K : PySem.W.Frag} {F : Hp} {k v : D} {a : κ} {w : V} {ks xs : List D} {l : List κ} {vs : List V} (hk : enc k = some a) (hv : Rep K F v w) (h : encs enc ks = some l) (hr : RepL K F xs vs) (hl : xs.length = ks.length) :
    ∃ l' us, encs enc (dPutD ks xs k v).1 = some l' ∧ putK (l.zip vs) a w = l'.zip us ∧ RepL K F (dPutD ks xs k v).2 us ∧ (dPutD ks xs k v).2.length = (dPutD ks xs k v).1.length := by
  have an := enc_any he hk (K := K) (F := F) h (by rw [hr.length, hl])
  unfold putK dPutD
  rw [an]
  by_cases c : (ks.any fun y => eqD y k) = true
  · rw [if_pos c, if_pos c]
    obtain ⟨us, q1, q2⟩ := enc_repl he hk hv h hr hl
    exact ⟨l, us, h, q1, q2, by simp [hl]⟩
  · rw [if_neg c, if_neg c]
    refine ⟨l ++ [a], vs ++ [w], encs_snoc h hk, ?_, hr.append (.one hv), by simp [hl]⟩
    rw [List.zip_append (by rw [encs_len h, hr.length, hl])]
    rfl
end
theorem encs_k : ∀ ks : List D, encs keyD ks = keysD ks
  | [] => rfl
  | d :: ds => by
    unfold encs keysD
    rw [encs_k ds]
    cases keyD d <;> cases keysD ds <;> rfl
def keyT : D → Option (List Key)
  | .tup xs => keysD xs
  | _ => none
theorem encs_t : ∀ ks : List D, encs keyT ks = keysT ks
  | [] => rfl
  | d :: ds => by
    unfold encs keysT
    rw [encs_t ds]
    cases d with
    | tup xs =>
      have e : keyT (.tup xs) = keysD xs := rfl
      rw [e]
      dsimp only
      cases keysD xs <;> cases keysT ds <;> rfl
    | _ => rfl
theorem keyT_some {x : D} {a : List Key} (h : keyT x = some a) : ∃ xs, x = .tup xs ∧ keysD xs = some a := by
  unfold keyT at h
  split at h
  · exact ⟨_, rfl, h⟩
  · cases h
theorem keyT_eq (x y : D) (a b : List Key) (hx : keyT x = some a) (hy : keyT y = some b) : eqD x y = decide (a = b) := by
  obtain ⟨xs, rfl, hx⟩ := keyT_some hx
  obtain ⟨ys, rfl, hy⟩ := keyT_some hy
  unfold eqD
  exact keysD_eq hx hy
theorem keyD_rep {K : PySem.W.Frag} {F H : Hp} {d : D} {v : V} {a : Key} (h : RepB K F H d v) (e : keyD d = some a) : v = kV a := by
  cases d with
  | int i => cases e; exact h.int
  | str x => cases e; exact h.str
  | _ => cases e
theorem keysD_rep {K : PySem.W.Frag} {F : Hp} : ∀ {ds : List D} {vs : List V} {l : List Key}, RepL K F ds vs → keysD ds = some l → vs = l.map kV
  | [], vs, l, h, e => by cases e; unfold RepL at h; exact h
  | d :: ds, vs, l, h, e => by
    unfold RepL at h
    obtain ⟨v, r, rfl, p1, p2⟩ := h
    unfold keysD at e
    split at e
    · rename_i k ks e1 e2
      cases e
      rw [keyD_rep (H := F) (.inl p1) e1, keysD_rep p2 e2]; rfl
    · cases e
theorem keyT_rep {K : PySem.W.Frag} {F H : Hp} {d : D} {v : V} {a : List Key} (s : Sb F H) (h : RepB K F H d v) (e : keyT d = some a) : ∃ b, v = .ref b ∧ H b = some (.tup (a.map kV)) := by
  cases d with
  | tup xs =>
    obtain ⟨b, vs, rfl, h1, h2⟩ := h.tupF
    rw [keysD_rep h2 e] at h1
    exact ⟨b, rfl, s _ _ h1⟩
  | _ => cases e
/-! #### the readings of a dict -/
def keyOk (t : Bool) (k : D) : Bool := if t then (keyT k).isSome else (keyD k).isSome
/-- what the dict c holds at k -/
def dictGet : D → D → Option (Option D)
  | .dic t ks xs, k => if keyOk t k then some (dGetD ks xs k) else none
  | _, _ => none
theorem dget_of {K : PySem.W.Frag} {F H : Hp} {a : Addr} {t : Bool} {ks xs : List D} {vs : List V} {o : HO} {k : D} {y : V} (s : Sb F H) (ho : H a = some o) (hd : dictO t ks vs = some o) (hr : RepL K F xs vs) (hk : RepB K F H k y) (hok : keyOk t k = true) :
    ∃ r, DGet H a y r ∧ match dGetD ks xs k with
      | some d => ∃ v, r = some v ∧ Rep K F d v
      | none => r = none := by
  cases t with
  | false =>
    have hd : (keysD ks).map (fun l => HO.dK (l.zip vs)) = some o := hd
    cases e : keysD ks with
    | none => rw [e] at hd; cases hd
    | some l =>
      rw [e] at hd; cases hd
      have hok : (keyD k).isSome = true := hok
      obtain ⟨q, eq⟩ := Option.isSome_iff_exists.mp hok
      have hy := keyD_rep hk eq
      subst hy
      refine ⟨valV (l.zip vs) q, .k ho, ?_⟩
      have := enc_get (enc := keyD) (fun x y a b h1 h2 => keyD_eq h1 h2) eq (by rw [encs_k]; exact e) hr
      cases e2 : dGetD ks xs k with
      | none => rw [e2] at this; exact this
      | some d => rw [e2] at this; exact this
  | true =>
    have hd : (keysT ks).map (fun l => HO.dT (l.zip vs)) = some o := hd
    cases e : keysT ks with
    | none => rw [e] at hd; cases hd
    | some l =>
      rw [e] at hd; cases hd
      have hok : (keyT k).isSome = true := hok
      obtain ⟨q, eq⟩ := Option.isSome_iff_exists.mp hok
      obtain ⟨b, rfl, hb⟩ := keyT_rep s hk eq
      refine ⟨valV (l.zip vs) q, .t ho hb, ?_⟩
      have := enc_get (enc := keyT) keyT_eq eq (by rw [encs_t]; exact e) hr
      cases e2 : dGetD ks xs k with
      | none => rw [e2] at this; exact this
      | some d => rw [e2] at this; exact this
/-- what it is behind a store -/
def dictPut : D → D → D → Option D
  | .dic t ks xs, k, v => if keyOk t k && (xs.length == ks.length) && decide (xs.length < 16777216) then some (.dic t (dPutD ks xs k v).1 (dPutD ks xs k v).2) else none
  | _, _, _ => none
theorem dput_of {K : PySem.W.Frag} {F H : Hp} {a : Addr} {c c' k v : D} {y w : V} (s : Sb F H) (hn : F a = none) (hc : ObR K F H a c) (hk : RepB K F H k y) (hv : Rep K F v w) (e : dictPut c k v = some c') :
    ∃ o', DPut H a y w (upd H a o') ∧ ObR K F (upd H a o') a c' := by
  cases c with
  | dic t ks xs =>
    obtain ⟨vs, o, ho, hd, hr⟩ := hc
    have e : (if keyOk t k && (xs.length == ks.length) && decide (xs.length < 16777216) then some (D.dic t (dPutD ks xs k v).1 (dPutD ks xs k v).2) else none) = some c' := e
    split at e
    · rename_i cc
      cases e
      rw [Bool.and_eq_true, Bool.and_eq_true] at cc
      obtain ⟨⟨c1, c2⟩, c3⟩ := cc
      have c2 : xs.length = ks.length := by simpa using c2
      have c3 := of_decide_eq_true c3
      have c4 : vs.length < sizeLine := by rw [hr.length]; exact c3
      cases t with
      | false =>
        have hd : (keysD ks).map (fun l => HO.dK (l.zip vs)) = some o := hd
        cases e : keysD ks with
        | none => rw [e] at hd; cases hd
        | some l =>
          rw [e] at hd; cases hd
          have hok : (keyD k).isSome = true := c1
          obtain ⟨q, eq⟩ := Option.isSome_iff_exists.mp hok
          have hy := keyD_rep hk eq
          subst hy
          obtain ⟨l', us, q1, q2, q3, q4⟩ := enc_put (enc := keyD) (fun x y a b h1 h2 => keyD_eq h1 h2) eq hv (by rw [encs_k]; exact e) hr c2
          refine ⟨.dK (l'.zip us), ?_, us, _, upd_same, ?_, q3⟩
          · rw [← q2]
            exact .k ho (by rw [List.length_zip]; omega)
          · show (keysD _).map _ = _
            rw [← encs_k, q1]; rfl
      | true =>
        have hd : (keysT ks).map (fun l => HO.dT (l.zip vs)) = some o := hd
        cases e : keysT ks with
        | none => rw [e] at hd; cases hd
        | some l =>
          rw [e] at hd; cases hd
          have hok : (keyT k).isSome = true := c1
          obtain ⟨q, eq⟩ := Option.isSome_iff_exists.mp hok
          obtain ⟨b, rfl, hb⟩ := keyT_rep s hk eq
          obtain ⟨l', us, q1, q2, q3, q4⟩ := enc_put (enc := keyT) keyT_eq eq hv (by rw [encs_t]; exact e) hr c2
          refine ⟨.dT (l'.zip us), ?_, us, _, upd_same, ?_, q3⟩
          · rw [← q2]
            exact .t ho hb (by rw [List.length_zip]; omega)
          · show (keysT _).map _ = _
            rw [← encs_t, q1]; rfl
    · cases e
  | _ => exact nomatch e
end Ev
set_option Elab.async false
set_option linter.all false
set_option autoImplicit false
set_option maxRecDepth 100000
set_option maxHeartbeats 4000000
namespace Ev
open PySem PySem.Spec L2
open PyProof.Rows hiding St
/-! ### d[k], k in d, d.get -/
def rIxD : R2 := fun x y H Q => ∃ a v, x = .ref a ∧ DGet H a y (some v) ∧ Q v H
theorem ix_dict {X : Cx} (hu : X.A.units + 1 < cLine) : IxR X rIxD := by
  intro value slice pins s σ H x y v u Q I rx ry h hs
  obtain ⟨a, w, rfl, g, q⟩ := h
  obtain rfl : v = Value.ref a := rx
  have hT := dict_typeIs I g
  unfold subscriptTail
  refine wpAny_bind ?_
  rw [getitemInPython_of_ne hT.not_modules]
  refine wpAny_bind (wpAny_specialOf hT PySem.F.slot_dict_getitem.lookup ?_)
  have fin : wpAny (model X.prog X.w) X.A (subscripted slice false (.ref a) u) (fun r s₃ => wpAny (model X.prog X.w) X.A (letTemporaryGo value (.ref a) r >>= fun _ => pure r) (EP X pins σ Q) X.xe s₃) X.xe s := by
    rw [hs]
    exact wpAny_operating (d_getItem hu I g ry fun w' s3 I3 rw' => wpAny_bind (wpAny_letTemporaryGo (wpAny_pure ⟨w, H, I3, rw', q⟩)))
  first
    | exact wpAny_pure (wpAny_bind fin)
    | exact wpAny_bind fin
def gIxD : D → D → Option Op := fun x y => match dictGet x y with
  | some (some d) => some (.val d)
  | _ => none
theorem dictGet_dic {c k : D} {r : Option D} (h : dictGet c k = some r) : ∃ t ks xs, c = .dic t ks xs ∧ keyOk t k = true ∧ r = dGetD ks xs k := by
  cases c with
  | dic t ks xs =>
    have h : (if keyOk t k then some (dGetD ks xs k) else none) = some r := h
    split at h
    · rename_i c; cases h; exact ⟨t, ks, xs, rfl, c, rfl⟩
    · cases h
  | _ => exact nomatch h
theorem dget_rep {K : PySem.W.Frag} {F H : Hp} {c k : D} {v w : V} {r : Option D} (s : Sb F H) (rx : RepB K F H c v) (ry : RepB K F H k w) (h : dictGet c k = some r) :
    ∃ a o, v = .ref a ∧ DGet H a w o ∧ match (generalizing := false) r with
      | some d => ∃ u, o = some u ∧ Rep K F d u
      | none => o = none := by
  obtain ⟨t, ks, xs, rfl, hk, rfl⟩ := dictGet_dic h
  obtain ⟨a, vs, o, rfl, h1, h2, h3⟩ := rx.dic s
  obtain ⟨q, h4, h5⟩ := dget_of s h1 h2 h3 ry hk
  exact ⟨a, q, rfl, h4, h5⟩
theorem og_ixD {K : PySem.W.Frag} : OpG K rIxD gIxD := by
  intro σ G F H δ x y v w o Q rel rx ry e k
  unfold gIxD at e
  split at e
  · rename_i d hd
    cases e
    obtain ⟨a, q, rfl, h1, u, rfl, h2⟩ := dget_rep rel.subF rx ry hd
    exact ⟨a, u, rfl, h1, k _ F H .refl rel h2⟩
  · cases e
def gInDic : D → D → Option Bool := fun x y => (dictGet y x).map Option.isSome
theorem op_inDic {X : Cx} (hu : X.A.units + 1 < cLine) : OpR X (compareOp .In) (fun x y H Q => ∃ a o, y = .ref a ∧ DGet H a x o ∧ Q (.bl o.isSome) H) := by
  intro pins s σ H x y v u Q I rx ry h
  obtain ⟨a, o, rfl, g, q⟩ := h
  obtain rfl : u = Value.ref a := ry
  exact d_in hu I g rx fun s3 I3 => ⟨.bl o.isSome, H, I3, rfl, q⟩
theorem op_notinDic {X : Cx} (hu : X.A.units + 1 < cLine) : OpR X (compareOp .NotIn) (fun x y H Q => ∃ a o, y = .ref a ∧ DGet H a x o ∧ Q (.bl (!o.isSome)) H) := by
  intro pins s σ H x y v u Q I rx ry h
  obtain ⟨a, o, rfl, g, q⟩ := h
  obtain rfl : u = Value.ref a := ry
  exact d_notIn hu I g rx fun s3 I3 => ⟨.bl (!o.isSome), H, I3, rfl, q⟩
theorem oc_inDic {K : PySem.W.Frag} : OpC K (fun x y H Q => ∃ a o, y = .ref a ∧ DGet H a x o ∧ Q (.bl o.isSome) H) gInDic := by
  intro σ G F H δ x y v w b Q rel rx ry e k
  unfold gInDic at e
  cases e2 : dictGet y x with
  | none => rw [e2] at e; cases e
  | some r =>
    rw [e2] at e; cases e
    obtain ⟨a, o, rfl, h1, h2⟩ := dget_rep rel.subF ry rx e2
    refine ⟨a, o, rfl, h1, ?_⟩
    cases r with
    | none => have h2 : o = none := h2; subst h2; exact k
    | some d => obtain ⟨u, rfl, _⟩ := h2; exact k
theorem oc_notinDic {K : PySem.W.Frag} : OpC K (fun x y H Q => ∃ a o, y = .ref a ∧ DGet H a x o ∧ Q (.bl (!o.isSome)) H) (fun x y => (gInDic x y).map (!·)) := by
  intro σ G F H δ x y v w b Q rel rx ry e k
  unfold gInDic at e
  dsimp only at e
  cases e2 : dictGet y x with
  | none => rw [e2] at e; cases e
  | some r =>
    rw [e2] at e; cases e
    obtain ⟨a, o, rfl, h1, h2⟩ := dget_rep rel.subF ry rx e2
    refine ⟨a, o, rfl, h1, ?_⟩
    cases r with
    | none => have h2 : o = none := h2; subst h2; exact k
    | some d => obtain ⟨u, rfl, _⟩ := h2; exact k
def rDGet : V → List V → Hp → VK → Prop := fun x xs H Q => ∃ a y o, x = .ref a ∧ DGet H a y o ∧ ((xs = [y] ∧ Q (o.getD .non) H) ∨ ∃ z, xs = [y, z] ∧ Q (o.getD z) H)
theorem mt_dget {X : Cx} (hu : X.A.units + 1 < cLine) : MtR X "dict.get" rDGet := by
  intro pins s σ H x vs v us Q I rx rv h
  obtain ⟨a, y, o, rfl, g, h⟩ := h
  obtain rfl : v = Value.ref a := rx
  rcases h with ⟨rfl, q⟩ | ⟨z, rfl, q⟩
  · obtain ⟨u, rfl, r1⟩ := rv.one
    exact d_get1 hu I g r1 fun w' s' I' rw' => ⟨_, H, I', rw', q⟩
  · obtain ⟨u, u2, rfl, r1, r2⟩ := rv.two
    exact d_get2 hu I g r1 r2 fun w' s' I' rw' => ⟨_, H, I', rw', q⟩
/-- the default is a plain value (a thing by name alone would be shared) -/
def gDGet : D → List D → Option Op
  | c, [k] => (dictGet c k).map fun r => .val (r.getD .non)
  | _, _ => none
theorem mg_dget {K : PySem.W.Frag} : MtG K rDGet gDGet := by
  intro σ G F H δ x ds v vs o Q rel rx rs e k
  unfold gDGet at e
  split at e
  · rename_i c kk
    obtain ⟨w, rfl, rk⟩ := rs.one
    cases e2 : dictGet x kk with
    | none => rw [e2] at e; cases e
    | some r =>
      rw [e2] at e; cases e
      obtain ⟨a, o, rfl, h1, h2⟩ := dget_rep rel.subF rx rk e2
      refine ⟨a, w, o, rfl, h1, .inl ⟨rfl, ?_⟩⟩
      cases r with
      | none => have h2 : o = none := h2; subst h2; exact k _ F H .refl rel (show Rep K F .non .non from rep_non)
      | some d => obtain ⟨u, rfl, h3⟩ := h2; exact k _ F H .refl rel h3
  · cases e
/-- d.get(k, x): x is kept -/
def gDGet2 : D → List D → Option Op
  | c, [k, z] => match c with
    | .dic _ _ _ => if flatD z then (dictGet c k).map fun r => .val (r.getD z) else none
    | _ => none
  | _, _ => none
theorem mg_dget2 {K : PySem.W.Frag} : MtG K rDGet gDGet2 := by
  intro σ G F H δ x ds v vs o Q rel rx rs e k
  unfold gDGet2 at e
  split at e
  · rename_i c kk z
    obtain ⟨w, w2, rfl, rk, rz⟩ := rs.two
    split at e
    · split at e
      · rename_i cf
        cases e2 : dictGet (.dic _ _ _) kk with
        | none => rw [e2] at e; cases e
        | some r =>
          rw [e2] at e; cases e
          obtain ⟨a, o, rfl, h1, h2⟩ := dget_rep rel.subF rx rk e2
          refine ⟨a, w, o, rfl, h1, .inr ⟨w2, rfl, ?_⟩⟩
          have hz : Rep K F z w2 := by
            rcases rz with rz | ⟨b, rfl, rz⟩
            · exact rz
            · cases z <;> first | exact rz.elim | (cases cf; done)
          cases r with
          | none => have h2 : o = none := h2; subst h2; exact k _ F H .refl rel hz
          | some d => obtain ⟨u, rfl, h3⟩ := h2; exact k _ F H .refl rel h3
      · cases e
    · cases e
  · cases e
/-- {} -/
def cNewD (t : Bool) : M Op := mOk (.fresh (.dic t [] []))
theorem new_dic {K : PySem.W.Frag} {F : Hp} {G : GP} {H : Hp} {σ : St} {δ : EnvS} {t : Bool} {o : HO} {Q : VK} (r : Rel K G F H σ δ) (ho : dictO t [] [] = some o) (k : ∀ u F' H', Sb F F' → Rel K G F' H' σ δ → OpRep K σ G F' H' δ (.fresh (.dic t [] [])) u → Q u H') : ∀ p, H p = none → Q (.ref p) (upd H p o) := fun p n => by
  refine k _ F _ .refl (r.alloc n) ⟨p, rfl, r.subF.nn n, r.subG.nn n, ⟨[], o, upd_same, ho, .nil⟩, ?_⟩
  exact r.not_own (o := .lst []) (.inr (.inr n))
theorem de_dnewK {X : Cx} {pos : Pos} : DE X (.Dict [] [] pos) (cNewD false) := ⟨fun W tk => PE.weak pe_dnewK fun pins s σ H Q I h => by
  obtain ⟨G, F, δ, r, h⟩ := h
  exact new_dic (o := .dK []) r rfl fun u F' H' s' r' q' => h u F' H' s' r' q'⟩
theorem de_dnewT {X : Cx} {pos : Pos} : DE X (.Dict [] [] pos) (cNewD true) := ⟨fun W tk => PE.weak pe_dnewT fun pins s σ H Q I h => by
  obtain ⟨G, F, δ, r, h⟩ := h
  exact new_dic (o := .dT []) r rfl fun u F' H' s' r' q' => h u F' H' s' r' q'⟩
/-! ### s.index(y), n.bit_length() -/
def gIndexS : D → List D → Option Op
  | .str a, [.str b] => match Builtin.Str.occurrences ⟨a.toArray⟩ ⟨b.toArray⟩ 0 a.length 1 with
    | k :: _ => some (.val (.int (k : Nat)))
    | [] => none
  | _, _ => none
def rIndexS : V → List V → Hp → VK → Prop := fun x xs H Q => ∃ (a b : Str) (k : Nat) (rest : List Nat), x = .str a ∧ xs = [.str b] ∧ Builtin.Str.occurrences a b 0 a.length 1 = k :: rest ∧ Q (.int (k : Nat)) H
theorem mt_indexS {X : Cx} : MtR X "str.index" rIndexS := by
  intro pins s σ H x xs v us Q I rx rs h
  obtain ⟨a, b, k, rest, rfl, rfl, q, w⟩ := h
  obtain ⟨t, rfl⟩ := rx
  obtain ⟨u, rfl, r1⟩ := rs.one
  obtain ⟨t2, rfl⟩ := r1
  exact PySem.SC.index q ⟨.int (k : Nat), H, I.tok _, ⟨_, rfl⟩, w⟩
theorem mg_indexS {K : PySem.W.Frag} : MtG K rIndexS gIndexS := by
  intro σ G F H δ x ds v vs o Q rel rx rs e k
  unfold gIndexS at e
  split at e
  · rename_i a b
    split at e
    · rename_i j rest ho
      cases e
      obtain ⟨w, rfl, rk⟩ := rs.one
      have hv := rx.str; have hw := rk.str; subst hv; subst hw
      exact ⟨_, _, j, rest, rfl, rfl, by rw [str_len]; exact ho, k _ F H .refl rel (show Rep K F (.int _) _ from rep_int _)⟩
    · cases e
  · cases e
def gBits : D → Option Op
  | .int i => some (.val (.int (Builtin.Int.intBits i : Nat)))
  | _ => none
def cBits (f : M Op) : M Op := M.bind f fun o => lift1 gBits o
theorem de_bits {X : Cx} {o : Expr} {f : M Op} {apos pos : Pos} (ho : DE X o f) (hr : plainRecv o = true) (hline : (apos.endLine == pos.line) = true) : DE X (.Call (.Attribute o "bit_length" apos) [] [] pos) (cBits f) := by
  refine ⟨fun W tk => PE.weak (pe_bits (ho.run W tk) (plainRecv_ok hr) hline) fun pins s σ H Q I h => ?_⟩
  obtain ⟨G, F, δ, r, h⟩ := h
  refine bindE r .refl h fun o1 δ1 v F1 H1 s1 r1 q1 h => ?_
  unfold lift1 at h
  cases e1 : deref δ1 o1 with
  | none => rw [e1] at h; exact h.elim
  | some x =>
    rw [e1] at h
    dsimp only at h
    cases e2 : gBits x with
    | none => rw [e2] at h; exact h.elim
    | some op =>
      rw [e2] at h
      unfold gBits at e2
      split at e2
      · rename_i i
        cases e2
        have hv := (deref_rep r1 q1 e1).int
        exact ⟨i, hv, h _ F1 H1 .refl r1 (show Rep X.K F1 (.int _) _ from rep_int _)⟩
      · cases e2
end Ev
set_option Elab.async false
set_option linter.all false
set_option autoImplicit false
set_option maxRecDepth 100000
set_option maxHeartbeats 4000000
namespace Ev
open PySem PySem.Spec L2
open PyProof.Rows hiding St
/-! ### targets of assignments -/
def tG (K : PySem.W.Frag) (f : D → M Unit) (W : WX) : TG := fun v σ H Q => ∃ G F δ d, Rel K G F H σ δ ∧ Rep K F d v ∧ match f d δ with
  | .ok _ δ' => ∀ σ' F' H', Sb F F' → Rel K G F' H' σ' δ' → Q σ' H'
  | _ => False
structure DG (X : Cx) (tg : Expr) (f : D → M Unit) : Prop where
  run : PG X tg (tG X.K f W0)
def tGs (K : PySem.W.Frag) (f : List D → M Unit) : TGs := fun vs σ H Q => ∃ G F δ ds, Rel K G F H σ δ ∧ RepL K F ds vs ∧ match f ds δ with
  | .ok _ δ' => ∀ σ' F' H', Sb F F' → Rel K G F' H' σ' δ' → Q σ' H'
  | _ => False
structure DGs (X : Cx) (ts : List Expr) (f : List D → M Unit) : Prop where
  run : PGs X ts (tGs X.K f)
theorem PG.weak {X : Cx} {tg : Expr} {t t' : TG} (h : PG X tg t) (k : ∀ pins s v σ H Q, Inv X pins σ H s → t' v σ H Q → t v σ H Q) : PG X tg t' := ⟨fun pins s σ H v u Q I r q => h.run pins s σ H v u Q I r (k pins s v σ H Q I q)⟩
theorem PGs.weak {X : Cx} {tg : List Expr} {t t' : TGs} (h : PGs X tg t) (k : ∀ pins s v σ H Q, Inv X pins σ H s → t' v σ H Q → t v σ H Q) : PGs X tg t' := ⟨fun pins s σ H v u Q I r q => h.run pins s σ H v u Q I r (k pins s v σ H Q I q)⟩
section
variable {X : Cx} {pos : Pos}
def tgName (i : Nat) : D → M Unit := fun d δ => .ok () (δ.set i (.val d))
theorem dg_name {i : Nat} {x : Str} (hN : X.N.Nodup) (hi : X.N[i]? = some x) (hx : Loc X.env.scope x) (hf : X.fn x = true ∨ X.env.scope.names.lookup x = some .local) : DG X (.Name x pos) (tgName i) :=
  ⟨PG.weak (pg_name hN hi hx hf) fun pins s v σ H Q I h => by
    obtain ⟨G, F, δ, d, r, p, h⟩ := h
    exact h _ F H .refl (r.setVal p)⟩
def tgNil : List D → M Unit
  | [] => fun δ => .ok () δ
  | _ => mBad
def tgCons (f : D → M Unit) (g : List D → M Unit) : List D → M Unit
  | d :: ds => M.bind (f d) fun _ => g ds
  | [] => mBad
theorem dgs_nil : DGs X [] tgNil := ⟨PGs.weak pgs_nil fun pins s v σ H Q I h => by
  obtain ⟨G, F, δ, ds, r, p, h⟩ := h
  cases ds with
  | nil => unfold RepL at p; subst p; exact ⟨rfl, h σ F H .refl r⟩
  | cons a b => exact h.elim⟩
theorem notStar_each {e : Expr} {es : List Expr} {env : Env} (h : notStar e = true) : assignEach (e :: es) env = (false, assign e env) :: assignEach es env := by
  cases e <;> first | rfl | cases h
theorem dgs_cons {e : Expr} {es : List Expr} {f : D → M Unit} {g : List D → M Unit} (h1 : DG X e f) (h2 : DGs X es g) (hs : notStar e = true) : DGs X (e :: es) (tgCons f g) := ⟨PGs.weak (pgs_cons h1.run h2.run (by rw [notStar_each hs]; rfl)) fun pins s v σ H Q I h => by
  obtain ⟨G, F, δ, ds, r, p, h⟩ := h
  cases ds with
  | nil => exact h.elim
  | cons d ds =>
    unfold RepL at p
    obtain ⟨w, t, rfl, p1, p2⟩ := p
    refine ⟨w, t, rfl, G, F, δ, d, r, p1, ?_⟩
    simp only [tgCons, M.bind] at h
    cases e1 : f d δ with
    | bad => rw [e1] at h; exact h.elim
    | ex x δ' => rw [e1] at h; exact h.elim
    | ok u δ1 =>
      rw [e1] at h
      dsimp only at h ⊢
      intro σ1 F1 H1 s1 r1
      refine ⟨G, F1, δ1, ds, r1, RepL.sub s1 _ _ p2, ?_⟩
      cases e2 : g ds δ1 with
      | bad => rw [e2] at h; exact h.elim
      | ex x δ' => rw [e2] at h; exact h.elim
      | ok u δ2 => rw [e2] at h; exact fun σ' F' H' s' r' => h σ' F' H' (s1.trans s') r'⟩
def tgTup (n : Nat) (f : List D → M Unit) : D → M Unit
  | .tup ds => if ds.length = n then f ds else mBad
  | _ => mBad
theorem assignEach_len {env : Env} : ∀ {es : List Expr}, es.all notStar = true → (assignEach es env).length = es.length ∧ (assignEach es env).findIdx? (·.1) = none
  | [], _ => ⟨rfl, rfl⟩
  | e :: es, h => by
    simp only [List.all_cons, Bool.and_eq_true] at h
    obtain ⟨h1, h2⟩ := assignEach_len (env := env) h.2
    rw [notStar_each h.1]
    refine ⟨by simp [h1], ?_⟩
    rw [List.findIdx?_cons, h2]; rfl
theorem dg_tup {es : List Expr} {k : Nat} {g : List D → M Unit} (hc : X.calm = true) (h : DGs X es g) (hs : es.all notStar = true) : DG X (.Tuple es k pos) (tgTup es.length g) := ⟨PG.weak (pg_tup hc h.run (assignEach_len hs).1 (assignEach_len hs).2) fun pins s v σ H Q I h => by
  obtain ⟨G, F, δ, d, r, p, h⟩ := h
  cases d with
  | tup ds =>
    unfold Rep at p
    obtain ⟨a, vs, rfl, p1, p2⟩ := p
    have h : (match (if ds.length = es.length then g ds else mBad) δ with | .ok _ δ' => ∀ σ' F' H', Sb F F' → Rel X.K G F' H' σ' δ' → Q σ' H' | _ => False) := h
    by_cases c : ds.length = es.length
    · rw [if_pos c] at h
      exact ⟨a, vs, rfl, .of (r.subF _ _ p1), p2.length.trans c, G, F, δ, ds, r, p2, h⟩
    · rw [if_neg c] at h; exact h.elim
  | _ => exact h.elim⟩
/-! #### o[i] = v, o an own thing -/
def SetG (K : PySem.W.Frag) (t : TSet) (g : D → D → D → Option D) : Prop :=
  ∀ (F H : Hp) (a : Addr) (c c' k d : D) (w v : V) (Q : Hp → Prop), Sb F H → F a = none → ObR K F H a c → RepB K F H k w → Rep K F d v → g c k d = some c' → (∀ o', ObR K F (upd H a o') a c' → Q (upd H a o')) → t (.ref a) w v H Q
def gSetL : D → D → D → Option D
  | .lst xs, .int i, d => match ixN xs.length i with
    | some j => some (.lst (xs.set j d))
    | none => none
  | _, _, _ => none
theorem sg_list {K : PySem.W.Frag} : SetG K rSetL gSetL := by
  intro F H a c c' k d w v Q s n hc hk hv e kk
  unfold gSetL at e
  split at e
  · split at e
    · rename_i j hj
      cases e
      obtain ⟨vs, h1, h2⟩ := hc
      have hw := hk.int
      exact ⟨a, vs, _, j, rfl, hw, h1, by rw [h2.length]; exact hj, kk _ ⟨_, upd_same, h2.set hv j⟩⟩
    · cases e
  · cases e
def rSetD : V → V → V → Hp → (Hp → Prop) → Prop := fun o i v H Q => ∃ a H', o = .ref a ∧ DPut H a i v H' ∧ Q H'
theorem set_dict (hu : X.A.units + 1 < cLine) : PSet X rSetD := by
  intro pins s σ H o i v ov iv u Q I ro ri rv h
  obtain ⟨a, H', rfl, g, q⟩ := h
  obtain rfl : ov = Value.ref a := ro
  exact d_setItem hu I g ri rv fun s' I' => ⟨H', I', q⟩
theorem sg_dict {K : PySem.W.Frag} : SetG K rSetD dictPut := by
  intro F H a c c' k d w v Q s n hc hk hv e kk
  obtain ⟨o', h1, h2⟩ := dput_of s n hc hk hv e
  exact ⟨a, _, rfl, h1, kk o' h2⟩
theorem PSet.or {t t' : TSet} (h : PSet X t) (h' : PSet X t') : PSet X (fun o i v H Q => t o i v H Q ∨ t' o i v H Q) := by
  intro pins s σ H o i v ov iv u Q I ro ri rv q
  rcases q with q | q
  · exact h pins s σ H o i v ov iv u Q I ro ri rv q
  · exact h' pins s σ H o i v ov iv u Q I ro ri rv q
theorem SetG.or {K : PySem.W.Frag} {t t' : TSet} {g g' : D → D → D → Option D} (h : SetG K t g) (h' : SetG K t' g') : SetG K (fun o i v H Q => t o i v H Q ∨ t' o i v H Q) (fun c k d => (g c k d).orElse fun _ => g' c k d) := by
  intro F H a c c' k d w v Q s n hc hk hv e kk
  dsimp only at e
  cases e2 : g c k d with
  | some x => rw [e2] at e; cases e; exact .inl (h F H a c c' k d w v Q s n hc hk hv e2 kk)
  | none => rw [e2] at e; exact .inr (h' F H a c c' k d w v Q s n hc hk hv e kk)
def gSet : D → D → D → Option D := fun c k d => (gSetL c k d).orElse fun _ => dictPut c k d
def tgIx (i : Nat) (fi : M Op) : D → M Unit := fun d δ0 => match δ0[i]? with
  | some (.own _ _) => M.bind fi (fun o => fun δ => match δ[i]?, deref δ o with
    | some (.own io c), some k => match gSet c k d with
      | some c' => .ok () (δ.set i (.own io c'))
      | none => .bad
    | _, _ => .bad) δ0
  | _ => .bad
theorem dg_ix {i : Nat} {x : Str} {p : Pos} {b : Expr} {fi : M Op} (hN : X.N[i]? = some x) (hv : Vis X.env.scope x) (hd : (x == ("__debug__" : Str)) = false) (hcd : (x == ("__classdict__" : Str)) = false) (hu : X.A.units + 1 < cLine) (hb : DE X b fi)
    (ha : ∀ v, assign (.Subscript (.Name x p) b pos) X.env v = (do
      let ov ← holding [v] (eval (.Name x p) X.env)
      let iv ← holding [v, ov] (eval b X.env)
      standAt pos
      holding [v, ov, iv] (setItem ov iv v)
      release [v, ov, iv] [])) : DG X (.Subscript (.Name x p) b pos) (tgIx i fi) := by
  refine ⟨PG.weak (pg_sub (pe_var (pos := p) hN hv hd hcd) (hb.run W0 takes0) (PSet.or set_list (set_dict hu)) ha) fun pins s v σ H Q I h => ?_⟩
  obtain ⟨G, F, δ, d, r, p, h⟩ := h
  unfold tgIx at h
  cases e0 : δ[i]? with
  | none => rw [e0] at h; exact h.elim
  | some sl0 =>
    cases sl0 with
    | none => rw [e0] at h; exact h.elim
    | val y => rw [e0] at h; exact h.elim
    | own io0 c0 =>
      rw [e0] at h
      dsimp only at h
      obtain ⟨a, ea, _, _, _⟩ := r.slot i _ e0
      refine ⟨_, ea, G, F, δ, r, ?_⟩
      unfold M.bind at h
      cases e1 : fi δ with
      | bad => rw [e1] at h; exact h.elim
      | ex y δ' => rw [e1] at h; exact h.elim
      | ok op δ1 =>
        rw [e1] at h
        dsimp only at h
        intro w F1 H1 s1 r1 q1
        have q1 : OpRep X.K σ G F1 H1 δ1 op w := q1
        cases e2 : δ1[i]? with
        | none => rw [e2] at h; exact h.elim
        | some sl =>
          cases sl with
          | none => rw [e2] at h; exact h.elim
          | val y => rw [e2] at h; exact h.elim
          | own io c =>
            rw [e2] at h
            cases e3 : deref δ1 op with
            | none => rw [e3] at h; exact h.elim
            | some k =>
              rw [e3] at h
              dsimp only at h
              cases e4 : gSet c k d with
              | none => rw [e4] at h; exact h.elim
              | some c' =>
                rw [e4] at h
                dsimp only at h
                obtain ⟨b, eb, nF, nG, ob⟩ := r1.slot i _ e2
                rw [ea] at eb; cases eb
                exact (SetG.or sg_list sg_dict) F1 H1 a c c' k d w v _ r1.subF nF ob (deref_rep r1 q1 e3) (Rep.sub s1 _ _ p) e4 fun o' ob' => h σ F1 _ s1 (r1.write e2 ea ob')
/-! #### target = value -/
def cAssign (f : D → M Unit) (fe : M Op) : MS := MS.of fe fun o => MS.of (esc o) fun d δ => match f d δ with
  | .ok _ δ' => .nx δ'
  | _ => .bad
theorem stEsc {K : PySem.W.Frag} {G : GP} {F H : Hp} {σ : St} {δ : EnvS} {W : WX} {op : Op} {v : V} {g : D → MS} {D' : Ends} (r : Rel K G F H σ δ) (q : OpRep K σ G F H δ op v) (h : SatS K G F W (MS.of (esc op) g δ) D') :
    ∃ d F' δ', Sb F F' ∧ Rel K G F' H σ δ' ∧ Rep K F' d v ∧ SatS K G F' W (g d δ') D' := by
  unfold MS.of at h
  cases e : esc op δ with
  | ok d δ' =>
    rw [e] at h
    obtain ⟨F', s, r', p⟩ := esc_ok r q e
    exact ⟨d, F', δ', s, r', p, h.up s⟩
  | ex x δ' => exact absurd e esc_never
  | bad => rw [e] at h; exact h.elim
theorem ds_asg {tg e : Expr} {f : D → M Unit} {fe : M Op} (hg : DG X tg f) (he : DE X e fe) (hs : swapsWithSole [tg] e pos.line X.env = pure false) (hw : swappedStores [tg] e X.env = pure none) (h1 : notStar tg = true) : DS X (.Assign [tg] e pos) (cAssign f fe) := by
  refine ⟨fun W tk => PS.weak (ps_asg (he.run W tk) hg.run hs hw (by rw [notStar_each h1]; rfl)) fun pins s σ H D I h => ?_⟩
  obtain ⟨G, F, δ, r, h⟩ := h
  refine stE r h fun op δ1 v F1 H1 s1 r1 q1 h => ?_
  obtain ⟨d, F2, δ2, s2, r2, p2, h⟩ := stEsc r1 q1 h
  refine ⟨G, F2, δ2, d, r2, p2, ?_⟩
  cases e1 : f d δ2 with
  | bad => rw [e1] at h; exact h.elim
  | ex x δ' => rw [e1] at h; exact h.elim
  | ok u δ3 => rw [e1] at h; exact fun σ' F' H' s' r' => h σ' F' H' s' r'

/-! #### a, b = x, y with plain local names -/
def cPar (is : List Nat) (f : M (List D)) : MS := MS.of f fun ds δ => if ds.length = is.length then .nx (setVals δ is ds) else .bad
theorem ds_par {i j : Nat} {x y : Str} {a b : Expr} {f : M (List D)} {px py pt : Pos} {kt k2 pt2} (hc : X.calm = true) (hN : X.N.Nodup) (hi : X.N[i]? = some x) (hj : X.N[j]? = some y) (hij : i ≠ j)
    (hx : X.env.scope.names.lookup x = some .local) (hy : X.env.scope.names.lookup y = some .local) (ha : DA X [a, b] f)
    (hw : swappedStores [.Tuple [.Name x px, .Name y py] kt pt] (.Tuple [a, b] k2 pt2) X.env = pure (some [x, y]))
    (hs : swapsWithSole [.Tuple [.Name x px, .Name y py] kt pt] (.Tuple [a, b] k2 pt2) pos.line X.env = pure false) :
    DS X (.Assign [.Tuple [.Name x px, .Name y py] kt pt] (.Tuple [a, b] k2 pt2) pos) (cPar [i, j] f) := by
  refine ⟨fun W tk => PS.weak (ps_par hc hN hi hj hij hx hy (ha.run W tk) hw hs) fun pins s σ H D I h => ?_⟩
  obtain ⟨G, F, δ, r, h⟩ := h
  refine stA r h fun ds δ1 vs F1 H1 s1 r1 q1 h => ?_
  split at h
  · rename_i hl
    cases ds with
    | nil => cases hl
    | cons d1 t =>
      cases t with
      | nil => cases hl
      | cons d2 t =>
        cases t with
        | cons _ _ => simp at hl
        | nil =>
          unfold RepL at q1
          obtain ⟨v, t, rfl, p1, q1⟩ := q1
          unfold RepL at q1
          obtain ⟨w, t, rfl, p2, q1⟩ := q1
          unfold RepL at q1
          subst q1
          exact ⟨v, w, rfl, h _ F1 H1 .refl ((r1.setVal p1).setVal p2)⟩
  · exact h.elim
theorem ds_par3 {i j l : Nat} {x y z : Str} {a b c : Expr} {f : M (List D)} {px py pz pt pos : Pos} {kt k2 pt2} (hc : X.calm = true) (hN : X.N.Nodup) (hi : X.N[i]? = some x) (hj : X.N[j]? = some y) (hl : X.N[l]? = some z) (hij : i ≠ j) (hil : i ≠ l) (hjl : j ≠ l)
    (hx : X.env.scope.names.lookup x = some .local) (hy : X.env.scope.names.lookup y = some .local) (hz : X.env.scope.names.lookup z = some .local) (ha : DA X [a, b, c] f)
    (hw : swappedStores [.Tuple [.Name x px, .Name y py, .Name z pz] kt pt] (.Tuple [a, b, c] k2 pt2) X.env = pure (some [x, y, z]))
    (hs : swapsWithSole [.Tuple [.Name x px, .Name y py, .Name z pz] kt pt] (.Tuple [a, b, c] k2 pt2) pos.line X.env = pure false) :
    DS X (.Assign [.Tuple [.Name x px, .Name y py, .Name z pz] kt pt] (.Tuple [a, b, c] k2 pt2) pos) (cPar [i, j, l] f) := by
  refine ⟨fun W tk => PS.weak (L2.ps_par3 hc hN hi hj hl hij hil hjl hx hy hz (ha.run W tk) hw hs) fun pins s σ H D I h => ?_⟩
  obtain ⟨G, F, δ, r, h⟩ := h
  refine stA r h fun ds δ1 vs F1 H1 s1 r1 q1 h => ?_
  split at h
  · rename_i hl
    cases ds with
    | nil => cases hl
    | cons d1 t =>
      cases t with
      | nil => cases hl
      | cons d2 t =>
        cases t with
        | nil => cases hl
        | cons d3 t =>
          cases t with
          | cons _ _ => simp at hl
          | nil =>
            unfold RepL at q1
            obtain ⟨v, t, rfl, p1, q1⟩ := q1
            unfold RepL at q1
            obtain ⟨w, t, rfl, p2, q1⟩ := q1
            unfold RepL at q1
            obtain ⟨u, t, rfl, p3, q1⟩ := q1
            unfold RepL at q1
            subst q1
            exact ⟨v, w, u, rfl, h _ F1 H1 .refl (((r1.setVal p1).setVal p2).setVal p3)⟩
  · exact h.elim
/-! #### methods that change an own thing -/
def MtO (K : PySem.W.Frag) (r : V → List V → Hp → VK → Prop) (g : D → List D → Option (Op × D)) : Prop :=
  ∀ (σ : St) (G : GP) (F H : Hp) (δ : EnvS) (i : Nat) (io : Bool) (a : Addr) (c c' : D) (ds : List D) (vs : List V) (o : Op) (Q : VK), Rel K G F H σ δ → δ[i]? = some (.own io c) → σ[i]? = some (some (.ref a)) → ObR K F H a c → RepL K F ds vs → g c ds = some (o, c') →
    (∀ u F' H', Sb F F' → Rel K G F' H' σ (δ.set i (.own io c')) → OpRep K σ G F' H' (δ.set i (.own io c')) o u → Q u H') → r (.ref a) vs H Q
def methO (i : Nat) (g : D → List D → Option (Op × D)) (ds : List D) : M Op := fun δ => match δ[i]? with
  | some (.own io c) => match g c ds with
    | some (o, c') => .ok o (δ.set i (.own io c'))
    | none => .bad
  | _ => .bad
def ownTy (i : Nat) (T : String) : M Unit := fun δ => match δ[i]? with
  | some (.own _ c) => if tyM c = some T then .ok () δ else .bad
  | _ => .bad
def cMethO (T : String) (i : Nat) (g : D → List D → Option (Op × D)) (fa : M (List D)) : M Op := M.bind (ownTy i T) fun _ => M.bind fa fun ds => methO i g ds
theorem tyO_of {K : PySem.W.Frag} {F H : Hp} {c : D} {a : Addr} {T : String} (h : ObR K F H a c) (e : tyM c = some T) : tyV K T (.ref a) H := by
  cases c with
  | lst xs => obtain ⟨vs, h1, _⟩ := h; cases e; exact .inl ⟨rfl, vs, .of h1⟩
  | dic t ks xs =>
    obtain ⟨vs, o, h1, h2, _⟩ := h; cases e
    rcases dictO_kind h2 with ⟨kvs, rfl⟩ | ⟨kvs, rfl⟩
    · exact .inr (.inr (.inl ⟨rfl, .inl ⟨kvs, h1⟩⟩))
    · exact .inr (.inr (.inl ⟨rfl, .inr ⟨kvs, h1⟩⟩))
  | _ => exact h.elim
section
variable {e : Expr} {es : List Expr} {fa : M (List D)} {name : Str} {apos cpos : Pos} {T id : String} {r : V → List V → Hp → VK → Prop} {g : D → List D → Option (Op × D)} {i : Nat} {x : Str} {p : Pos}
theorem de_methO (pa : PlainAttrs T) (slot : PySem.Slot T name id) (hty : typeOf (.builtin id) = pure (.type "method_descriptor")) (hm : MtR X id r) (hg : MtO X.K r g) (hN : X.N[i]? = some x) (hv : Vis X.env.scope x) (hd : (x == ("__debug__" : Str)) = false) (hcd : (x == ("__classdict__" : Str)) = false) (ha : DA X (e :: es) fa)
    (hr : plainRecv (.Name x p) = true) (hline : (apos.endLine == cpos.line) = true) (hs : (e :: es).all notStar = true) (hl : (e :: es).length < 30) : DE X (.Call (.Attribute (.Name x p) name apos) (e :: es) [] cpos) (cMethO T i g fa) := by
  have hs' := hs
  simp only [List.all_cons, Bool.and_eq_true] at hs
  refine ⟨fun W tk => PE.weak (pe_bm pa slot hty hm (pe_var hN hv hd hcd) (ha.run W tk) (plainRecv_ok hr) (few_ok hs' hl) hline (starEach_cons hs.1) (backTo_plain hs.2)) fun pins s σ H Q I h => ?_⟩
  obtain ⟨G, F, δ, rr, h⟩ := h
  unfold cMethO ownTy at h
  unfold M.bind at h
  dsimp only at h
  cases e0 : δ[i]? with
  | none => rw [e0] at h; exact h.elim
  | some sl0 =>
    cases sl0 with
    | none => rw [e0] at h; exact h.elim
    | val y => rw [e0] at h; exact h.elim
    | own io0 c0 =>
      rw [e0] at h
      dsimp only at h
      obtain ⟨a, ea, _, _, ob⟩ := rr.slot i _ e0
      by_cases ct : tyM c0 = some T
      · rw [if_pos ct] at h
        dsimp only at h
        refine ⟨_, ea, tyO_of ob ct, ?_⟩
        refine bindA (g := fun ds => methO i g ds) rr .refl h fun ds δ1 vs F1 H1 s1 r1 q1 h => ?_
        unfold methO at h
        cases e2 : δ1[i]? with
        | none => rw [e2] at h; exact h.elim
        | some sl =>
          cases sl with
          | none => rw [e2] at h; exact h.elim
          | val y => rw [e2] at h; exact h.elim
          | own io c =>
            rw [e2] at h
            dsimp only at h
            cases e3 : g c ds with
            | none => rw [e3] at h; exact h.elim
            | some oc =>
              obtain ⟨o, c'⟩ := oc
              rw [e3] at h
              obtain ⟨b, eb, nF, nG, ob1⟩ := r1.slot i _ e2
              rw [ea] at eb; cases eb
              exact hg σ G F1 H1 δ1 i io a c c' ds vs o Q r1 e2 ea ob1 q1 e3 fun u F' H' s' r' q' => h u F' H' s' r' q'
      · rw [if_neg ct] at h; exact h.elim
theorem de_methO0 (pa : PlainAttrs T) (slot : PySem.Slot T name id) (hty : typeOf (.builtin id) = pure (.type "method_descriptor")) (hm : MtR X id r) (hg : MtO X.K r g) (hN : X.N[i]? = some x) (hv : Vis X.env.scope x) (hd : (x == ("__debug__" : Str)) = false) (hcd : (x == ("__classdict__" : Str)) = false)
    (hr : plainRecv (.Name x p) = true) (hline : (apos.endLine == cpos.line) = true) : DE X (.Call (.Attribute (.Name x p) name apos) [] [] cpos) (cMethO T i g cNil) := by
  refine ⟨fun W tk => PE.weak (pe_bm0 pa slot hty hm (pe_var hN hv hd hcd) (plainRecv_ok hr) hline) fun pins s σ H Q I h => ?_⟩
  obtain ⟨G, F, δ, rr, h⟩ := h
  unfold cMethO ownTy cNil mOk at h
  unfold M.bind at h
  dsimp only at h
  cases e0 : δ[i]? with
  | none => rw [e0] at h; exact h.elim
  | some sl0 =>
    cases sl0 with
    | none => rw [e0] at h; exact h.elim
    | val y => rw [e0] at h; exact h.elim
    | own io0 c0 =>
      rw [e0] at h
      dsimp only at h
      obtain ⟨a, ea, _, _, ob⟩ := rr.slot i _ e0
      by_cases ct : tyM c0 = some T
      · rw [if_pos ct] at h
        dsimp only at h
        refine ⟨_, ea, tyO_of ob ct, ?_⟩
        unfold methO at h
        rw [e0] at h
        dsimp only at h
        cases e3 : g c0 [] with
        | none => rw [e3] at h; exact h.elim
        | some oc =>
          obtain ⟨o, c'⟩ := oc
          rw [e3] at h
          exact hg σ G F H δ i io0 a c0 c' [] [] o Q rr e0 ea ob .nil e3 fun u F' H' s' r' q' => h u F' H' s' r' q'
      · rw [if_neg ct] at h; exact h.elim
end
section
variable {K : PySem.W.Frag}
theorem RepL.dropLast {F : Hp} {ds : List D} {vs : List V} (h : RepL K F ds vs) : RepL K F ds.dropLast vs.dropLast := by
  rw [List.dropLast_eq_take, List.dropLast_eq_take, h.length]
  exact h.take _
def gAppend : D → List D → Option (Op × D)
  | .lst xs, [d] => if fits (xs.length + 1) then some (.val .non, .lst (xs ++ [d])) else none
  | _, _ => none
theorem mo_append : MtO K rAppend gAppend := by
  intro σ G F H δ i io a c c' ds vs o Q r e0 ea ob q e k
  unfold gAppend at e
  split at e
  · split at e
    · rename_i cf
      cases e
      obtain ⟨us, h1, h2⟩ := ob
      unfold RepL at q
      obtain ⟨v, t, rfl, p1, q⟩ := q
      unfold RepL at q
      subst q
      have hl := fits_le cf
      exact ⟨a, us, v, rfl, rfl, h1, by rw [h2.length]; omega, k _ F _ .refl (r.write e0 ea ⟨_, upd_same, h2.append (.one p1)⟩) (show Rep K F .non .non from rep_non)⟩
    · cases e
  · cases e
def gExtend : D → List D → Option (Op × D)
  | .lst xs, [.lst ys] => if fits (xs.length + ys.length) then some (.val .non, .lst (xs ++ ys)) else none
  | _, _ => none
theorem mo_extend : MtO K rExtend gExtend := by
  intro σ G F H δ i io a c c' ds vs o Q r e0 ea ob q e k
  unfold gExtend at e
  split at e
  · split at e
    · rename_i cf
      cases e
      obtain ⟨us, h1, h2⟩ := ob
      unfold RepL at q
      obtain ⟨v, t, rfl, p1, q⟩ := q
      unfold RepL at q
      subst q
      unfold Rep at p1
      obtain ⟨b, ws, rfl, p2, p3⟩ := p1
      have hl := fits_le cf
      exact ⟨a, b, us, ws, rfl, rfl, h1, r.subF _ _ p2, by rw [h2.length, p3.length]; exact hl, k _ F _ .refl (r.write e0 ea ⟨_, upd_same, h2.append p3⟩) (show Rep K F .non .non from rep_non)⟩
    · cases e
  · cases e
def gPop : D → List D → Option (Op × D)
  | .lst xs, [] => match xs[xs.length - 1]? with
    | some d => some (.val d, .lst xs.dropLast)
    | none => none
  | _, _ => none
theorem mo_pop : MtO K rPop gPop := by
  intro σ G F H δ i io a c c' ds vs o Q r e0 ea ob q e k
  unfold gPop at e
  split at e
  · split at e
    · rename_i hd
      cases e
      obtain ⟨us, h1, h2⟩ := ob
      unfold RepL at q
      subst q
      obtain ⟨u, h3, h4⟩ := h2.get hd
      exact ⟨a, us, u, rfl, rfl, h1, by rw [h2.length]; exact h3, k _ F _ .refl (r.write e0 ea ⟨_, upd_same, h2.dropLast⟩) h4⟩
    · cases e
  · cases e
end
end
end Ev
set_option Elab.async false
set_option linter.all false
set_option autoImplicit false
set_option maxRecDepth 100000
set_option maxHeartbeats 4000000
namespace Ev
open PySem PySem.Spec L2
open PyProof.Rows hiding St
/-! ### xs[lo:hi] = ys -/
def spA (lo hi : Option Int) (n : Nat) : Nat := (sliceBounds lo hi none n).1.toNat
def spC (lo hi : Option Int) (n : Nat) : Nat := (max (sliceBounds lo hi none n).1 (sliceBounds lo hi none n).2.1).toNat
def splc {α : Type} (xs ys : List α) (lo hi : Option Int) : List α := xs.take (spA lo hi xs.length) ++ ys ++ xs.drop (spC lo hi xs.length)
section
variable {prog : Program} {w : World} {A : Around} {E : Value → Shared → Prop} {s : Shared}
theorem spA_le (lo hi : Option Int) (n : Nat) : spA lo hi n ≤ spC lo hi n := by
  unfold spA spC
  omega
set_option maxRecDepth 100000 in
theorem setItem_sliceG {l b sl : Addr} {items new : Array Value} {n n2 : Nat} {vl vu : Value} {lo hi : Option Int} {Q : Unit → Shared → Prop}
    (e : s.heap.get? l = some { cls := .type "list", data := .seq items n }) (e2 : s.heap.get? b = some { cls := .type "list", data := .seq new n2 }) (hne : l ≠ b)
    (hs : s.heap.IsSliceOf sl vl vu .none) (pl : IsPart vl lo) (pu : IsPart vu hi)
    (hsz : items.size + new.size ≤ sizeLine) (h : Q () { s with heap := s.heap.update l (Obj.mapSeq fun xs => xs.extract 0 (spA lo hi items.size) ++ new ++ xs.extract (spC lo hi items.size) xs.size) }) :
    wpAny (model prog w) A (setItem (.ref l) (.ref sl) (.ref b)) Q E s := by
  have hl : s.heap.IsList l items := PySem.IsL.isList e
  have hb : s.heap.IsList b new := PySem.IsL.isList e2
  obtain ⟨os, hos, hcs, hds⟩ := id hs
  have hTs : s.TypeIs (.ref sl) "slice" := ⟨os, hos, hcs⟩
  have hstep : ¬ ((rawPart none == rawInt 0) = true) := Bool.false_ne_true
  have hsame : Builtin.List.listSameRef (.ref l) (.ref b) = false := by
    unfold Builtin.List.listSameRef
    exact beq_eq_false_iff_ne.mpr hne
  have hac := spA_le lo hi items.size
  have hz' : ((fun xs : Array Value => xs.extract 0 (spA lo hi items.size) ++ new ++ xs.extract (spC lo hi items.size) xs.size) items).size ≤ sizeLine + 1 := by
    simp only [Array.size_append, Array.size_extract]
    omega
  unfold setItem
  try with_reducible refine wpAny_holding ?_
  first | refine wpAny_bind (wpAny_pure ?_) | skip
  refine wpAny_bind (wpAny_sequenceKey hl.typeIs (by decide) ?_)
  refine wpAny_bind (wpAny_callSpecial?_slot (name := Str.ofString "__setitem__") hl.typeIs slot_list_setitem
    (wpAny_call_entry slot_list_setitem hl.typeIs entry_list_setitem ?_ (args_list_setitem _ _ _)))
  show wpAny _ _ (Builtin.List.listSubscript? (.ref sl) >>= _) _ _ s
  refine wpAny_bind ?_
  unfold Builtin.List.listSubscript?
  refine wpAny_bind (wpAny_specialOf hTs slice_no_index ?_)
  simp only [Option.isNone_none, if_true]
  refine wpAny_pure ?_
  show wpAny _ _ (typeOf (.ref sl) >>= _) _ _ s
  refine wpAny_bind (wpAny_typeOf hTs ?_)
  first
    | rw [if_neg (by decide)]
    | refine PySem.W.KFB.if_not (by decide) ?_
  rw [listSliceParts_eq]
  refine wpAny_bind (wpAny_bind (wpAny_field hos hds (x := .none) rfl (wpAny_bind (wpAny_listPart .none ?_))))
  rw [if_neg hstep]
  refine wpAny_bind (wpAny_field hos hds (x := vl) rfl (wpAny_bind (wpAny_listPart pl ?_)))
  refine wpAny_bind (wpAny_field hos hds (x := vu) rfl (wpAny_bind (wpAny_listPart pu (wpAny_pure ?_))))
  first
    | simp only [hsame, Bool.false_eq_true, if_false]
    | refine PySem.W.KFB.if_not hsame ?_
    | (dsimp only
       rw [if_neg (by rw [hsame]; exact Bool.false_ne_true)])
  refine wpAny_bind (m := Builtin.List.listAllItems (.ref b) "must assign iterable to extended slice") ?_
  unfold Builtin.List.listAllItems
  refine wpAny_bind (wpAny_typeOf hb.typeIs ?_)
  first
    | refine PySem.W.KFB.if_so (by decide) ?_
    | rw [if_pos (by decide)]
    | simp only [beq_self_eq_true, Bool.true_or, if_true]
  unfold Builtin.List.listItems
  refine wpAny_bind (wpAny_seqItems e2 rfl (wpAny_pure ?_))
  refine wpAny_bind (wpAny_bind (wpAny_seqItems e rfl (wpAny_pure ?_)))
  refine wpAny_bind (wpAny_of_eq (sliceIndices_raw lo hi none items.size (by simp)) ?_)
  show wpAny _ _ (if ((1 : Int) == 1) = true then _ else _) _ _ s
  rw [if_pos (by decide)]
  refine wpAny_bind (wpAny_rule ?_)
  first
    | simp only [notLongL hsz, Bool.false_eq_true, if_false]
    | refine PySem.W.KFB.if_not (notLongL hsz) ?_
  first | refine wpAny_bind (wpAny_pure ?_) | skip
  show wpAny _ _ (updateSeq l (fun xs => xs.extract 0 (spA lo hi items.size) ++ new ++ xs.extract (spC lo hi items.size) xs.size) >>= _) _ _ s
  refine wpAny_bind (wpAny_updateSeq (hz := Nat.le_trans (Nat.le_add_right _ _) hsz) (_hz' := hz') e rfl ?_)
  refine wpAny_bind (wpAny_letGo ?_)
  first
    | exact wpAny_bind (wpAny_pure (wpAny_pure ⟨.none, rfl, wpAny_pure h⟩))
    | exact wpAny_pure ⟨.none, rfl, wpAny_pure h⟩
end
section
variable {X : Cx}
def rSetSl (o : V) (l u : Option Int) (v : V) (H : Hp) (Q : Hp → Prop) : Prop := ∃ (a b : Addr) (xs ys : List V), o = .ref a ∧ v = .ref b ∧ H a = some (.lst xs) ∧ H b = some (.lst ys) ∧ a ≠ b ∧ xs.length + ys.length ≤ sizeLine ∧ Q (upd H a (.lst (splc xs ys l u)))
theorem set_sliceG {pins : List (Addr × Obj)} {s : Shared} {σ : St} {H : Hp} {l b sl : Addr} {xs ys : List V} {lo hi : Option Int} {vl vu : Value} {Q : Unit → Shared → Prop} (I : Inv X pins σ H s)
    (hH : H l = some (.lst xs)) (hB : H b = some (.lst ys)) (hne : l ≠ b) (hs : s.heap.IsSliceOf sl vl vu .none) (pl : IsPart vl lo) (pu : IsPart vu hi)
    (hz : xs.length + ys.length ≤ sizeLine) (h : ∀ s', Inv X pins σ (upd H l (.lst (splc xs ys lo hi))) s' → Q () s') :
    wpAny (model X.prog X.w) X.A (setItem (.ref l) (.ref sl) (.ref b)) Q X.xe s := by
  obtain ⟨z, its, n, r, hl, e⟩ := I.lstM hH
  obtain ⟨z2, its2, n2, r2, hl2, e2⟩ := I.lstM hB
  have hn : its.toArray.size = xs.length := by rw [List.size_toArray]; exact hl.symm
  have hac := spA_le lo hi xs.length
  refine setItem_sliceG e e2 hne hs pl pu (by rw [List.size_toArray, List.size_toArray]; omega) (h _ ?_)
  rw [hn]
  refine I.lset (its' := its.take (spA lo hi xs.length) ++ its2 ++ its.drop (spC lo hi xs.length)) (t' := s.toks) hH e ?_ (Vals.append (Vals.append (r.take _) r2) (r.drop _)) ?_
  · exact splice_eq its its2 _ _
  · unfold splc
    rw [List.length_append, List.length_append, List.length_take, List.length_drop]
    omega
def gSlc (to : TE) (tl th : TO) : TG := fun v σ H Q => to σ H fun o H1 => tl σ H1 fun l H2 => th σ H2 fun u H3 => rSetSl o l u v H3 fun H4 => Q σ H4
theorem pg_slice {o : Expr} {lo hi : Option Expr} {to : TE} {tl th : TO} {p2 pos : Pos} (ho : PE X o to) (hl : PO X lo tl) (hu : PO X hi th) : PG X (.Subscript o (.Slice lo hi none p2) pos) (gSlc to tl th) := by
  refine ⟨fun pins s σ H v u Q I r h => ?_⟩
  have ha : assign (.Subscript o (.Slice lo hi none p2) pos) X.env u = (do
      let ov ← holding [u] (eval o X.env)
      let iv ← holding [u, ov] (eval (.Slice lo hi none p2) X.env)
      standAt pos
      holding [u, ov, iv] (setItem ov iv u)
      release [iv, u, ov] []) := rfl
  rw [ha]
  refine wpAny_bind (wpAny_holding (thn (ho.run pins s σ H _ I h) fun ov s1 ⟨x, H1, I1, r1, q1⟩ => ?_))
  refine wpAny_bind (wpAny_holding (wpAny_Slice (thn (hl.run pins s1 σ H1 _ I1 q1) fun vl s2 ⟨l, H2, I2, pl, q2⟩ => thn (hu.run pins s2 σ H2 _ I2 q2) fun vu s3 ⟨u', H3, I3, pu, q3⟩ => ?_)))
  obtain ⟨a, b, xs, ys, rfl, rfl, hA, hB, hne, hz, q⟩ := q3
  cases r1
  cases r
  have hn : evalPart none X.env = pure .none := by first | rfl | with_unfolding_all rfl
  rw [hn]
  refine wpAny_pure ?_
  have I5 : Inv X pins σ H3 { s3 with heap := s3.heap.push { cls := .type "slice", data := .fields #[vl, vu, .none] } } := I3.kept (t' := s3.toks) fun b ob q => Heap.get?_push_of_some _ q
  refine wpAny_bind (wpAny_standAt (wpAny_bind (wpAny_holding (set_sliceG I5 hA hB hne (Heap.IsSliceOf.new _ vl vu .none) pl pu hz fun s4 I4 => ?_))))
  exact wpAny_release ⟨σ, _, I4, q⟩
end
def gSetSl (lo hi : Option Int) : D → D → Option D
  | .lst xs, .lst ys => if fits (xs.length + ys.length) then some (.lst (splc xs ys lo hi)) else none
  | _, _ => none
theorem repL_splc {K : PySem.W.Frag} {F : Hp} {xs ys : List D} {vs ws : List V} (h : RepL K F xs vs) (k : RepL K F ys ws) (lo hi : Option Int) : RepL K F (splc xs ys lo hi) (splc vs ws lo hi) := by
  unfold splc
  rw [h.length]
  exact ((h.take _).append k).append (h.drop _)
def tgSl (i : Nat) (fl fh : M (Option Int)) : D → M Unit := fun d δ0 => match δ0[i]? with
  | some (.own _ _) => M.bind fl (fun lo => M.bind fh fun hi δ => match δ[i]? with
    | some (.own io c) => (match gSetSl lo hi c d with
      | some c' => .ok () (δ.set i (.own io c'))
      | none => .bad)
    | _ => .bad) δ0
  | _ => .bad
theorem dg_slice {X : Cx} {i : Nat} {x : Str} {p p2 pos : Pos} {lo hi : Option Expr} {fl fh : M (Option Int)} (hN : X.N[i]? = some x) (hv : Vis X.env.scope x) (hd : (x == ("__debug__" : Str)) = false) (hcd : (x == ("__classdict__" : Str)) = false) (hl : DP X lo fl) (hh : DP X hi fh) : DG X (.Subscript (.Name x p) (.Slice lo hi none p2) pos) (tgSl i fl fh) := by
  refine ⟨PG.weak (pg_slice (pe_var (pos := p) hN hv hd hcd) (hl.run W0 takes0) (hh.run W0 takes0)) fun pins s v σ H Q I h => ?_⟩
  obtain ⟨G, F, δ, d, r, p, h⟩ := h
  unfold tgSl at h
  cases e0 : δ[i]? with
  | none => rw [e0] at h; exact h.elim
  | some sl0 =>
    cases sl0 with
    | none => rw [e0] at h; exact h.elim
    | val y => rw [e0] at h; exact h.elim
    | own io0 c0 =>
      rw [e0] at h
      dsimp only at h
      obtain ⟨a, ea, _, _, _⟩ := r.slot i _ e0
      refine ⟨_, ea, G, F, δ, r, ?_⟩
      unfold M.bind at h
      cases e1 : fl δ with
      | bad => rw [e1] at h; exact h.elim
      | ex y δ' => rw [e1] at h; exact h.elim
      | ok l1 δ1 =>
        rw [e1] at h
        dsimp only at h
        intro l2 F1 H1 s1 r1 q1
        have q1 : l1 = l2 := q1
        subst q1
        refine ⟨G, F1, δ1, r1, ?_⟩
        cases e2 : fh δ1 with
        | bad => rw [e2] at h; exact h.elim
        | ex y δ' => rw [e2] at h; exact h.elim
        | ok u1 δ2 =>
          rw [e2] at h
          dsimp only at h
          intro u2 F2 H2 s2 r2 q2
          have q2 : u1 = u2 := q2
          subst q2
          cases e3 : δ2[i]? with
          | none => rw [e3] at h; exact h.elim
          | some sl =>
            cases sl with
            | none => rw [e3] at h; exact h.elim
            | val y => rw [e3] at h; exact h.elim
            | own io c =>
              rw [e3] at h
              dsimp only at h
              cases e4 : gSetSl l1 u1 c d with
              | none => rw [e4] at h; exact h.elim
              | some c' =>
                rw [e4] at h
                dsimp only at h
                obtain ⟨b, eb, nF, nG, ob⟩ := r2.slot i _ e3
                rw [ea] at eb; cases eb
                unfold gSetSl at e4
                split at e4
                · rename_i xs ys
                  split at e4
                  · rename_i hf
                    cases e4
                    have p2 := Rep.sub (s1.trans s2) _ _ p
                    unfold Rep at p2
                    obtain ⟨b, ws, rfl, hb, hy⟩ := p2
                    obtain ⟨vs, hA, hx⟩ := ob
                    refine ⟨a, b, vs, ws, rfl, rfl, hA, r2.subF _ _ hb, (fun z => by rw [z, hb] at nF; cases nF), ?_, ?_⟩
                    · rw [hx.length, hy.length]; exact fits_le hf
                    · exact h σ F2 _ (s1.trans s2) (r2.write e3 ea ⟨_, upd_same, repL_splc hx hy l1 u1⟩)
                  · cases e4
                · cases e4
/-! ### a, b = [], [] -/
def isNilL : Expr → Bool
  | .List [] _ => true
  | _ => false
def cParE (i j : Nat) : MS := fun δ => .nx ((δ.set i (.own false (.lst []))).set j (.own false (.lst [])))
theorem ds_parE {X : Cx} {pos : Pos} {i j : Nat} {x y : Str} {a b : Expr} {px py pt : Pos} {kt k2 pt2} (hc : X.calm = true) (hN : X.N.Nodup) (hi : X.N[i]? = some x) (hj : X.N[j]? = some y) (hij : i ≠ j)
    (hx : X.env.scope.names.lookup x = some .local) (hy : X.env.scope.names.lookup y = some .local) (ha : isNilL a = true) (hb : isNilL b = true)
    (hw : swappedStores [.Tuple [.Name x px, .Name y py] kt pt] (.Tuple [a, b] k2 pt2) X.env = pure (some [x, y]))
    (hs : swapsWithSole [.Tuple [.Name x px, .Name y py] kt pt] (.Tuple [a, b] k2 pt2) pos.line X.env = pure false) :
    DS X (.Assign [.Tuple [.Name x px, .Name y py] kt pt] (.Tuple [a, b] k2 pt2) pos) (cParE i j) := by
  have ea : ∃ p1, a = .List [] p1 := by
    unfold isNilL at ha
    split at ha
    · exact ⟨_, rfl⟩
    · cases ha
  have eb : ∃ p1, b = .List [] p1 := by
    unfold isNilL at hb
    split at hb
    · exact ⟨_, rfl⟩
    · cases hb
  obtain ⟨p1, rfl⟩ := ea
  obtain ⟨p2, rfl⟩ := eb
  refine ⟨fun W tk => PS.weak (ps_par hc hN hi hj hij hx hy (pa_cons (pe_lst pa_nil) (pa_cons (pe_lst pa_nil) pa_nil (starEach_cons rfl)) (starEach_cons rfl)) hw hs) fun pins s σ H D I h => ?_⟩
  obtain ⟨G, F, δ, r, h⟩ := h
  have hz : ([] : List V).length ≤ sizeLine := Nat.zero_le _
  refine ⟨hz, fun q1 n1 => ⟨hz, fun q2 n2 => ⟨_, _, rfl, ?_⟩⟩⟩
  have r1 := (r.alloc (o := .lst []) n1).setOwn (i := i) (d := .lst []) (a := q1) (r.subF.nn n1) (r.subG.nn n1) ⟨[], upd_same, .nil⟩ (r.not_own (o := .lst []) (.inr (.inr n1)))
  have r2 := (r1.alloc (o := .lst []) n2).setOwn (i := j) (d := .lst []) (a := q2) (r1.subF.nn n2) (r1.subG.nn n2) ⟨[], upd_same, .nil⟩ (r1.not_own (o := .lst []) (.inr (.inr n2)))
  exact h _ F _ .refl r2
end Ev
set_option Elab.async false
set_option linter.all false
set_option autoImplicit false
set_option maxRecDepth 100000
set_option maxHeartbeats 4000000
namespace Ev
open PySem PySem.Spec L2
open PyProof.Rows hiding St
/-! ### d == d', the same keys and flat values -/
def sameD : D → D → Bool
  | .non, .non => true
  | .bl a, .bl b => decide (a = b)
  | .int a, .int b => decide (a = b)
  | .str a, .str b => decide (a = b)
  | _, _ => false
def sameL : List D → List D → Bool
  | [], [] => true
  | x :: xs, y :: ys => sameD x y && sameL xs ys
  | _, _ => false
def nodupKeys (l : List Key) : Bool := match l with
  | [] => true
  | k :: l => !(l.any fun k' => decide (k' = k)) && nodupKeys l
theorem nodupKeys_ok : ∀ {l : List Key}, nodupKeys l = true → l.Nodup
  | [], _ => .nil
  | k :: l, h => by
    unfold nodupKeys at h
    rw [Bool.and_eq_true] at h
    refine List.nodup_cons.mpr ⟨fun m => ?_, nodupKeys_ok h.2⟩
    have : (l.any fun k' => decide (k' = k)) = true := List.any_eq_true.mpr ⟨k, m, by simp⟩
    rw [this] at h
    exact absurd h.1 (by simp)
theorem sameD_rep {K : PySem.W.Frag} {F : Hp} {x y : D} {v w : V} (h : sameD x y = true) (p : Rep K F x v) (q : Rep K F y w) : v = w ∧ flatB v = true := by
  unfold sameD at h
  split at h
  · unfold Rep at p q; subst p; subst q; exact ⟨rfl, rfl⟩
  · have h := of_decide_eq_true h; subst h; unfold Rep at p q; subst p; subst q; exact ⟨rfl, rfl⟩
  · have h := of_decide_eq_true h; subst h; unfold Rep at p q; subst p; subst q; exact ⟨rfl, rfl⟩
  · have h := of_decide_eq_true h; subst h; unfold Rep at p q; subst p; subst q; exact ⟨rfl, rfl⟩
  · cases h
theorem sameL_rep {K : PySem.W.Frag} {F : Hp} : ∀ {xs ys : List D} {vs ws : List V}, sameL xs ys = true → RepL K F xs vs → RepL K F ys ws → vs = ws ∧ ∀ v ∈ vs, flatB v = true
  | [], [], vs, ws, _, p, q => by unfold RepL at p q; subst p; subst q; exact ⟨rfl, fun v m => by cases m⟩
  | [], _ :: _, _, _, h, _, _ => by cases h
  | _ :: _, [], _, _, h, _, _ => by cases h
  | x :: xs, y :: ys, vs, ws, h, p, q => by
    have h : (sameD x y && sameL xs ys) = true := h
    rw [Bool.and_eq_true] at h
    unfold RepL at p q
    obtain ⟨v, r, rfl, p1, p2⟩ := p
    obtain ⟨w, s, rfl, q1, q2⟩ := q
    obtain ⟨rfl, f1⟩ := sameD_rep h.1 p1 q1
    obtain ⟨rfl, f2⟩ := sameL_rep h.2 p2 q2
    exact ⟨rfl, fun u m => by
      rcases List.mem_cons.mp m with rfl | m
      · exact f1
      · exact f2 u m⟩
def gEqDic : D → D → Option Bool
  | .dic false ks xs, .dic false ks' xs' => match keysD ks, keysD ks' with
    | some a, some b => if decide (a = b) && nodupKeys a && decide (a.length = xs.length) && sameL xs xs' then some true else none
    | _, _ => none
  | _, _ => none
theorem dic_at {K : PySem.W.Frag} {F H : Hp} {ks xs : List D} {v : V} (s : Sb F H) (h : RepB K F H (.dic false ks xs) v) : ∃ a vs l, v = .ref a ∧ keysD ks = some l ∧ H a = some (.dK (l.zip vs)) ∧ RepL K F xs vs := by
  have : ∃ a vs o, v = .ref a ∧ H a = some o ∧ dictO false ks vs = some o ∧ RepL K F xs vs := by
    rcases h with h | ⟨a, rfl, h⟩
    · unfold Rep at h
      obtain ⟨a, vs, o, rfl, h1, h2, h3⟩ := h
      exact ⟨a, vs, o, rfl, s _ _ h1, h2, h3⟩
    · obtain ⟨vs, o, h1, h2, h3⟩ := h
      exact ⟨a, vs, o, rfl, h1, h2, h3⟩
  obtain ⟨a, vs, o, rfl, h1, h2, h3⟩ := this
  have h2 : (keysD ks).map (fun l => HO.dK (l.zip vs)) = some o := h2
  cases e : keysD ks with
  | none => rw [e] at h2; cases h2
  | some l =>
    rw [e] at h2
    cases h2
    exact ⟨a, vs, l, rfl, rfl, h1, h3⟩
theorem oc_eqDic {K : PySem.W.Frag} : OpC K (fun x y H Q => ∃ a b kvs, x = .ref a ∧ y = .ref b ∧ H a = some (.dK kvs) ∧ H b = some (.dK kvs) ∧ (kvs.map (·.1)).Nodup ∧ (∀ p ∈ kvs, flatB p.2 = true) ∧ Q (.bl true) H) gEqDic := by
  intro σ G F H δ x y v w b Q rel rx ry e k
  unfold gEqDic at e
  split at e
  · rename_i ks xs ks' xs'
    obtain ⟨a, vs, l, rfl, e1, h1, r1⟩ := dic_at rel.subF rx
    obtain ⟨a', vs', l', rfl, e2, h2, r2⟩ := dic_at rel.subF ry
    simp only [e1, e2] at e
    split at e
    · rename_i hc
      cases e
      simp only [Bool.and_eq_true] at hc
      obtain ⟨⟨⟨c1, c2⟩, c3⟩, c4⟩ := hc
      have c1 := of_decide_eq_true c1
      subst c1
      have c3 := of_decide_eq_true c3
      obtain ⟨rfl, fl⟩ := sameL_rep c4 r1 r2
      refine ⟨a, a', l.zip vs, rfl, rfl, h1, h2, ?_, fun p hp => fl _ (List.of_mem_zip hp).2, k⟩
      rw [List.map_fst_zip (by rw [r1.length]; omega)]
      exact nodupKeys_ok c2
    · cases e
  · cases e
end Ev
set_option Elab.async false
set_option linter.all false
set_option autoImplicit false
set_option maxRecDepth 100000
set_option maxHeartbeats 4000000
namespace Ev
open PySem PySem.Spec L2
open PyProof.Rows hiding St
/-! ### what a def's body does, by its parameters' slots -/
def exitSlot : Slot → Slot → Slot
  | .own true _, .own true d => .own true d
  | _, _ => .none
def exitS : List Slot → EnvS → List Slot
  | s :: ss, t :: ts => exitSlot s t :: exitS ss ts
  | _ :: ss, [] => .none :: exitS ss []
  | [], _ => []
theorem exitS_len : ∀ (ss ts : List Slot), (exitS ss ts).length = ss.length
  | [], ts => rfl
  | s :: ss, [] => by simp [exitS, exitS_len ss []]
  | s :: ss, t :: ts => by simp [exitS, exitS_len ss ts]
theorem exitS_get : ∀ (ss ts : List Slot) (i : Nat) (x : Slot), (exitS ss ts)[i]? = some x → x = .none ∨ ∃ d d', ss[i]? = some (.own true d') ∧ ts[i]? = some (.own true d) ∧ x = .own true d
  | [], ts, i, x, h => by simp [exitS] at h
  | s :: ss, [], 0, x, h => by simp [exitS] at h; exact .inl h.symm
  | s :: ss, [], i + 1, x, h => by
    simp only [exitS, List.getElem?_cons_succ] at h
    rcases exitS_get ss [] i x h with h | ⟨d, d', h1, h2, h3⟩
    · exact .inl h
    · simp at h2
  | s :: ss, t :: ts, 0, x, h => by
    simp [exitS] at h
    unfold exitSlot at h
    split at h
    · rename_i d1 d2
      exact .inr ⟨d2, d1, rfl, rfl, h.symm⟩
    · exact .inl h.symm
  | s :: ss, t :: ts, i + 1, x, h => by
    simp only [exitS, List.getElem?_cons_succ] at h ⊢
    exact exitS_get ss ts i x h
def exitR (sl : List Slot) : Op → M Op
  | .val d => fun δ => .ok (.val d) (exitS sl δ)
  | .fresh d => fun δ => .ok (.fresh d) (exitS sl δ)
  | .place i => fun δ => match δ[i]? with
    | some (.own false d) => .ok (.fresh d) (exitS sl δ)
    | some (.val d) => .ok (.val d) (exitS sl δ)
    | _ => .bad
def runF (m : Nat) (body : MS) : M Op := fun sl => match body (sl ++ List.replicate (m - sl.length) .none) with
  | .rt o δ' => exitR sl o δ'
  | .nx δ' => .ok (.val .non) (exitS sl δ')
  | .ex e δ' => .ex e (exitS sl δ')
  | _ => .bad
def notPlace : Op → Bool
  | .place _ => false
  | _ => true
def SpF (K : PySem.W.Frag) (n : Nat) (fn : M Op) : Sp := fun vs H Q E => vs.length = n ∧ ∃ G F sl, Rel K G F H (vs.map some) sl ∧ match fn sl with
  | .ok o sl' => notPlace o = true ∧ ∀ v F' H', Sb F F' → Rel K G F' H' (vs.map some) sl' → OpRep K (vs.map some) G F' H' sl' o v → Q v H'
  | .ex e sl' => ∀ F' H' cls d, Sb F F' → Rel K G F' H' (vs.map some) sl' → ExRep K F' e cls d → E cls d H'
  | .bad => False
section
variable {K : PySem.W.Frag} {G : GP} {F F' H H' : Hp} {vs : List V} {sl : List Slot} {σ' : St} {δ' : EnvS}
theorem frame_start (r : Rel K G F H (vs.map some) sl) (N : List Str) : Rel K G F H (L2.start N vs) (sl ++ List.replicate (N.length - sl.length) .none) := by
  have hl : sl.length = vs.length := by rw [r.len, List.length_map]
  have up : ∀ {i : Nat} {x : Slot}, (sl ++ List.replicate (N.length - sl.length) Slot.none)[i]? = some x → x ≠ .none → sl[i]? = some x ∧ i < vs.length := fun {i x} h n => by
    by_cases hi : i < sl.length
    · rw [List.getElem?_append_left hi] at h; exact ⟨h, hl ▸ hi⟩
    · rw [List.getElem?_append_right (by omega), List.getElem?_replicate] at h
      split at h
      · cases h; exact absurd rfl n
      · cases h
  have at_ : ∀ {i : Nat}, i < vs.length → (L2.start N vs)[i]? = (vs.map some)[i]? := fun {i} h => by
    unfold L2.start; rw [List.getElem?_append_left (by simpa using h)]
  refine ⟨r.subF, r.subG, r.disj, fun i s h => ?_, fun i j s t a h1 o1 h2 o2 p1 p2 => ?_, ?_, fun i d h => ?_⟩
  · cases s with
    | none => trivial
    | val d => obtain ⟨h, hi⟩ := up h (fun z => nomatch z); obtain ⟨v, z1, z2⟩ := r.slot i _ h; exact ⟨v, (at_ hi).trans z1, z2⟩
    | own io d => obtain ⟨h, hi⟩ := up h (fun z => nomatch z); obtain ⟨v, z1, z2⟩ := r.slot i _ h; exact ⟨v, (at_ hi).trans z1, z2⟩
  · obtain ⟨h1, i1⟩ := up h1 (fun z => by subst z; cases o1)
    obtain ⟨h2, i2⟩ := up h2 (fun z => by subst z; cases o2)
    rw [at_ i1] at p1
    rw [at_ i2] at p2
    exact r.inj i j s t a h1 o1 h2 o2 p1 p2
  · unfold L2.start
    simp [hl]
  · obtain ⟨h, hi⟩ := up h (fun z => nomatch z)
    obtain ⟨a, z1, z2⟩ := r.pin i d h
    exact ⟨a, (at_ hi).trans z1, z2⟩
/-- the parameters' slots behind the body -/
theorem frame_exit (r0 : Rel K G F H (vs.map some) sl) (r : Rel K G F' H' σ' δ') : Rel K G F' H' (vs.map some) (exitS sl δ') ∧ ∀ (i : Nat) (d : D), (exitS sl δ')[i]? = some (Slot.own true d) → δ'[i]? = some (Slot.own true d) ∧ (vs.map some)[i]? = σ'[i]? := by
  have key : ∀ (i : Nat) (d : D), (exitS sl δ')[i]? = some (.own true d) → δ'[i]? = some (.own true d) ∧ (vs.map some)[i]? = σ'[i]? := fun i d h => by
    rcases exitS_get _ _ _ _ h with h | ⟨d1, d2, h1, h2, h3⟩
    · cases h
    · cases h3
      obtain ⟨a, z1, z2⟩ := r0.pin i d2 h1
      obtain ⟨b, y1, y2⟩ := r.pin i d h2
      rw [z2] at y2; cases y2
      exact ⟨h2, z1.trans y1.symm⟩
  have only : ∀ (i : Nat) (x : Slot), (exitS sl δ')[i]? = some x → x = .none ∨ ∃ d, x = .own true d := fun i x h => by
    rcases exitS_get _ _ _ _ h with h | ⟨d1, d2, h1, h2, h3⟩
    · exact .inl h
    · exact .inr ⟨d1, h3⟩
  refine ⟨⟨r.subF, r.subG, r.disj, fun i s h => ?_, fun i j s t a h1 o1 h2 o2 p1 p2 => ?_, ?_, fun i d h => ?_⟩, key⟩
  · rcases only i s h with rfl | ⟨d, rfl⟩
    · trivial
    · obtain ⟨e1, e2⟩ := key i d h
      obtain ⟨a, z1, z2⟩ := r.slot i _ e1
      exact ⟨a, e2.trans z1, z2⟩
  · rcases only i s h1 with rfl | ⟨d, rfl⟩
    · cases o1
    rcases only j t h2 with rfl | ⟨d', rfl⟩
    · cases o2
    obtain ⟨e1, e2⟩ := key i d h1
    obtain ⟨e3, e4⟩ := key j d' h2
    exact r.inj i j _ _ a e1 rfl e3 rfl (e2.symm.trans p1) (e4.symm.trans p2)
  · rw [exitS_len, r0.len]
  · obtain ⟨e1, e2⟩ := key i d h
    obtain ⟨a, z1, z2⟩ := r.pin i d e1
    exact ⟨a, e2.trans z1, z2⟩
theorem exit_own (r0 : Rel K G F H (vs.map some) sl) (r : Rel K G F' H' σ' δ') {a : Addr} (h : OwnAt (vs.map some) (exitS sl δ') a) : ∃ (i : Nat) (d : D), δ'[i]? = some (Slot.own true d) ∧ σ'[i]? = some (some (V.ref a)) := by
  obtain ⟨i, s, h1, h2, h3⟩ := h
  rcases exitS_get _ _ _ _ h1 with rfl | ⟨d1, d2, _, _, rfl⟩
  · cases h2
  · obtain ⟨e1, e2⟩ := (frame_exit r0 r).2 i d1 h1
    exact ⟨i, d1, e1, e2.symm.trans h3⟩
theorem exit_op (r0 : Rel K G F H (vs.map some) sl) (r : Rel K G F' H' σ' δ') {o o' : Op} {v : V} {sl' : List Slot} (h : OpRep K σ' G F' H' δ' o v) (e : exitR sl o δ' = .ok o' sl') :
    sl' = exitS sl δ' ∧ notPlace o' = true ∧ OpRep K (vs.map some) G F' H' sl' o' v := by
  cases o with
  | val d => cases e; exact ⟨rfl, rfl, h⟩
  | fresh d =>
    cases e
    obtain ⟨a, rfl, h1, h2, h3, h4⟩ := h
    refine ⟨rfl, rfl, a, rfl, h1, h2, h3, fun q => ?_⟩
    obtain ⟨i, d', e1, e2⟩ := exit_own r0 r q
    exact h4 ⟨i, _, e1, rfl, e2⟩
  | place i =>
    have h : σ'[i]? = some (some v) := h
    unfold exitR at e
    dsimp only at e
    split at e
    · rename_i d hd
      cases e
      obtain ⟨a, h0, h1, h2, h3⟩ := r.slot i _ hd
      rw [h] at h0; cases h0
      refine ⟨rfl, rfl, a, rfl, h1, h2, h3, fun q => ?_⟩
      obtain ⟨j, d', e1, e2⟩ := exit_own r0 r q
      have := r.inj i j _ _ a hd rfl e1 rfl h e2
      subst this
      rw [hd] at e1; cases e1
    · rename_i d hd
      cases e
      obtain ⟨u, h0, h1⟩ := r.slot i _ hd
      rw [h] at h0; cases h0
      exact ⟨rfl, rfl, h1⟩
    · cases e
end
/-- THE RULE for a def by its body's data function -/
theorem fn_data {P : Program} {w : World} {K : PySem.W.Frag} {mg : Str → Option Value} {base : Heap} {x qual : Str} {params : Arguments} {body : List Stmt} {scope : Scope} {dvs : List V} {kws : List (Str × V)} {f : Addr} {fd : FuncData} {N ps : List Str} {k : Nat} {fb : MS}
    (Fd : FunD K x qual params body scope dvs kws f fd) (S : FnScope N ps scope) (hb : ∀ (cdv : Value) (A : Around) (outer : List Env) (s : Shared) (H : Hp) (E : XK), Room k (A.deeper (envOfC qual scope s.heap.objs.size f cdv)) →
      DSs (cxOf (L2.CX P w) P w K mg base N qual scope f cdv A outer s H E) body fb) : FnOk P w K mg base (L2.CX P w) (k + 1) f fd ps (SpF K ps.length (runF N.length fb)) := by
  refine Fd.ok S (fun vs H Q E h => h.1) fun cdv A outer s H vs Q E hr h => ?_
  have tk : Takes (cxOf (L2.CX P w) P w K mg base N qual scope f cdv A outer s H E) (fun cls d _ H => E cls d H) := takes_of rfl rfl rfl rfl
  refine ⟨_, (hb cdv A outer s H E hr).run _ tk, ?_⟩
  obtain ⟨hl, G, F, sl, r, h⟩ := h
  refine ⟨G, F, _, frame_start r N, ?_⟩
  unfold runF at h
  cases e : fb (sl ++ List.replicate (N.length - sl.length) Slot.none) with
  | nx δ' =>
    rw [e] at h
    exact fun σ' F' H' s' r' => h.2 .non F' H' s' (frame_exit r r').1 (show Rep K F' .non .non from rep_non)
  | rt o δ' =>
    rw [e] at h
    dsimp only at h
    intro v σ' F' H' s' r' q
    cases e2 : exitR sl o δ' with
    | bad => rw [e2] at h; exact h.elim
    | ex z δ2 => cases o with
      | val d => cases e2
      | fresh d => cases e2
      | place i => unfold exitR at e2; dsimp only at e2; split at e2 <;> cases e2
    | ok o' sl' =>
      rw [e2] at h
      obtain ⟨h1, h2, h3⟩ := exit_op r r' q e2
      subst h1
      exact h.2 v F' H' s' (frame_exit r r').1 h3
  | bk δ' => rw [e] at h; exact h.elim
  | ct δ' => rw [e] at h; exact h.elim
  | ex z δ' =>
    rw [e] at h
    exact fun σ' F' H' cls d s' r' x => h F' H' cls d s' (frame_exit r r').1 x
  | bad => rw [e] at h; exact h.elim
/-! ### arguments of own defs: kept values, lent things -/
inductive AR where
  | v (d : D) | io (i : Nat)
def ARep (K : PySem.W.Frag) (σ : St) (F : Hp) : AR → V → Prop
  | .v d, v => Rep K F d v
  | .io i, v => σ[i]? = some (some v)
def AReps (K : PySem.W.Frag) (σ : St) (F : Hp) : List AR → List V → Prop
  | [], vs => vs = []
  | a :: as, vs => ∃ v r, vs = v :: r ∧ ARep K σ F a v ∧ AReps K σ F as r
theorem AReps.len {K : PySem.W.Frag} {σ : St} {F : Hp} : ∀ {as : List AR} {vs : List V}, AReps K σ F as vs → vs.length = as.length
  | [], vs, h => by have h : vs = [] := h; subst h; rfl
  | a :: as, vs, h => by obtain ⟨v, r, rfl, _, h⟩ := h; simp [AReps.len h]
theorem AReps.get {K : PySem.W.Frag} {σ : St} {F : Hp} : ∀ {as : List AR} {vs : List V}, AReps K σ F as vs → ∀ {j : Nat} {a : AR}, as[j]? = some a → ∃ v, vs[j]? = some v ∧ ARep K σ F a v
  | [], vs, h, j, a, e => by simp at e
  | a :: as, vs, h, 0, b, e => by obtain ⟨v, r, rfl, h1, _⟩ := h; simp at e; subst e; exact ⟨v, rfl, h1⟩
  | a :: as, vs, h, j + 1, b, e => by
    obtain ⟨v, r, rfl, _, h⟩ := h
    simp only [List.getElem?_cons_succ] at e ⊢
    exact AReps.get h e
theorem ARep.sub {K : PySem.W.Frag} {σ : St} {F F' : Hp} (s : Sb F F') {a : AR} {v : V} (h : ARep K σ F a v) : ARep K σ F' a v := by
  cases a with
  | v d => exact Rep.sub s _ _ h
  | io i => exact h
abbrev VA (K : PySem.W.Frag) (σ : St) : Hp → Hp → EnvS → List AR → List V → Prop := fun F' _ _ a b => AReps K σ F' a b
def tR (K : PySem.W.Frag) (f : M (List AR)) (W : WX) : TA := fun σ H Q => ∃ G F δ, Rel K G F H σ δ ∧ Sat K G F σ W (f δ) (VA K σ) Q
structure DR (X : Cx) (es : List Expr) (f : M (List AR)) : Prop where
  run : ∀ W, Takes X W → PA X es (tR X.K f W)
def cANil : M (List AR) := mOk []
def cAV (f : M Op) (g : M (List AR)) : M (List AR) := M.bind f fun o => M.bind (esc o) fun d => M.bind g fun as => mOk (.v d :: as)
def ownAt (i : Nat) : M Unit := fun δ => match δ[i]? with
  | some (.own _ _) => .ok () δ
  | _ => .bad
def cAIo (i : Nat) (g : M (List AR)) : M (List AR) := M.bind (ownAt i) fun _ => M.bind g fun as => mOk (.io i :: as)
theorem bindR {α β : Type} {K : PySem.W.Frag} {G G' : GP} {F H : Hp} {σ : St} {δ : EnvS} {W : WX} {fa : M (List AR)} {g : List AR → M α} {VR : Hp → Hp → EnvS → α → β → Prop} {Q : β → Hp → Prop} {P : List V → Hp → Prop}
    (r : Rel K G' F H σ δ) (sG : SbG G G') (h : Sat K G F σ W (M.bind fa g δ) VR Q)
    (k : ∀ ds δ1 vs F1 H1, Sb F F1 → Rel K G' F1 H1 σ δ1 → AReps K σ F1 ds vs → Sat K G F1 σ W (g ds δ1) VR Q → P vs H1) : tR K fa W σ H P := by
  refine ⟨G', F, δ, r, ?_⟩
  unfold M.bind at h
  cases e : fa δ with
  | ok b δ1 =>
    rw [e] at h
    exact fun b' F1 H1 s r1 o => k b δ1 b' F1 H1 s r1 o (h.up s)
  | ex x δ1 => rw [e] at h; exact fun F' H' cls d s' r x => h F' H' cls d s' (r.lessG sG) x
  | bad => rw [e] at h; exact h.elim
section
variable {X : Cx} {e : Expr} {es : List Expr} {f : M Op} {g : M (List AR)} {pos : Pos}
theorem dr_nil : DR X [] cANil := ⟨fun W tk => PA.weak pa_nil fun pins s σ H Q I h => by
  obtain ⟨G, F, δ, r, h⟩ := h
  exact h [] F H .refl r rfl⟩
theorem dr_v (ha : DE X e f) (hr : DR X es g) (hs : notStar e = true) : DR X (e :: es) (cAV f g) := by
  refine ⟨fun W tk => PA.weak (pa_cons (ha.run W tk) (hr.run W tk) (starEach_cons hs)) fun pins s σ H Q I h => ?_⟩
  obtain ⟨G, F, δ, r, h⟩ := h
  refine bindE r .refl h fun o δ1 v F1 H1 s1 r1 q1 h => ?_
  obtain ⟨d, F2, δ2, s2, r2, p2, h⟩ := escE r1 q1 h
  refine bindR r2 .refl h fun ds δ3 vs F3 H3 s3 r3 p3 h => ?_
  exact h (v :: vs) F3 H3 .refl r3 ⟨v, vs, rfl, Rep.sub s3 _ _ p2, p3⟩
theorem dr_io {i : Nat} {x : Str} {p : Pos} (hN : X.N[i]? = some x) (hv : Vis X.env.scope x) (hd : (x == ("__debug__" : Str)) = false) (hcd : (x == ("__classdict__" : Str)) = false) (hr : DR X es g) : DR X (.Name x p :: es) (cAIo i g) := by
  refine ⟨fun W tk => PA.weak (pa_cons (pe_var (pos := p) hN hv hd hcd) (hr.run W tk) (starEach_cons rfl)) fun pins s σ H Q I h => ?_⟩
  obtain ⟨G, F, δ, r, h⟩ := h
  cases e0 : δ[i]? with
  | none => unfold cAIo M.bind ownAt at h; dsimp only at h; rw [e0] at h; exact h.elim
  | some sl0 =>
    cases sl0 with
    | none => unfold cAIo M.bind ownAt at h; dsimp only at h; rw [e0] at h; exact h.elim
    | val y => unfold cAIo M.bind ownAt at h; dsimp only at h; rw [e0] at h; exact h.elim
    | own io c =>
      have h : Sat X.K G F σ W (M.bind g (fun as => mOk (AR.io i :: as)) δ) (VA X.K σ) Q := by
        unfold cAIo M.bind ownAt at h
        dsimp only at h
        rw [e0] at h
        exact h
      obtain ⟨a, ea, _⟩ := r.slot i _ e0
      refine ⟨_, ea, ?_⟩
      refine bindR (g := fun as => mOk (.io i :: as)) r .refl h fun ds δ3 vs F3 H3 s3 r3 p3 h => ?_
      exact h (_ :: vs) F3 H3 .refl r3 ⟨_, vs, rfl, ea, p3⟩
end
end Ev
set_option Elab.async false
set_option linter.all false
set_option autoImplicit false
set_option maxRecDepth 100000
set_option maxHeartbeats 4000000
namespace Ev
open PySem PySem.Spec L2
open PyProof.Rows hiding St
/-! ### a call of an own def -/
def arSlots (δ : EnvS) : List AR → Option (List Slot)
  | [] => some []
  | .v d :: as => match arSlots δ as with
    | some l => some (.val d :: l)
    | none => none
  | .io i :: as => match δ[i]? with
    | some (.own _ d) => (match arSlots δ as with
      | some l => some (.own true d :: l)
      | none => none)
    | _ => none
def ios : List AR → List Nat
  | [] => []
  | .io i :: as => i :: ios as
  | .v _ :: as => ios as
def nodupB : List Nat → Bool
  | [] => true
  | i :: is => !is.contains i && nodupB is
def ioVal : List AR → List Slot → Nat → Option Slot
  | .io k :: as, s :: ss, i => if k = i then some s else ioVal as ss i
  | .v _ :: as, _ :: ss, i => ioVal as ss i
  | _, _, _ => none
def backSlot (s : Slot) : Option Slot → Slot
  | none => s
  | some (.own true d) => match s with
    | .own io _ => .own io d
    | _ => .none
  | some _ => .none
def putBackN (as : List AR) (ss : List Slot) : Nat → EnvS → EnvS
  | _, [] => []
  | n, s :: δ => backSlot s (ioVal as ss n) :: putBackN as ss (n + 1) δ
def putBack (δ : EnvS) (as : List AR) (ss : List Slot) : EnvS := putBackN as ss 0 δ
theorem putBackN_len (as : List AR) (ss : List Slot) : ∀ (n : Nat) (δ : EnvS), (putBackN as ss n δ).length = δ.length
  | _, [] => rfl
  | n, s :: δ => by simp [putBackN, putBackN_len as ss (n + 1) δ]
theorem putBackN_get (as : List AR) (ss : List Slot) : ∀ (n : Nat) (δ : EnvS) (i : Nat), (putBackN as ss n δ)[i]? = δ[i]?.map fun s => backSlot s (ioVal as ss (n + i))
  | n, [], i => by simp [putBackN]
  | n, s :: δ, 0 => by simp [putBackN]
  | n, s :: δ, i + 1 => by
    simp only [putBackN, List.getElem?_cons_succ]
    rw [putBackN_get as ss (n + 1) δ i]
    have : n + 1 + i = n + (i + 1) := by omega
    rw [this]
theorem putBack_get (δ : EnvS) (as : List AR) (ss : List Slot) (i : Nat) : (putBack δ as ss)[i]? = δ[i]?.map fun s => backSlot s (ioVal as ss i) := by
  unfold putBack
  rw [putBackN_get]
  simp
theorem ioVal_some : ∀ {as : List AR} {ss : List Slot} {i : Nat} {s : Slot}, ioVal as ss i = some s → ∃ j : Nat, as[j]? = some (AR.io i) ∧ ss[j]? = some s
  | [], ss, i, s, h => by cases ss <;> cases h
  | .v d :: as, [], i, s, h => by cases h
  | .io k :: as, [], i, s, h => by cases h
  | .v d :: as, t :: ss, i, s, h => by obtain ⟨j, h1, h2⟩ := ioVal_some (as := as) (ss := ss) h; exact ⟨j + 1, by simpa using h1, by simpa using h2⟩
  | .io k :: as, t :: ss, i, s, h => by
    unfold ioVal at h
    split at h
    · rename_i e; subst e; cases h; exact ⟨0, rfl, rfl⟩
    · obtain ⟨j, h1, h2⟩ := ioVal_some (as := as) (ss := ss) h; exact ⟨j + 1, by simpa using h1, by simpa using h2⟩
theorem ioVal_none : ∀ {as : List AR} {ss : List Slot} {i : Nat}, ss.length = as.length → ioVal as ss i = none → i ∉ ios as
  | [], ss, i, _, h => by simp [ios]
  | .v d :: as, [], i, hl, h => by simp at hl
  | .io k :: as, [], i, hl, h => by simp at hl
  | .v d :: as, t :: ss, i, hl, h => by
    show i ∉ ios as
    exact ioVal_none (by simpa using hl) h
  | .io k :: as, t :: ss, i, hl, h => by
    unfold ioVal at h
    split at h
    · cases h
    · rename_i e
      show i ∉ k :: ios as
      intro q
      rcases List.mem_cons.mp q with q | q
      · exact e q.symm
      · exact ioVal_none (by simpa using hl) h q
theorem ios_mem : ∀ {as : List AR} {j i : Nat}, as[j]? = some (.io i) → i ∈ ios as
  | [], j, i, h => by simp at h
  | .v d :: as, 0, i, h => by simp at h
  | .io k :: as, 0, i, h => by simp at h; subst h; simp [ios]
  | .v d :: as, j + 1, i, h => by show i ∈ ios as; exact ios_mem (by simpa using h)
  | .io k :: as, j + 1, i, h => by show i ∈ k :: ios as; exact List.mem_cons_of_mem _ (ios_mem (by simpa using h))
theorem ios_inj : ∀ {as : List AR}, nodupB (ios as) = true → ∀ {j k i : Nat}, as[j]? = some (.io i) → as[k]? = some (.io i) → j = k
  | [], _, j, k, i, h1, h2 => by simp at h1
  | .v d :: as, hn, 0, k, i, h1, h2 => by simp at h1
  | .v d :: as, hn, j + 1, 0, i, h1, h2 => by simp at h2
  | .v d :: as, hn, j + 1, k + 1, i, h1, h2 => by
    have := ios_inj (as := as) hn (by simpa using h1) (by simpa using h2)
    omega
  | .io z :: as, hn, j, k, i, h1, h2 => by
    have hn : (!(ios as).contains z && nodupB (ios as)) = true := hn
    rw [Bool.and_eq_true] at hn
    have nz : z ∉ ios as := by simpa using hn.1
    cases j with
    | zero =>
      simp at h1; subst h1
      cases k with
      | zero => rfl
      | succ k => exact absurd (ios_mem (by simpa using h2)) nz
    | succ j =>
      cases k with
      | zero => simp at h2; subst h2; exact absurd (ios_mem (by simpa using h1)) nz
      | succ k =>
        have := ios_inj (as := as) hn.2 (j := j) (k := k) (by simpa using h1) (by simpa using h2)
        omega
theorem arSlots_len {δ : EnvS} : ∀ {as : List AR} {sl : List Slot}, arSlots δ as = some sl → sl.length = as.length
  | [], sl, h => by cases h; rfl
  | .v d :: as, sl, h => by
    unfold arSlots at h
    split at h
    · rename_i l hl; cases h; simp [arSlots_len hl]
    · cases h
  | .io i :: as, sl, h => by
    unfold arSlots at h
    split at h
    · split at h
      · rename_i l hl; cases h; simp [arSlots_len hl]
      · cases h
    · cases h
theorem arSlots_get {δ : EnvS} : ∀ {as : List AR} {sl : List Slot}, arSlots δ as = some sl → ∀ {j : Nat} {s : Slot}, sl[j]? = some s → (∃ d, as[j]? = some (AR.v d) ∧ s = Slot.val d) ∨ ∃ i io d, as[j]? = some (AR.io i) ∧ δ[i]? = some (Slot.own io d) ∧ s = Slot.own true d
  | [], sl, h, j, s, e => by cases h; simp at e
  | .v d :: as, sl, h, j, s, e => by
    unfold arSlots at h
    split at h
    · rename_i l hl
      cases h
      cases j with
      | zero => simp at e; subst e; exact .inl ⟨d, rfl, rfl⟩
      | succ j => simp only [List.getElem?_cons_succ] at e ⊢; exact arSlots_get hl e
    · cases h
  | .io i :: as, sl, h, j, s, e => by
    unfold arSlots at h
    split at h
    · rename_i io d hd
      split at h
      · rename_i l hl
        cases h
        cases j with
        | zero => simp at e; subst e; exact .inr ⟨i, _, _, rfl, hd, rfl⟩
        | succ j => simp only [List.getElem?_cons_succ] at e ⊢; exact arSlots_get hl e
      · cases h
    · cases h
section
variable {K : PySem.W.Frag} {G : GP} {F F' H H' : Hp} {vs : List V} {sl sl' : List Slot} {σ : St} {δ : EnvS} {as : List AR}
/-- what stays while the callee runs: what stayed, and the own things that are not lent -/
def Kept (σ : St) (δ : EnvS) (as : List AR) (a : Addr) : Prop := ∃ (i : Nat) (s : Slot), δ[i]? = some s ∧ s.isOwn = true ∧ i ∉ ios as ∧ σ[i]? = some (some (.ref a))
open Classical in
noncomputable def calleeG (G : GP) (H : Hp) (σ : St) (δ : EnvS) (as : List AR) (vs : List V) : GP :=
  ⟨fun a => if (G a).isSome then G a else if Kept σ δ as a then H a else none, fun j => match vs[j]? with | some (.ref a) => some a | _ => none⟩
open Classical in
theorem calleeG_of {a : Addr} {o : HO} (h : G a = some o) : calleeG G H σ δ as vs a = some o := by
  show (if (G a).isSome then G a else _) = _
  rw [h]; rfl
open Classical in
theorem calleeG_kept (r : Rel K G F H σ δ) {a : Addr} (h : Kept σ δ as a) : calleeG G H σ δ as vs a = H a := by
  obtain ⟨i, s, h1, h2, h3, h4⟩ := h
  have gn := (r.own_of ⟨i, s, h1, h2, h4⟩).2.1
  show (if (G a).isSome then G a else if Kept σ δ as a then H a else none) = _
  rw [gn]
  simp only [Option.isSome_none, Bool.false_eq_true, if_false]
  rw [if_pos ⟨i, s, h1, h2, h3, h4⟩]
open Classical in
theorem calleeG_some {a : Addr} {o : HO} (h : calleeG G H σ δ as vs a = some o) : G a = some o ∨ (Kept σ δ as a ∧ H a = some o) := by
  have h : (if (G a).isSome then G a else if Kept σ δ as a then H a else none) = some o := h
  split at h
  · exact .inl h
  · split at h
    · rename_i k; exact .inr ⟨k, h⟩
    · cases h
theorem callee_start (r : Rel K G F H σ δ) (q : AReps K σ F as vs) (e : arSlots δ as = some sl) (nd : nodupB (ios as) = true) : Rel K (calleeG G H σ δ as vs) F H (vs.map some) sl := by
  have hl := arSlots_len e
  have at_ : ∀ {j : Nat} {v : V}, vs[j]? = some v → (vs.map some)[j]? = some (some v) := fun h => by rw [List.getElem?_map, h]; rfl
  have own : ∀ {j : Nat} {s : Slot}, sl[j]? = some s → s.isOwn = true → ∃ (i : Nat) (io : Bool) (d : D) (a : Addr), as[j]? = some (AR.io i) ∧ δ[i]? = some (Slot.own io d) ∧ s = Slot.own true d ∧ σ[i]? = some (some (V.ref a)) ∧ vs[j]? = some (V.ref a) ∧ F a = none ∧ G a = none ∧ ObR K F H a d := fun {j s} h o => by
    rcases arSlots_get e h with ⟨d, h1, rfl⟩ | ⟨i, io, d, h1, h2, rfl⟩
    · cases o
    · obtain ⟨a, z1, z2, z3, z4⟩ := r.slot i _ h2
      obtain ⟨v, y1, y2⟩ := q.get h1
      have y2 : σ[i]? = some (some v) := y2
      rw [z1] at y2; cases y2
      exact ⟨i, io, d, a, h1, h2, rfl, z1, y1, z2, z3, z4⟩
  have free : ∀ {j i : Nat} {io : Bool} {d : D} {a : Addr}, as[j]? = some (.io i) → δ[i]? = some (.own io d) → σ[i]? = some (some (.ref a)) → G a = none → calleeG G H σ δ as vs a = none := fun {j i io d a} h1 h2 h3 h4 => by
    cases c : calleeG G H σ δ as vs a with
    | none => rfl
    | some o =>
      rcases calleeG_some c with z | ⟨⟨i', s', y1, y2, y3, y4⟩, _⟩
      · rw [h4] at z; cases z
      · have := r.inj i' i s' _ a y1 y2 h2 rfl y4 h3
        subst this
        exact absurd (ios_mem h1) y3
  refine ⟨r.subF, fun a o h => ?_, fun a o h => ?_, fun j s h => ?_, fun j k s t a h1 o1 h2 o2 p1 p2 => ?_, by rw [hl, List.length_map, q.len], fun j d h => ?_⟩
  · rcases calleeG_some h with z | ⟨_, z⟩
    · exact r.subG a o z
    · exact z
  · rcases calleeG_some h with z | ⟨⟨i', s', y1, y2, y3, y4⟩, _⟩
    · exact r.disj a o z
    · exact (r.own_of ⟨i', s', y1, y2, y4⟩).1
  · cases s with
    | none => trivial
    | val d =>
      rcases arSlots_get e h with ⟨d', h1, h2⟩ | ⟨i, io, d', h1, h2, h3⟩
      · cases h2
        obtain ⟨v, y1, y2⟩ := q.get h1
        exact ⟨v, at_ y1, y2⟩
      · cases h3
    | own io d =>
      obtain ⟨i, io', d', a, h1, h2, h3, h4, h5, h6, h7, h8⟩ := own h rfl
      cases h3
      exact ⟨a, at_ h5, h6, free h1 h2 h4 h7, h8⟩
  · obtain ⟨i, io', d', b, x1, x2, x3, x4, x5, x6, x7, x8⟩ := own h1 o1
    obtain ⟨i2, io2, d2, c, w1, w2, w3, w4, w5, w6, w7, w8⟩ := own h2 o2
    rw [at_ x5] at p1; cases p1
    rw [at_ w5] at p2; cases p2
    have := r.inj i i2 _ _ _ x2 rfl w2 rfl x4 w4
    subst this
    exact ios_inj nd x1 w1
  · obtain ⟨i, io', d', a, h1, h2, h3, h4, h5, h6, h7, h8⟩ := own h rfl
    refine ⟨a, at_ h5, ?_⟩
    show (match vs[j]? with | some (.ref a) => some a | _ => none) = some a
    rw [h5]
/-- the caller's slots behind the call -/
theorem callee_end (r : Rel K G F H σ δ) (q : AReps K σ F as vs) (s : Sb F F') (r' : Rel K (calleeG G H σ δ as vs) F' H' (vs.map some) sl') : Rel K G F' H' σ (putBack δ as sl') ∧
    ∀ a, OwnAt σ (putBack δ as sl') a → (∃ o, calleeG G H σ δ as vs a = some o) ∨ OwnAt (vs.map some) sl' a := by
  have hl : sl'.length = as.length := by rw [r'.len, List.length_map, q.len]
  have unmap : ∀ {j : Nat} {v : V}, (vs.map some)[j]? = some (some v) → vs[j]? = some v := fun {j v} h => by
    rw [List.getElem?_map] at h
    cases e : vs[j]? with
    | none => rw [e] at h; cases h
    | some u => rw [e] at h; cases h; rfl
  -- an own slot behind the call: kept, or lent and come back
  have look : ∀ {i : Nat} {x : Slot}, (putBack δ as sl')[i]? = some x → x = .none ∨ (i ∉ ios as ∧ δ[i]? = some x) ∨ ∃ (j : Nat) (io : Bool) (d d' : D), as[j]? = some (AR.io i) ∧ sl'[j]? = some (Slot.own true d) ∧ δ[i]? = some (Slot.own io d') ∧ x = .own io d := fun {i x} h => by
    rw [putBack_get] at h
    cases e : δ[i]? with
    | none => rw [e] at h; cases h
    | some s0 =>
      rw [e] at h
      cases e2 : ioVal as sl' i with
      | none => rw [e2] at h; cases h; exact .inr (.inl ⟨ioVal_none hl e2, rfl⟩)
      | some t =>
        rw [e2] at h
        obtain ⟨j, h1, h2⟩ := ioVal_some e2
        cases t with
        | none => cases h; exact .inl rfl
        | val d => cases h; exact .inl rfl
        | own b d =>
          cases b with
          | false => cases h; exact .inl rfl
          | true =>
            cases s0 with
            | none => cases h; exact .inl rfl
            | val d' => cases h; exact .inl rfl
            | own io d' => cases h; exact .inr (.inr ⟨j, io, d, d', h1, h2, rfl, rfl⟩)
  have lent : ∀ {i j : Nat} {d : D}, as[j]? = some (.io i) → sl'[j]? = some (.own true d) → ∃ a, σ[i]? = some (some (.ref a)) ∧ (vs.map some)[j]? = some (some (.ref a)) ∧ F' a = none ∧ calleeG G H σ δ as vs a = none ∧ ObR K F' H' a d := fun {i j d} h1 h2 => by
    obtain ⟨a, z1, z2, z3, z4⟩ := r'.slot j _ h2
    obtain ⟨v, y1, y2⟩ := q.get h1
    have y2 : σ[i]? = some (some v) := y2
    have := unmap z1
    rw [y1] at this; cases this
    exact ⟨a, y2, z1, z2, z3, z4⟩
  refine ⟨⟨r'.subF, fun a o h => r'.subG a o (calleeG_of h), fun a o h => r'.disj a o (calleeG_of h), fun i x h => ?_, fun i k x y a h1 o1 h2 o2 p1 p2 => ?_, ?_, fun i d h => ?_⟩, fun a h => ?_⟩
  · rcases look h with rfl | ⟨hn, h⟩ | ⟨j, io, d, d', h1, h2, h3, rfl⟩
    · trivial
    · cases x with
      | none => trivial
      | val d => obtain ⟨v, z1, z2⟩ := r.slot i _ h; exact ⟨v, z1, Rep.sub s _ _ z2⟩
      | own io d =>
        obtain ⟨a, z1, z2, z3, z4⟩ := r.slot i _ h
        have kp : Kept σ δ as a := ⟨i, _, h, rfl, hn, z1⟩
        obtain ⟨o, eo⟩ := z4.there
        have gk : calleeG G H σ δ as vs a = some o := (calleeG_kept r kp).trans eo
        exact ⟨a, z1, r'.disj a o gk, z3, z4.mono s ((r'.subG a o gk).trans eo.symm)⟩
    · obtain ⟨a, z1, z2, z3, z4, z5⟩ := lent h1 h2
      refine ⟨a, z1, z3, ?_, z5⟩
      cases c : G a with
      | none => rfl
      | some o => rw [calleeG_of c] at z4; cases z4
  · have up : ∀ {i : Nat} {x : Slot}, (putBack δ as sl')[i]? = some x → x.isOwn = true → ∃ y : Slot, δ[i]? = some y ∧ y.isOwn = true := fun {i x} h o => by
      rcases look h with rfl | ⟨hn, h⟩ | ⟨j, io, d, d', h1, h2, h3, rfl⟩
      · cases o
      · exact ⟨x, h, o⟩
      · exact ⟨_, h3, rfl⟩
    obtain ⟨y1, e1, w1⟩ := up h1 o1
    obtain ⟨y2, e2, w2⟩ := up h2 o2
    exact r.inj i k y1 y2 a e1 w1 e2 w2 p1 p2
  · unfold putBack; rw [putBackN_len]; exact r.len
  · rcases look h with h | ⟨hn, h⟩ | ⟨j, io, d1, d', h1, h2, h3, h4⟩
    · cases h
    · exact r.pin i d h
    · cases h4; exact r.pin i d' h3
  · obtain ⟨i, x, h1, h2, h3⟩ := h
    rcases look h1 with rfl | ⟨hn, h⟩ | ⟨j, io, d1, d', y1, y2, y3, rfl⟩
    · cases h2
    · obtain ⟨_, _, d, ob⟩ := r.own_of ⟨i, x, h, h2, h3⟩
      obtain ⟨o, eo⟩ := ob.there
      exact .inl ⟨o, (calleeG_kept r ⟨i, x, h, h2, hn, h3⟩).trans eo⟩
    · obtain ⟨b, z1, z2, z3, z4, z5⟩ := lent y1 y2
      rw [h3] at z1; cases z1
      exact .inr ⟨j, _, y2, rfl, z2⟩
end
def callWithD (fn : M Op) (as : List AR) : M Op := fun δ => if nodupB (ios as) then match arSlots δ as with
  | some sl => (match fn sl with
    | .ok o sl' => .ok o (putBack δ as sl')
    | .ex e sl' => .ex e (putBack δ as sl')
    | .bad => .bad)
  | none => .bad
  else .bad
def cCallF (fn : M Op) (fa : M (List AR)) : M Op := M.bind fa fun as => callWithD fn as
theorem callWith_sp {K : PySem.W.Frag} {G : GP} {F H : Hp} {σ : St} {δ : EnvS} {W : WX} {fn : M Op} {as : List AR} {vs : List V} {Q : VK} {n : Nat} (r : Rel K G F H σ δ) (q : AReps K σ F as vs) (hn : vs.length = n)
    (hp : ∀ sl o sl', fn sl = .ok o sl' → notPlace o = true) (h : Sat K G F σ W (callWithD fn as δ) (VE K σ G) Q) : SpF K n fn vs H Q (WE W σ) := by
  unfold callWithD at h
  split at h
  · rename_i nd
    cases e : arSlots δ as with
    | none => rw [e] at h; exact h.elim
    | some sl =>
      rw [e] at h
      dsimp only at h
      refine ⟨hn, calleeG G H σ δ as vs, F, sl, callee_start r q e nd, ?_⟩
      cases e2 : fn sl with
      | bad => rw [e2] at h; exact h.elim
      | ex x sl' =>
        rw [e2] at h
        exact fun F' H' cls d s' r' xr => h F' H' cls d s' (callee_end r q s' r').1 xr
      | ok o sl' =>
        rw [e2] at h
        have np := hp sl o sl' e2
        refine ⟨np, fun v F' H' s' r' qo => ?_⟩
        obtain ⟨r2, own⟩ := callee_end r q s' r'
        refine h v F' H' s' r2 ?_
        cases o with
        | val d => exact qo
        | place i => cases np
        | fresh d =>
          obtain ⟨a, rfl, h1, h2, h3, h4⟩ := qo
          refine ⟨a, rfl, h1, ?_, h3, fun z => ?_⟩
          · cases c : G a with
            | none => rfl
            | some o => rw [calleeG_of c] at h2; cases h2
          · rcases own a z with ⟨o, y⟩ | y
            · rw [y] at h2; cases h2
            · exact h4 y
  · exact h.elim
theorem runF_np (m : Nat) (fb : MS) (sl : List Slot) (o : Op) (sl' : List Slot) (h : runF m fb sl = .ok o sl') : notPlace o = true := by
  unfold runF at h
  split at h
  · rename_i o2 δ' _
    cases o2 with
    | val d => cases h; rfl
    | fresh d => cases h; rfl
    | place i =>
      unfold exitR at h
      dsimp only at h
      split at h
      · cases h; rfl
      · cases h; rfl
      · cases h
  · cases h; rfl
  · cases h
  · cases h
section
variable {X : Cx} {k : Nat} {f : Addr} {fd : FuncData} {ps : List Str} {fn : M Op} {x : Str} {p pos : Pos} {e : Expr} {es : List Expr} {fa : M (List AR)}
/-- only so many arguments -/
def takesN (n : Nat) (fa : M (List AR)) : M (List AR) := M.bind fa fun as δ => if as.length = n then .ok as δ else .bad
theorem sat_call {σ : St} {H : Hp} {G : GP} {F : Hp} {δ : EnvS} {W : WX} {Q : VK} (hp : ∀ sl o sl', fn sl = .ok o sl' → notPlace o = true) (r : Rel X.K G F H σ δ) (h : Sat X.K G F σ W (cCallF fn (takesN ps.length fa) δ) (VE X.K σ G) Q) :
    tR X.K fa W σ H fun vs H1 => SpF X.K ps.length fn vs H1 Q (WE W σ) := by
  have h : Sat X.K G F σ W (M.bind fa (fun as => fun δ => if as.length = ps.length then callWithD fn as δ else .bad) δ) (VE X.K σ G) Q := by
    unfold cCallF takesN M.bind at h
    unfold M.bind
    dsimp only at h ⊢
    cases e : fa δ with
    | bad => rw [e] at h; exact h
    | ex z δ' => rw [e] at h; exact h
    | ok as δ' =>
      rw [e] at h
      dsimp only at h ⊢
      split
      · rename_i c; rw [if_pos c] at h; exact h
      · rename_i c; rw [if_neg c] at h; exact h
  refine bindR r .refl h fun as δ1 vs F1 H1 s1 r1 q1 h => ?_
  split at h
  · rename_i hl
    exact callWith_sp r1 q1 (q1.len.trans hl) hp h
  · exact h.elim
theorem de_callF (F : FnOk X.prog X.w X.K X.mg X.base (L2.CX X.prog X.w) k f fd ps (SpF X.K ps.length fn)) (hp : ∀ sl o sl', fn sl = .ok o sl' → notPlace o = true) (hr : Room k X.A) (hg : Gl X x) (hm : X.mg x = some (.ref f)) (hk : PySem.W.keepIn X.K (.ref f) = true) (hb : Binds X.K fd ps [])
    (ha : DR X (e :: es) fa) (hdb : (x == ("__debug__" : Str)) = false) (hs : (e :: es).all notStar = true) : DE X (.Call (.Name x p) (e :: es) [] pos) (cCallF fn (takesN ps.length fa)) := by
  simp only [List.all_cons, Bool.and_eq_true] at hs
  refine ⟨fun W tk => PE.weak (pe_callS (E := WE W) F hr hg hm hk hb (fun σ => passAt tk σ) (ha.run W tk) hdb (starEach_cons hs.1) (backTo_plain hs.2)) fun pins s σ H Q I h => ?_⟩
  obtain ⟨G, F, δ, r, h⟩ := h
  exact sat_call hp r h
theorem de_callF0 (F : FnOk X.prog X.w X.K X.mg X.base (L2.CX X.prog X.w) k f fd ps (SpF X.K ps.length fn)) (hp : ∀ sl o sl', fn sl = .ok o sl' → notPlace o = true) (hr : Room k X.A) (hg : Gl X x) (hm : X.mg x = some (.ref f)) (hk : PySem.W.keepIn X.K (.ref f) = true) (hb : Binds X.K fd ps [])
    (hdb : (x == ("__debug__" : Str)) = false) : DE X (.Call (.Name x p) [] [] pos) (cCallF fn (takesN ps.length cANil)) := by
  refine ⟨fun W tk => ⟨fun pins s σ H Q I h => ?_⟩⟩
  obtain ⟨G, F', δ, r, h⟩ := h
  have h2 := sat_call hp r h
  obtain ⟨G2, F2, δ2, r2, h2⟩ := h2
  have h3 := h2 [] F2 H .refl r2 rfl
  refine wpAny_Call_Name_kw (ld_glob I hg hm ?_ hdb)
  exact PySem.W.callWith_K0 I.kIn hk (run_fnS (us := []) (E := WE W) F hr hb (passAt tk σ) I .nil h3)
end
end Ev
set_option Elab.async false
set_option linter.all false
set_option autoImplicit false
set_option maxRecDepth 100000
set_option maxHeartbeats 4000000
namespace Ev
open PySem PySem.Spec L2
open PyProof.Rows hiding St
/-! ### calls with keywords -/
def perm {α : Type} (idx : List Nat) (l : List α) : List α := match idx with
  | [] => []
  | i :: is => match l[i]? with
    | some x => x :: perm is l
    | none => perm is l
theorem perm_vals {vs : List V} {us : List Value} (h : Vals vs us) : ∀ idx : List Nat, Vals (perm idx vs) (perm idx us)
  | [] => .nil
  | i :: is => by
    unfold perm
    have hl := h.length
    cases e : vs[i]? with
    | none =>
      have : us[i]? = none := by rw [List.getElem?_eq_none_iff] at e ⊢; omega
      rw [this]
      exact perm_vals h is
    | some v =>
      obtain ⟨u, hu, r⟩ := h.get e
      rw [hu]
      exact .cons r (perm_vals h is)
theorem AReps.append {K : PySem.W.Frag} {σ : St} {F : Hp} : ∀ {as bs : List AR} {vs us : List V}, AReps K σ F as vs → AReps K σ F bs us → AReps K σ F (as ++ bs) (vs ++ us)
  | [], bs, vs, us, h, g => by have h : vs = [] := h; subst h; exact g
  | a :: as, bs, vs, us, h, g => by obtain ⟨v, r, rfl, h1, h2⟩ := h; exact ⟨v, r ++ us, rfl, h1, AReps.append h2 g⟩
theorem AReps.sub {K : PySem.W.Frag} {σ : St} {F F' : Hp} (s : Sb F F') : ∀ {as : List AR} {vs : List V}, AReps K σ F as vs → AReps K σ F' as vs
  | [], vs, h => h
  | a :: as, vs, h => by obtain ⟨v, r, rfl, h1, h2⟩ := h; exact ⟨v, r, rfl, ARep.sub s h1, AReps.sub s h2⟩
theorem AReps.perm {K : PySem.W.Frag} {σ : St} {F : Hp} {as : List AR} {vs : List V} (h : AReps K σ F as vs) : ∀ idx : List Nat, AReps K σ F (Ev.perm idx as) (Ev.perm idx vs)
  | [] => rfl
  | i :: is => by
    unfold Ev.perm
    have hl := h.len
    cases e : as[i]? with
    | none =>
      have : vs[i]? = none := by rw [List.getElem?_eq_none_iff] at e ⊢; omega
      rw [this]
      exact AReps.perm h is
    | some a =>
      obtain ⟨v, hv, r⟩ := h.get e
      rw [hv]
      exact ⟨v, _, rfl, r, AReps.perm h is⟩
def gP {α : Type} (n m : Nat) (idx : List Nat) (us ws : List α) : List α := if us.length = n ∧ ws.length = m then perm idx (us ++ ws) else []
theorem kbinds_of {K : PySem.W.Frag} {x qual : Str} {params : Arguments} {body : List Stmt} {scope : Scope} {f : Addr} {fd : FuncData} {kws : List (Str × V)} {ps ks : List Str} (Fd : FunD K x qual params body scope [] kws f fd) (n m : Nat) (idx : List Nat) (hps : ps.length ≠ 0)
    (h : ∀ (kV doc pm : Value) (an : Option Addr) (cdv ct : Value) (us ws : List Value), us.length = n → ws.length = m → bindArgs (PySem.W.fnOf x qual params body scope .none kV doc pm an cdv ct) ⟨us, ks.zip ws⟩ = pure (ps.zip (perm idx (us ++ ws)))) :
    KBinds K fd ps ks (gP n m idx) (gP n m idx) := by
  obtain ⟨oc, od, dV, kV, doc, pm, an, cdv, ct, osl, rfl, lk, hcd, hD, hK⟩ := Fd.ex
  rcases hD with ⟨_, rfl⟩ | ⟨e, _⟩
  · refine ⟨fun s us ws _ hl => ?_, fun {vs us zs ws} r rz => ?_⟩
    · unfold gP at hl ⊢
      split at hl
      · rename_i c
        rw [if_pos c]
        exact .of_eq (h kV doc pm an cdv ct us ws c.1 c.2)
      · exact absurd hl.symm hps
    · unfold gP
      rw [r.length, rz.length]
      split
      · exact perm_vals (r.append rz) idx
      · exact .nil
  · exact absurd rfl e
structure DKw (X : Cx) (kws : List Keyword) (f : M (List AR)) : Prop where
  run : ∀ W, Takes X W → PK X kws (tR X.K f W)
theorem PK.weak {X : Cx} {kws : List Keyword} {t t' : TA} (h : PK X kws t) (k : ∀ pins s σ H Q, Inv X pins σ H s → t' σ H Q → t σ H Q) : PK X kws t' := ⟨fun p pins s σ H Q I q => h.run p pins s σ H Q I (k pins s σ H Q I q)⟩
section
variable {X : Cx} {CX : CXT} {k : Nat} {f : Addr} {fd : FuncData} {ps ks : List Str} {sp : Sp} {E : St → XK} {x : Str} {p pos kpos : Pos} {e : Expr} {es : List Expr} {kws : List Keyword} {t tk : TA} {nm : Option Str} {fa fk : M (List AR)} {fn : M Op} {fe : M Op}
theorem dkw_nil : DKw X [] cANil := ⟨fun W tk => PK.weak pk_nil fun pins s σ H Q I h => by
  obtain ⟨G, F, δ, r, h⟩ := h
  exact h [] F H .refl r rfl⟩
theorem dkw_cons (ha : DE X e fe) (hr : DKw X kws fk) : DKw X (⟨nm, e, kpos⟩ :: kws) (cAV fe fk) := by
  refine ⟨fun W tk => PK.weak (pk_cons (ha.run W tk) (hr.run W tk)) fun pins s σ H Q I h => ?_⟩
  obtain ⟨G, F, δ, r, h⟩ := h
  refine bindE r .refl h fun o δ1 v F1 H1 s1 r1 q1 h => ?_
  obtain ⟨d, F2, δ2, s2, r2, p2, h⟩ := escE r1 q1 h
  refine bindR r2 .refl h fun ds δ3 vs F3 H3 s3 r3 p3 h => ?_
  exact h (v :: vs) F3 H3 .refl r3 ⟨v, vs, rfl, Rep.sub s3 _ _ p2, p3⟩
theorem run_fnkS {pins : List (Addr × Obj)} {σ : St} {H : Hp} {s : Shared} {Q : VK} {us ws : List Value} {vs zs : List V} {g : List Value → List Value → List Value} {gV : List V → List V → List V} (F : FnOk X.prog X.w X.K X.mg X.base CX k f fd ps sp) (hr : Room k X.A) (hb : KBinds X.K fd ps ks g gV) (hx : PassesAt CX X σ (E σ))
    (I : Inv X pins σ H s) (r : Vals vs us) (rz : Vals zs ws) (h : sp (gV vs zs) H Q (E σ)) : wpAny (model X.prog X.w) X.A (call (.ref f) us (ks.zip ws)) (EP X pins σ Q) X.xe s := by
  have r2 := hb.rel r rz
  have hl : (g us ws).length = ps.length := by rw [← r2.length]; exact F.len _ _ _ _ h
  refine wpAny_call (codeAny_mono (F.run X.A X.stack s H ⟨us, ks.zip ws⟩ (g us ws) (gV vs zs) Q (E σ) hr I.env0 (hb.to s us ws I.kIn hl) r2 h) fun r s' hq => ?_)
  cases r with
  | error e => exact hx pins H s e s' I hq
  | ok fl =>
    cases fl with
    | ret u => exact I.after hq
    | next => exact False.elim hq
    | brk => exact False.elim hq
    | cont => exact False.elim hq
def cKw (idx : List Nat) (n m : Nat) (fa fk : M (List AR)) : M (List AR) := M.bind fa fun as => M.bind fk fun bs δ => if as.length = n ∧ bs.length = m then .ok (perm idx (as ++ bs)) δ else .bad
theorem sat_callK {σ : St} {H : Hp} {G : GP} {F : Hp} {δ : EnvS} {W : WX} {Q : VK} {n m : Nat} {idx : List Nat} (hp : ∀ sl o sl', fn sl = .ok o sl' → notPlace o = true) (r : Rel X.K G F H σ δ) (h : Sat X.K G F σ W (cCallF fn (takesN ps.length (cKw idx n m fa fk)) δ) (VE X.K σ G) Q) :
    tR X.K fa W σ H fun vs H1 => tR X.K fk W σ H1 fun zs H2 => SpF X.K ps.length fn (gP n m idx vs zs) H2 Q (WE W σ) := by
  have h : Sat X.K G F σ W (M.bind fa (fun as => M.bind fk fun bs => fun δ => if as.length = n ∧ bs.length = m then (if (perm idx (as ++ bs)).length = ps.length then callWithD fn (perm idx (as ++ bs)) δ else .bad) else .bad) δ) (VE X.K σ G) Q := by
    unfold cCallF takesN cKw M.bind at h
    unfold M.bind
    dsimp only at h ⊢
    cases e : fa δ with
    | bad => rw [e] at h; exact h
    | ex z δ' => rw [e] at h; exact h
    | ok as δ' =>
      rw [e] at h
      dsimp only at h ⊢
      cases e2 : fk δ' with
      | bad => rw [e2] at h; exact h
      | ex z δ'' => rw [e2] at h; exact h
      | ok bs δ'' =>
        rw [e2] at h
        dsimp only at h ⊢
        by_cases c : as.length = n ∧ bs.length = m
        · rw [if_pos c] at h ⊢
          dsimp only at h
          by_cases c2 : (perm idx (as ++ bs)).length = ps.length
          · rw [if_pos c2] at h ⊢; exact h
          · rw [if_neg c2] at h; exact h.elim
        · rw [if_neg c] at h; exact h.elim
  refine bindR r .refl h fun as δ1 vs F1 H1 s1 r1 q1 h => ?_
  refine bindR r1 .refl h fun bs δ2 zs F2 H2 s2 r2 q2 h => ?_
  by_cases c : as.length = n ∧ bs.length = m
  · rw [if_pos c] at h
    by_cases c2 : (perm idx (as ++ bs)).length = ps.length
    · rw [if_pos c2] at h
      have q3 : AReps X.K σ F2 (Ev.perm idx (as ++ bs)) (Ev.perm idx (vs ++ zs)) := AReps.perm ((AReps.sub s2 q1).append q2) idx
      unfold gP
      rw [if_pos ⟨q1.len.trans c.1, q2.len.trans c.2⟩]
      exact callWith_sp r2 q3 (q3.len.trans c2) hp h
    · rw [if_neg c2] at h; exact h.elim
  · rw [if_neg c] at h; exact h.elim
theorem de_callK {n m : Nat} {idx : List Nat} (F : FnOk X.prog X.w X.K X.mg X.base (L2.CX X.prog X.w) k f fd ps (SpF X.K ps.length fn)) (hp : ∀ sl o sl', fn sl = .ok o sl' → notPlace o = true) (hr : Room k X.A) (hg : Gl X x) (hm : X.mg x = some (.ref f)) (hk : PySem.W.keepIn X.K (.ref f) = true) (hb : KBinds X.K fd ps ks (gP n m idx) (gP n m idx))
    (ha : DR X (e :: es) fa) (hkw : DKw X kws fk) (hall : (backToKw pos (keywordEach kws X.env)).all (·.1.isSome) = true) (hks : (backToKw pos (keywordEach kws X.env)).filterMap (·.1) = ks)
    (hdb : (x == ("__debug__" : Str)) = false) (hs : (e :: es).all notStar = true) : DE X (.Call (.Name x p) (e :: es) kws pos) (cCallF fn (takesN ps.length (cKw idx n m fa fk))) := by
  have hs' := hs
  simp only [List.all_cons, Bool.and_eq_true] at hs
  refine ⟨fun W tk => ⟨fun pins s σ H Q I h => ?_⟩⟩
  obtain ⟨G, F', δ, r, h⟩ := h
  have h := sat_callK hp r h
  refine wpAny_Call_Name_kw (ld_glob I hg hm ?_ hdb)
  have hpl : ((backTo pos (starEach (e :: es) X.env)).any (·.1) || (backToKw pos (keywordEach kws X.env)).any (·.1.isNone)) = false := by
    rw [backTo_plain hs', Bool.false_or]
    rw [List.any_eq_false]
    intro z hz
    have := List.all_eq_true.mp hall z hz
    have this : z.1.isSome = true := this
    intro q
    have q : z.1.isNone = true := q
    cases e : z.1 with
    | none => rw [e] at this; cases this
    | some _ => rw [e] at q; cases q
  refine PySem.W.callWith_KW (h₀ := X.base) I.ok.mod.kin hk hall (thn ((ha.run W tk).run pos pins s σ H _ I h) fun us s1 ⟨vs, H1, I1, r, q⟩ => ?_) hpl (starEach_cons hs.1)
  refine thn ((hkw.run W tk).run pos pins s1 σ H1 _ I1 q) fun ws s2 ⟨zs, H2, I2, rz, q2⟩ => ⟨I2.kIn, ?_⟩
  rw [hks]
  exact run_fnkS (E := WE W) F hr hb (passAt tk σ) I2 r rz q2
theorem de_callK0 {m : Nat} {idx : List Nat} (F : FnOk X.prog X.w X.K X.mg X.base (L2.CX X.prog X.w) k f fd ps (SpF X.K ps.length fn)) (hp : ∀ sl o sl', fn sl = .ok o sl' → notPlace o = true) (hr : Room k X.A) (hg : Gl X x) (hm : X.mg x = some (.ref f)) (hk : PySem.W.keepIn X.K (.ref f) = true) (hb : KBinds X.K fd ps ks (gP 0 m idx) (gP 0 m idx))
    (hkw : DKw X kws fk) (hall : (backToKw pos (keywordEach kws X.env)).all (·.1.isSome) = true) (hks : (backToKw pos (keywordEach kws X.env)).filterMap (·.1) = ks)
    (hdb : (x == ("__debug__" : Str)) = false) : DE X (.Call (.Name x p) [] kws pos) (cCallF fn (takesN ps.length (cKw idx 0 m cANil fk))) := by
  refine ⟨fun W tk => ⟨fun pins s σ H Q I h => ?_⟩⟩
  obtain ⟨G, F', δ, r, h⟩ := h
  have h := sat_callK hp r h
  obtain ⟨G2, F2, δ2, r2, h⟩ := h
  have h := h [] F2 H .refl r2 rfl
  refine wpAny_Call_Name_kw (ld_glob I hg hm ?_ hdb)
  have hpl : ((backTo pos (starEach [] X.env)).any (·.1) || (backToKw pos (keywordEach kws X.env)).any (·.1.isNone)) = false := by
    rw [show (backTo pos (starEach [] X.env)).any (·.1) = false from rfl, Bool.false_or]
    rw [List.any_eq_false]
    intro z hz
    have := List.all_eq_true.mp hall z hz
    have this : z.1.isSome = true := this
    intro q
    have q : z.1.isNone = true := q
    cases e : z.1 with
    | none => rw [e] at this; cases this
    | some _ => rw [e] at q; cases q
  refine PySem.W.callWith_KW0 (h₀ := X.base) I.ok.mod.kin hk hall ?_ hpl
  refine thn ((hkw.run W tk).run pos pins s σ H _ I h) fun ws s2 ⟨zs, H2, I2, rz, q2⟩ => ⟨I2.kIn, ?_⟩
  rw [hks]
  exact run_fnkS (us := []) (E := WE W) F hr hb (passAt tk σ) I2 .nil rz q2
end
end Ev
set_option Elab.async false
set_option linter.all false
set_option autoImplicit false
set_option maxRecDepth 100000
set_option maxHeartbeats 4000000
namespace Ev
open PySem PySem.Spec L2
open PyProof.Rows hiding St
/-! ### a call whose first argument is a new list that the def may change -/
section
variable {K : PySem.W.Frag} {G : GP} {F H : Hp} {σ : St} {δ : EnvS}
theorem slotOk_left {x : Option V} {i : Nat} (hi : i < σ.length) {s : Slot} : SlotOk K G F H (σ ++ [x]) i s ↔ SlotOk K G F H σ i s := by
  have e : (σ ++ [x])[i]? = σ[i]? := List.getElem?_append_left hi
  cases s with
  | none => exact Iff.rfl
  | val d => unfold SlotOk; rw [e]
  | own io d => unfold SlotOk; rw [e]
theorem Rel.push (r : Rel K G F H σ δ) {a : Addr} {d : D} (h1 : F a = none) (h2 : G a = none) (h3 : ObR K F H a d) (h4 : ¬ OwnAt σ δ a) : Rel K G F H (σ ++ [some (.ref a)]) (δ ++ [.own false d]) := by
  have hl := r.len
  have gs : ∀ {i : Nat} {s : Slot}, (δ ++ [Slot.own false d])[i]? = some s → (i < δ.length ∧ δ[i]? = some s) ∨ (i = δ.length ∧ s = .own false d) := by
    intro i s e
    by_cases hi : i < δ.length
    · rw [List.getElem?_append_left hi] at e
      exact .inl ⟨hi, e⟩
    · rw [List.getElem?_append_right (by omega)] at e
      have : i - δ.length = 0 := by
        cases q : i - δ.length with
        | zero => rfl
        | succ n => rw [q] at e; simp at e
      rw [this] at e
      simp at e
      exact .inr ⟨by omega, e.symm⟩
  have last : (σ ++ [some (V.ref a)])[δ.length]? = some (some (.ref a)) := by
    rw [hl, List.getElem?_append_right (by omega)]
    simp
  refine ⟨r.subF, r.subG, r.disj, fun i s e => ?_, fun i j s t b e1 o1 e2 o2 z1 z2 => ?_, by simp [hl], fun i x e => ?_⟩
  · rcases gs e with ⟨hi, e⟩ | ⟨rfl, rfl⟩
    · exact (slotOk_left (by omega)).mpr (r.slot i s e)
    · exact ⟨a, last, h1, h2, h3⟩
  · rcases gs e1 with ⟨hi, e1⟩ | ⟨rfl, rfl⟩ <;> rcases gs e2 with ⟨hj, e2⟩ | ⟨rfl, rfl⟩
    · rw [List.getElem?_append_left (by omega)] at z1 z2
      exact r.inj i j s t b e1 o1 e2 o2 z1 z2
    · rw [last] at z2
      cases z2
      rw [List.getElem?_append_left (by omega)] at z1
      exact absurd ⟨i, s, e1, o1, z1⟩ h4
    · rw [last] at z1
      cases z1
      rw [List.getElem?_append_left (by omega)] at z2
      exact absurd ⟨j, t, e2, o2, z2⟩ h4
    · rfl
  · rcases gs e with ⟨hi, e3⟩ | ⟨e3, e4⟩
    · rw [List.getElem?_append_left (by omega)]
      exact r.pin i x e3
    · cases e4
theorem Rel.pop {x : Option V} (r : Rel K G F H (σ ++ [x]) δ) : Rel K G F H σ (δ.take σ.length) := by
  have hl : δ.length = σ.length + 1 := by have := r.len; simpa using this
  have gs : ∀ {i : Nat} {s : Slot}, (δ.take σ.length)[i]? = some s → i < σ.length ∧ δ[i]? = some s := by
    intro i s e
    have hi : i < σ.length := by
      have := (List.getElem?_eq_some_iff.mp e).1
      simp at this
      omega
    rw [List.getElem?_take_of_lt hi] at e
    exact ⟨hi, e⟩
  refine ⟨r.subF, r.subG, r.disj, fun i s e => ?_, fun i j s t b e1 o1 e2 o2 z1 z2 => ?_, by simp [hl], fun i y e => ?_⟩
  · obtain ⟨hi, e⟩ := gs e
    exact (slotOk_left hi).mp (r.slot i s e)
  · obtain ⟨hi, e1⟩ := gs e1
    obtain ⟨hj, e2⟩ := gs e2
    exact r.inj i j s t b e1 o1 e2 o2 (by rw [List.getElem?_append_left hi]; exact z1) (by rw [List.getElem?_append_left hj]; exact z2)
  · obtain ⟨hi, e⟩ := gs e
    obtain ⟨b, z, p⟩ := r.pin i y e
    exact ⟨b, by rw [List.getElem?_append_left hi] at z; exact z, p⟩
theorem own_push {x : Option V} {a : Addr} (hl : δ.length = σ.length + 1) (h : OwnAt σ (δ.take σ.length) a) : OwnAt (σ ++ [x]) δ a := by
  obtain ⟨i, s, e, o, z⟩ := h
  have hi : i < σ.length := by
    have := (List.getElem?_eq_some_iff.mp e).1
    simp at this
    omega
  rw [List.getElem?_take_of_lt hi] at e
  exact ⟨i, s, e, o, by rw [List.getElem?_append_left hi]; exact z⟩
theorem aReps_push {x : Option V} : ∀ {as : List AR} {vs : List V}, AReps K σ F as vs → AReps K (σ ++ [x]) F as vs
  | [], vs, h => h
  | a :: as, vs, h => by
    obtain ⟨v, r, e, h1, h2⟩ := h
    refine ⟨v, r, e, ?_, aReps_push h2⟩
    cases a with
    | v d => exact h1
    | io i =>
      have h1 : σ[i]? = some (some v) := h1
      have hi := (List.getElem?_eq_some_iff.mp h1).1
      show (σ ++ [x])[i]? = some (some v)
      rw [List.getElem?_append_left hi]
      exact h1
theorem callWithD_np {fn : M Op} {as : List AR} {o : Op} {δ' : EnvS} (hp : ∀ sl o sl', fn sl = .ok o sl' → notPlace o = true) (h : callWithD fn as δ = .ok o δ') : notPlace o = true := by
  unfold callWithD at h
  split at h
  · split at h
    · split at h
      · rename_i e
        cases h
        exact hp _ _ _ e
      · cases h
      · cases h
    · cases h
  · cases h
end
def callTmpD (fn : M Op) (d : D) (as : List AR) : M Op := fun δ => match callWithD fn (.io δ.length :: as) (δ ++ [.own false d]) with
  | .ok o δ' => .ok o (δ'.take δ.length)
  | .ex e δ' => .ex e (δ'.take δ.length)
  | .bad => .bad
def cCallH (fn : M Op) (n : Nat) (fe : M Op) (fa : M (List AR)) : M Op := M.bind fe fun o => match o with
  | .fresh d => M.bind fa fun as => if as.length + 1 = n then callTmpD fn d as else mBad
  | _ => mBad
theorem callTmp_sp {K : PySem.W.Frag} {G : GP} {F H : Hp} {σ : St} {δ : EnvS} {W : WX} {fn : M Op} {d : D} {v : V} {as : List AR} {vs : List V} {Q : VK} {n : Nat} (r : Rel K G F H σ δ) (qd : OpRep K σ G F H δ (.fresh d) v) (q : AReps K σ F as vs) (hn : vs.length + 1 = n)
    (hp : ∀ sl o sl', fn sl = .ok o sl' → notPlace o = true) (h : Sat K G F σ W (callTmpD fn d as δ) (VE K σ G) Q) : SpF K n fn (v :: vs) H Q (WE W σ) := by
  obtain ⟨a, rfl, h1, h2, h3, h4⟩ := qd
  have rp := r.push h1 h2 h3 h4
  have hq : AReps K (σ ++ [some (.ref a)]) F (.io δ.length :: as) (.ref a :: vs) := by
    refine ⟨_, _, rfl, ?_, aReps_push q⟩
    show (σ ++ [some (V.ref a)])[δ.length]? = _
    rw [r.len, List.getElem?_append_right (by omega)]
    simp
  refine callWith_sp (W := fun cls d _ H => W cls d σ H) rp hq (by simp; omega) hp ?_
  unfold callTmpD at h
  cases e : callWithD fn (.io δ.length :: as) (δ ++ [.own false d]) with
  | bad => rw [e] at h; exact h.elim
  | ex x δ' =>
    rw [e] at h
    intro F' H' cls d' s' r' xr
    have r2 := r'.pop
    rw [← r.len] at r2
    exact h F' H' cls d' s' r2 xr
  | ok o δ' =>
    rw [e] at h
    have np := callWithD_np hp e
    intro b F' H' s' r' qo
    have hl : δ'.length = σ.length + 1 := by have := r'.len; simpa using this
    have r2 := r'.pop
    rw [← r.len] at r2
    refine h b F' H' s' r2 ?_
    cases o with
    | val x => exact qo
    | place i => cases np
    | fresh x =>
      obtain ⟨c, rfl, g1, g2, g3, g4⟩ := qo
      refine ⟨c, rfl, g1, g2, g3, fun z => g4 ?_⟩
      rw [r.len] at z
      exact own_push hl z
section
variable {X : Cx} {k : Nat} {f : Addr} {fd : FuncData} {ps : List Str} {fn : M Op} {x : Str} {p pos : Pos} {e : Expr} {es : List Expr} {fe : M Op} {fa : M (List AR)}
theorem de_callH (F : FnOk X.prog X.w X.K X.mg X.base (L2.CX X.prog X.w) k f fd ps (SpF X.K ps.length fn)) (hp : ∀ sl o sl', fn sl = .ok o sl' → notPlace o = true) (hr : Room k X.A) (hg : Gl X x) (hm : X.mg x = some (.ref f)) (hk : PySem.W.keepIn X.K (.ref f) = true) (hb : Binds X.K fd ps [])
    (he : DE X e fe) (ha : DR X es fa) (hdb : (x == ("__debug__" : Str)) = false) (hs : (e :: es).all notStar = true) : DE X (.Call (.Name x p) (e :: es) [] pos) (cCallH fn ps.length fe fa) := by
  simp only [List.all_cons, Bool.and_eq_true] at hs
  refine ⟨fun W tk => PE.weak (pe_callS (E := WE W) F hr hg hm hk hb (fun σ => passAt tk σ) (pa_cons (he.run W tk) (ha.run W tk) (starEach_cons hs.1)) hdb (starEach_cons hs.1) (backTo_plain hs.2)) fun pins s σ H Q I h => ?_⟩
  obtain ⟨G, F0, δ, r, h⟩ := h
  refine bindE r .refl h fun o δ1 v F1 H1 s1 r1 q1 h => ?_
  cases o with
  | val d => exact h.elim
  | place i => exact h.elim
  | fresh d =>
    dsimp only at h
    refine bindR (r1.pend q1) (pend_sub q1) h fun as δ2 vs F2 H2 s2 r2 q2 h => ?_
    split at h
    · rename_i hl
      have q3 := pend_keep q1 s2 r2
      exact callTmp_sp (r2.lessG (pend_sub q1)) q3 q2 (by rw [q2.len]; exact hl) hp h
    · exact h.elim
end
end Ev
set_option Elab.async false
set_option linter.all false
set_option maxRecDepth 100000
set_option maxHeartbeats 4000000
namespace PySem
namespace EvX
open PySem.W PySem.Calls PyProof.Rows PySem.HandSPX
/-! ### the text of __init__ -/
/-- the field: given or index -/
def fl : Bool → Str
  | true => "given"
  | false => "index"
def iA (g : Bool) (p1 p2 : Pos) : Arguments := { posonlyargs := [], args := [{ arg := "self", annotation := none, pos := p1 }, { arg := fl g, annotation := none, pos := p2 }], vararg := none, kwonlyargs := [], kw_defaults := [], kwarg := none, defaults := [] }
def iB (g : Bool) (q1 q2 q3 q4 : Pos) : List Stmt := [.Assign [.Attribute (.Name "self" q1) (fl g) q2] (.Name (fl g) q3) q4]
def iS (g : Bool) : Scope := { kind := .function, names := [(PySem.Str.ofString "self", .local), (fl g, .local)], isGenerator := false, isCoroutine := false, more := [] }
/-- what the written part says of Low, at C, and of its __init__, at fI -/
structure XTxt (K : Frag) (mg : Str → Option Value) (cn : Str) (g : Bool) (C fI : Addr) : Prop where
  gC : mg cn = some (.ref C)
  cls : ∃ nm q N bs bm sn sub ab col dd k0 k1 k2 k3 k5, K.lookup C = some (excClassObj nm q C N bs bm true sn sub ab col dd k0 k1 k2 k3 k5 "ValueError.__new__") ∧ refsVE bm = true
  sa : findIn K (.ref C) "__setattr__" = some (some (.builtin "object.__setattr__"))
  ga : findIn K (.ref C) "__getattribute__" = some (some (.builtin "BaseException.__getattribute__"))
  gg : findIn K (.ref C) "__getattr__" = some none
  noN : findIn K (.ref C) (fl g) = some none
  iC : findIn K (.ref C) "__init__" = some (some (.ref fI))
  tC : typeIn K (.ref fI) = some (.type "function")
  kC : keepIn K (.ref C) = true
  exC : subIn K (.ref C) (.type "BaseException") = some true
  tyC : typeIn K (.ref C) = some (.type "type")
  hdC : hasDictIn K C = true
  te : exmOne K (.ref C) (.ref C) = some true
  fn : ∃ (qn : Str) (oc : Value) (od : Option Addr) (kV doc pm : Value) (an : Option Addr) (cdv ct : Value) (osl : Array (Option Value)) (p1 p2 q1 q2 q3 q4 : Pos),
    K.lookup fI = some ⟨oc, od, .func (fnOf "__init__" qn (iA g p1 p2) (iB g q1 q2 q3 q4) (iS g) .none kV doc pm an cdv ct), osl⟩ ∧ codeIn K cdv qn = true
theorem one_size (v : Value) : [v].length ≤ sizeLine := by
  rw [sizeLine_eq]
  exact (by decide : 1 ≤ 16777216)
theorem kept_but {K : Frag} {h h' : Heap} {x : Addr} (X : K.In h) (hx : K.lookup x = none) (k : ∀ b o, b ≠ x → h.get? b = some o → h'.get? b = some o) : K.In h' := fun a o e =>
  k a o (fun z => by rw [z, hx] at e; cases e) (X a o e)
theorem ldC {M : Model} {s : Shared} {name : Str} {scope : Scope} {L a : Addr} {cd : Value} {m : Str → Option Value} {x : Str} {pos : Pos} {v : Value} {Q : Value → Shared → Prop} {A : Around} {E : Value → Shared → Prop} (hn : s.heap.Ns L m) (hv : m x = some v) (h : Q v s)
    (hk : scope.kind = .function := by rfl) (hl : (envOfC name scope L a cd).kindOf x = some .local := by rfl) (hd : (x == ("__debug__" : Str)) = false := by decide) :
    wpAny M A (eval (.Name x pos) (envOfC name scope L a cd)) Q E s := wpAny_Name (wpAny_loadName_local hk hl hn hv h) hd
/-- what __init__ leaves of a fresh exception at x -/
structure InitEnd (g : Bool) (h h' : Heap) (x C dx t1 : Addr) (v : Value) : Prop where
  keep : ∀ b o, b ≠ x → h.get? b = some o → h'.get? b = some o
  obj : h'.get? x = some { cls := .ref C, dict := some dx, data := .fields #[.ref t1, .none, .none, .none, .bool false, .none] }
  dbig : h.objs.size ≤ dx
  dne : dx ≠ x
  ns : h'.Ns1 dx (fun y => if y = fl g then some v else none)
/-- a made Low -/
structure OwnMade (g : Bool) (h h' : Heap) (e C d : Addr) (v : Value) : Prop where
  keep : ∀ b o, h.get? b = some o → h'.get? b = some o
  new : h.objs.size ≤ e
  obj : ∃ oe vs, h'.get? e = some oe ∧ oe.cls = .ref C ∧ oe.dict = some d ∧ oe.data = .fields vs ∧ vs[1]? = some .none
  dbig : h.objs.size ≤ d
  dne : d ≠ e
  ns : h'.Ns1 d (fun y => if y = fl g then some v else none)
section
variable {prog : Program} {w : World} {A : Around} {E : Value → Shared → Prop} {R : Result → Shared → Prop} {s : Shared} {K : Frag} {mg : Str → Option Value} {cn : Str} {g : Bool} {C fI : Addr}
theorem low_init (T : XTxt K mg cn g C fI) {x t0 : Addr} {v : Value} (X : K.In s.heap) (hlim : s.heap.NoLimit) (hx : s.heap.get? x = some (excO C t0)) (hnx : K.lookup x = none) (hroom : A.depth < recursionLimit)
    (hq : ∀ h' tk dx, InitEnd g s.heap h' x C dx t0 v → R (.ok (.ret .none)) { s with heap := h', toks := tk }) :
    codeAny (model prog w) A (.call (.ref fI) ⟨[.ref x, v], []⟩) R s := by
  obtain ⟨qn, oc, od, kV, doc, pm, an, cdv, ct, osl, p1, p2, q1, q2, q3, q4, ho, hcd⟩ := T.fn
  cases g with
  | true =>
    obtain ⟨nm, q, N, bs, bm, sn, sub, ab, col, dd, k0, k1, k2, k3, k5, hC, hbm⟩ := T.cls
    have hcl : clsIn K C = some { name := nm, bases := bs, mro := .ref C :: bm, ns := N, qualname := q, hasDict := true, slotNames := sn, subclasses := sub, abstract := ab, collection := col, hasDel := false } := by unfold clsIn; rw [hC] <;> rfl
    refine Att.call_fn (binds := [("self", .ref x), (fl true, v)]) X hlim ho hcd hroom (BindsTo.of_eq (by first | rfl | with_unfolding_all rfl)) (by first | rfl | decide | with_unfolding_all rfl) (fun s₁ IC => ?_) rfl rfl rfl
    obtain ⟨h₁, tk₁, rfl⟩ := IC.toInCall.same
    have k : ∀ b o, s.heap.get? b = some o → h₁.get? b = some o := IC.toInCall.keep
    have hn := IC.toInCall.ns
    have hxL : s.heap.objs.size ≠ x := Nat.ne_of_gt (Heap.lt_size hx)
    have X₁ : K.In h₁ := X.keeps k
    have hx₁ := k _ _ hx
    -- self.by = by
    show wpAny _ _ (execs _ _) _ _ _
    refine wpAny_execs_cons (plainObj_wpAny_Assign_Attribute ?_)
    refine ldC (v := v) hn (by first | rfl | with_unfolding_all rfl | kernel_rfl) (ldC (v := .ref x) hn (by first | rfl | with_unfolding_all rfl | kernel_rfl) ?_)
    refine set_plain X₁ (ox := excO C t0) (od := none) ⟨hx₁, rfl, rfl, trivial⟩ T.sa ?_
    refine exc_osa X₁ hx₁ hcl (show refsVE (.ref C :: bm) = true from hbm) rfl T.noN (fun h₃ tk₃ dx k₃ dn dne hx₃ hn₃ => ?_)
    show wpAny _ _ (execs _ _) _ _ _
    have z : s.heap.objs.size < h₁.objs.size := hn.lt
    exact wpAny_execs_nil (hq h₃ tk₃ dx ⟨fun b o hb e => k₃ b o hb (k b o e), hx₃, Nat.le_of_lt (Nat.lt_of_lt_of_le z dn), dne, hn₃⟩)
  | false =>
    obtain ⟨nm, q, N, bs, bm, sn, sub, ab, col, dd, k0, k1, k2, k3, k5, hC, hbm⟩ := T.cls
    have hcl : clsIn K C = some { name := nm, bases := bs, mro := .ref C :: bm, ns := N, qualname := q, hasDict := true, slotNames := sn, subclasses := sub, abstract := ab, collection := col, hasDel := false } := by unfold clsIn; rw [hC] <;> rfl
    refine Att.call_fn (binds := [("self", .ref x), (fl false, v)]) X hlim ho hcd hroom (BindsTo.of_eq (by first | rfl | with_unfolding_all rfl)) (by first | rfl | decide | with_unfolding_all rfl) (fun s₁ IC => ?_) rfl rfl rfl
    obtain ⟨h₁, tk₁, rfl⟩ := IC.toInCall.same
    have k : ∀ b o, s.heap.get? b = some o → h₁.get? b = some o := IC.toInCall.keep
    have hn := IC.toInCall.ns
    have hxL : s.heap.objs.size ≠ x := Nat.ne_of_gt (Heap.lt_size hx)
    have X₁ : K.In h₁ := X.keeps k
    have hx₁ := k _ _ hx
    -- self.by = by
    show wpAny _ _ (execs _ _) _ _ _
    refine wpAny_execs_cons (plainObj_wpAny_Assign_Attribute ?_)
    refine ldC (v := v) hn (by first | rfl | with_unfolding_all rfl | kernel_rfl) (ldC (v := .ref x) hn (by first | rfl | with_unfolding_all rfl | kernel_rfl) ?_)
    refine set_plain X₁ (ox := excO C t0) (od := none) ⟨hx₁, rfl, rfl, trivial⟩ T.sa ?_
    refine exc_osa X₁ hx₁ hcl (show refsVE (.ref C :: bm) = true from hbm) rfl T.noN (fun h₃ tk₃ dx k₃ dn dne hx₃ hn₃ => ?_)
    show wpAny _ _ (execs _ _) _ _ _
    have z : s.heap.objs.size < h₁.objs.size := hn.lt
    exact wpAny_execs_nil (hq h₃ tk₃ dx ⟨fun b o hb e => k₃ b o hb (k b o e), hx₃, Nat.le_of_lt (Nat.lt_of_lt_of_le z dn), dne, hn₃⟩)
theorem low_made (T : XTxt K mg cn g C fI) {v : Value} (X : K.In s.heap) (hlim : s.heap.NoLimit) (hroom : A.depth + 1 < recursionLimit)
    (hq : ∀ h' tk e d, OwnMade g s.heap h' e C d v → R (.ok (.ret (.ref e))) { s with heap := h', toks := tk }) :
    codeAny (model prog w) A (.call (.ref C) ⟨[v], []⟩) R s := by
  obtain ⟨nm, q, N, bs, bm, sn, sub, ab, col, dd, k0, k1, k2, k3, k5, hC, hbm⟩ := T.cls
  obtain ⟨hp, gn, dr, tk, os⟩ := s
  have k : ∀ b o, hp.get? b = some o → ((hp.push (kdv_tup [v])).push (excO C hp.objs.size)).get? b = some o := fun b o e => Heap.get?_push_of_some _ (Heap.get?_push_of_some _ e)
  have hget : ((hp.push (kdv_tup [v])).push (excO C hp.objs.size)).get? (hp.objs.size + 1) = some (excO C hp.objs.size) := by heap_get
  have hnx : K.lookup (hp.objs.size + 1) = none := by
    cases e : K.lookup (hp.objs.size + 1) with
    | none => rfl
    | some o =>
      have z : hp.get? (hp.objs.size + 1) = some o := X _ _ e
      exact absurd (Nat.lt_of_succ_lt (Heap.lt_size z)) (Nat.lt_irrefl _)
  refine call_own F.excBase_ValueError (fun X => refsVE_contains X bm hbm) (X _ _ hC) (looks_findIn X T.iC) (fun self => bind_fn X self T.tC) (one_size v) ?_
  refine low_init (s := ⟨(hp.push (kdv_tup [v])).push (excO C hp.objs.size), gn, dr, tk, os⟩) T (X.keeps k) (hlim.keeps k) hget hnx ?_ fun h' tk' dx ⟨k', hx, dn, dne, hns⟩ => ?_
  · show A.depth + 1 < recursionLimit
    exact hroom
  · have old : ∀ b o, hp.get? b = some o → h'.get? b = some o := fun b o e => k' b o (Nat.ne_of_lt (Nat.lt_succ_of_lt (Heap.lt_size e))) (k b o e)
    have z : hp.objs.size + 1 + 1 ≤ dx := by
      first
        | (simpa only [Heap.size_push] using dn)
        | exact dn
        | (have q := dn; rw [Heap.size_push, Heap.size_push] at q; exact q)
    exact ⟨rfl, hq h' tk' (hp.objs.size + 1) dx ⟨old, Nat.le_succ _, ⟨_, _, hx, rfl, rfl, rfl, rfl⟩, Nat.le_trans (Nat.le_trans (Nat.le_succ _) (Nat.le_succ _)) z, dne, hns⟩⟩
end
end EvX
end PySem
namespace L2
open PySem PySem.Spec PyProof.Rows
theorem relO_low {v : V} {v' : Value} (r : RelV v v') (y f : Str) : RelO (List.lookup f [(y, v)]) (if f = y then some v' else none) := by
  by_cases hw : f = y
  · subst hw
    rw [if_pos rfl]
    have q : List.lookup f [(f, v)] = some v := by simp [List.lookup]
    rw [q]
    exact r
  · rw [if_neg hw]
    have qw : (f == y) = false := by simpa using hw
    have q2 : List.lookup f [(y, v)] = none := by simp [List.lookup, qw]
    rw [q2]
    trivial
section
variable {X : Cx} {cn : Str} {g : Bool} {C fI : Addr}
/-- Low(e) -/
def tMkX (g : Bool) (C : Addr) (ta : TA) : St → Hp → XK → Prop := fun σ H Q => ta σ H fun vs H1 => ∃ v, vs = [v] ∧ ∀ d, H1 d = none → Q (.ref C) (some d) (upd H1 d (.xd [(PySem.EvX.fl g, v)]))
theorem pmk_x {a : Expr} {ta : TA} {p pos : Pos} {k : Nat} (T : PySem.EvX.XTxt X.K X.mg cn g C fI) (hr : Room k X.A) (ha : PA X [a] ta) (hg : Gl X cn) (hdb : (cn == ("__debug__" : Str)) = false)
    (he : starEach (a :: []) X.env = (false, eval a X.env) :: starEach [] X.env := by rfl) (hpl : (backTo pos (starEach [] X.env)).any (·.1) = false := by rfl) :
    PMk X (.Call (.Name cn p) [a] [] pos) (tMkX g C ta) := by
  intro pins s σ H Q I h
  refine wpAny_Call_Name_kw (ld_glob I hg T.gC ?_ hdb)
  refine PySem.W.callWith_K (h₀ := X.base) I.ok.mod.kin T.kC (thn (ha.run pos pins s σ H _ I h) fun us s1 hh => ?_) he hpl
  obtain ⟨vs, H1, I1, r1, v, ev, q1⟩ := hh
  subst ev
  refine ⟨I1.kIn, ?_⟩
  cases r1 with
  | cons rv rn =>
    rename_i v' us'
    cases rn
    show wpAny _ _ (call (.ref C) [v']) _ _ _
    have hlim := I1.nolimit
    obtain ⟨hp, gn, dr, tk, os⟩ := s1
    refine wpAny_call (PySem.EvX.low_made T I1.kIn hlim (by have := hr.dp; omega) fun h' tk' e d M => ?_)
    show MkP X pins σ Q (.ref e) ⟨h', gn, dr, tk', os⟩
    obtain ⟨oe, fv, hoe, hc, hd, hdat, h1⟩ := M.obj
    have hns := M.ns
    obtain ⟨G', g1, g2⟩ := restrict h' fun b => decide (b ≠ e)
    have gk : ∀ b, b ≠ e → G'.get? b = h'.get? b := fun b hb => g1 b (decide_eq_true hb)
    have ge : G'.get? e = none := g2 e (by simp)
    have old : ∀ b o, hp.get? b = some o → G'.get? b = some o := fun b o q => (gk b (Nat.ne_of_lt (Nat.lt_of_lt_of_le (Heap.lt_size q) M.new))).trans (M.keep b o q)
    have ob : ObjOk X.prog X.w (upd H1 d (.xd [(PySem.EvX.fl g, v)])) G' d (.xd [(PySem.EvX.fl g, v)]) :=
      ⟨_, hns.at (fun o q => (gk d M.dne).trans q), fun f => relO_low rv _ f⟩
    have J : Inv X pins σ (upd H1 d (.xd [(PySem.EvX.fl g, v)])) ⟨G', gn, dr, tk', os⟩ := I1.laid (t' := tk') old M.dbig ob
    refine ⟨e, oe, fv, ⟨G', gn, dr, tk', os⟩, _, .ref C, some d, rfl, J, fun b o q => ?_, ge, hoe, ⟨hc, hd⟩, hdat, h1, ?_, rfl, I1.bare, raises_own T.exC T.tyC, q1 d (I1.hok.fresh M.dbig)⟩
    · by_cases hb : b = e
      · have q' : G'.get? b = some o := q
        rw [hb, ge] at q'; cases q'
      · exact (gk b hb).symm.trans q
    · rw [upd_ne (Ne.symm M.dne)]
      exact I1.hok.fresh M.new
/-- raise Low(e) -/
def tRaiseX (g : Bool) (C : Addr) (W : WX) (ta : TA) : TS := fun _ σ H => tMkX g C ta σ H fun cls d H' => W cls d σ H'
theorem ps_raiseX {a : Expr} {ta : TA} {W : WX} {p pos pos2 : Pos} {k : Nat} (hc : X.calm = true) (T : PySem.EvX.XTxt X.K X.mg cn g C fI) (hr : Room k X.A) (tk : Takes X W) (ha : PA X [a] ta) (hg : Gl X cn) (hdb : (cn == ("__debug__" : Str)) = false)
    (he : starEach (a :: []) X.env = (false, eval a X.env) :: starEach [] X.env := by rfl) (hpl : (backTo pos (starEach [] X.env)).any (·.1) = false := by rfl) :
    PS X (.Raise (some (.Call (.Name cn p) [a] [] pos)) none pos2) (tRaiseX g C W ta) := ps_raise hc tk (pmk_x T hr ha hg hdb he hpl)
/-- low.by, low the exception that the suite holds (at a; its class cls, its dict d) -/
def tByX (g : Bool) (C : Addr) (a : Addr) (cls : Value) (d : Option Addr) (te : TE) : TE := fun σ H Q => te σ H fun x H1 => x = .ref a ∧ cls = .ref C ∧ ∃ (dd : Addr) (v : V), d = some dd ∧ H1 dd = some (.xd [(PySem.EvX.fl g, v)]) ∧ Q v H1
theorem pe_byX {a : Addr} {oe : Obj} {cls : Value} {d : Option Addr} {pn : List (Addr × Obj)} {e : Expr} {te : TE} {pos : Pos} (T : PySem.EvX.XTxt X.K X.mg cn g C fI) (hz : Zc cls d oe) (hf : ∃ vs, oe.data = .fields vs) (he : PE (X.suite a ((a, oe) :: pn)) e te)
    (hb : attributeBase e (PySem.EvX.fl g) X.env (eval e X.env) = eval e X.env) :
    PE (X.suite a ((a, oe) :: pn)) (.Attribute e (PySem.EvX.fl g) pos) (tByX g C a cls d te) := by
  refine ⟨fun pins s σ H Q I h => ?_⟩
  refine attr_of hb (thn (he.run pins s σ H _ I h) fun u s1 hh => ?_)
  obtain ⟨x, H1, I1, rx, ex, ec, dd, v, ed, ea, q⟩ := hh
  subst ex
  obtain rfl : u = Value.ref a := rx
  subst ec
  subst ed
  obtain ⟨ha, _⟩ := I1.pin (a, oe) (List.mem_append_left _ List.mem_cons_self)
  obtain ⟨vs, hd⟩ := hf
  have hx : ObjOk X.prog X.w H1 s1.heap dd (.xd [(PySem.EvX.fl g, v)]) := I1.hok dd _ ea
  obtain ⟨mA, hns, hr⟩ := hx
  obtain ⟨od, ho, hl⟩ := lookIn_ns hns
  have l : List.lookup (PySem.EvX.fl g) [(PySem.EvX.fl g, v)] = some v := by simp [List.lookup]
  obtain ⟨u, hu, ru⟩ := RelO.some_of (v := v) (o := mA (PySem.EvX.fl g)) (by rw [← l]; exact hr (PySem.EvX.fl g))
  have J : PySem.W.InstAt s1.heap a oe C (some od) := ⟨ha, hz.1, by unfold PySem.W.notCls; rw [hd] <;> rfl, by rw [hz.2]; exact ho⟩
  exact HandSPX.exc_get I1.kIn J T.ga T.gg T.exC (PySem.W.findObj_own T.hdC T.noN rfl (by rw [hl, hu])) (handed_of ru) ⟨v, H1, I1.tok _, ru, q⟩
end
end L2
set_option Elab.async false
set_option linter.all false
set_option maxRecDepth 100000
set_option maxHeartbeats 4000000
namespace EvI
open PySem.W
open PySem PySem.Spec PySem.Calls PyProof.Rows
section
variable {prog : Program} {w : World} {A : Around} {E : Value → Shared → Prop} {s : Shared} {K : Frag} {x D : Addr} {ox : Obj} {od : Option Obj}
theorem findObj_dataO {C : Addr} {name : Str} {a g : Value} (hc : (clsIn K C).isSome = true) (ha : findIn K (.ref C) name = some (some a)) (hg : specialIn K a "__get__" = some (some g)) (ht : takesIn K a = some true) : findObj K C od name = some (.bind g a) := by
  obtain ⟨cd, hc⟩ := Option.isSome_iff_exists.mp hc
  unfold findObj
  rw [hc, Option.bind_some, ha, Option.bind_some]
  simp [hg, ht]
theorem kin_classO {Q : Option Value → Shared → Prop} (hga : findIn K (.ref D) "__getattribute__" = some (some (.builtin "BaseException.__getattribute__"))) (hgt : findIn K (.ref D) "__getattr__" = some none) (hsub : subIn K (.ref D) (.type "BaseException") = some true)
    (hdct : hasDictIn K D = true) (ha : findIn K (.ref D) "__class__" = some (some (.builtin "object.__class__")))
    (hn : specialIn K (.builtin "object.__class__") "__get__" = some (some (.builtin "getset_descriptor.__get__"))) (htk : takesIn K (.builtin "object.__class__") = some true) (hm : mroIn K D (.type "object") = some true)
    (X : K.In s.heap) (I : InstAt s.heap x ox D od) (h : Q (some (.ref D)) { s with toks := s.toks + 1 }) : wpAny (model prog w) A (getAttr? (.ref x) "__class__") Q E s := by
  have hf : findObj K D od "__class__" = some (.bind (.builtin "getset_descriptor.__get__") (.builtin "object.__class__")) := findObj_dataO (by obtain ⟨cd, hc, _⟩ := any_some hdct; rw [hc]; rfl) ha hn htk
  obtain ⟨hp, g, d, t, os⟩ := s
  have L0 := I.type (M := model prog w)
  have L1 := looks_findIn (M := model prog w) X hga
  have L2 := looks_findIn (M := model prog w) X hgt
  have L3 := looks_find (M := model prog w) X I hf
  have sub : Looks (model prog w) hp (isInstance (.ref x) (.type "BaseException")) true := L0.andThen (looks_subIn X hsub)
  have hx0 : (false && onTheHeap (Value.builtin "BaseException.__getattribute__")) = false := rfl
  have hx2 : (Value.builtin "BaseException.__getattribute__" == Value.builtin "object.__getattribute__") = false := by decide +kernel
  have hx1 : (onTheHeap (Value.ref D) && Value.builtin "BaseException.__getattribute__" == Value.builtin "object.__getattribute__") = false := by rw [hx2]; rfl
  unfold getAttr? getAttrBy? getAttrBy
  refine wpAny_bind (wpAny_mkText (wpAny_bind (wpAny_attempt (wpAny_holding (wpAny_bind (L0.at (wpAny_bind (L1.at ?_))))))))
  show wpAny _ _ (if (onTheHeap (Value.ref D) && Value.builtin "BaseException.__getattribute__" == Value.builtin "object.__getattribute__") = true then _ else _) _ _ _
  rw [hx1, if_neg Bool.false_ne_true]
  unfold getAttrByItsOwn hookBefore
  refine wpAny_bind ?_
  rw [if_pos (show onTheHeap (Value.ref D) = true from rfl)]
  refine L2.at ?_
  refine wpAny_bind (wpAny_attempt (wpAny_holding ?_))
  unfold callGetattribute
  rw [hx0, if_neg Bool.false_ne_true]
  unfold boundAndCalled
  rw [PySem.F.excAttr_ValueError.ga.bind (.ref x)]
  refine wpAny_bind (wpAny_pure ?_)
  show wpAny _ _ (call (.builtin "BaseException.__getattribute__") [.ref x, .str "__class__" t]) _ _ _
  refine wpAny_call (codeAny_call_builtin PySem.F.excAttr_ValueError.ga.plain PySem.F.entry_bexc_ga ?_)
  refine @check_slot (model prog w) _ _ ⟨hp, g, d, t + 1, os⟩ "BaseException.__getattribute__" "BaseException" "__getattribute__" (.ref x) [.str "__class__" t] [] _ (by decide +kernel) (by decide +kernel) sub (PySem.F.args_bexc_ga (.ref x) (.str "__class__" t)) ?_
  unfold Builtin.«object.__getattribute__»
  refine wpAny_bind (wpAny_of_eq (a := ((Value.ref x : Value), [Value.str "__class__" t])) (by first | rfl | (simp only [slotArgs]; rfl)) ?_)
  refine wpAny_bind (wpAny_pure (wpAny_bind (L0.at (wpAny_bind (L3.at ?_)))))
  show wpAny _ _ (holding [Value.builtin "object.__class__"] (call (.builtin "getset_descriptor.__get__") [.builtin "object.__class__", .ref x, .ref D]) >>= ret) _ _ _
  refine wpAny_bind (wpAny_holding (wpAny_call (class_get (s := ⟨hp, g, d, t + 1, os⟩) (ox := ox) (od := od) X I hm ?_)))
  refine wpAny_pure ?_
  show wpAny _ _ (handedOut (.ref D)) _ _ _
  rw [handedOut_of (v := .ref D) rfl]
  first
    | exact wpAny_pure (wpAny_pure h)
    | exact wpAny_pure h
    | exact wpAny_pure (wpAny_bind (wpAny_pure (wpAny_pure h)))
theorem kitx_excO (hga : findIn K (.ref D) "__getattribute__" = some (some (.builtin "BaseException.__getattribute__"))) (hgt : findIn K (.ref D) "__getattr__" = some none) (hsub : subIn K (.ref D) (.type "BaseException") = some true) (hdct : hasDictIn K D = true) (ha : findIn K (.ref D) "__class__" = some (some (.builtin "object.__class__")))
    (hn : specialIn K (.builtin "object.__class__") "__get__" = some (some (.builtin "getset_descriptor.__get__"))) (htk : takesIn K (.builtin "object.__class__") = some true) (hm : mroIn K D (.type "object") = some true) :
    KitX K (.ref x) (.ref D) (fun h => InstAt h x ox D od) where
  ty := fun _ _ _ I => I.type
  it := fun _ _ X _ => by
    obtain ⟨cdD, hcD, _⟩ := any_some hdct
    unfold clsIn at hcD
    split at hcD
    · rename_i c' d' cd' sl' ho
      intro A' Q' E' s' k q
      unfold isType loadHead
      exact wpAny_bind (wpAny_loadPart (k _ _ (X _ _ ho)) (wpAny_pure q))
    · cases hcD
  ne := fun h tp dd its n sl X htp => by
    obtain ⟨cdD, hcD, _⟩ := any_some hdct
    refine Bool.eq_false_iff.mpr fun q => ?_
    have e : D = tp := Value.ref.inj (beq_iff_eq.mp q)
    subst e
    unfold clsIn at hcD
    split at hcD
    · rename_i c' d' cd' sl' ho
      have z := (X _ _ ho).symm.trans htp
      cases z
    · cases hcD
  ca := fun X I k => kin_classO hga hgt hsub hdct ha hn htk hm X I k
end
end EvI
namespace Ev
open PySem PySem.Spec L2
open PyProof.Rows hiding St
/-- isinstance(e, c), e the exception of the class D that the suite holds, its own dict at dd -/
def rIsX (K : PySem.W.Frag) (D a : Addr) (d : Option Addr) : List V → Hp → VK → Prop := fun xs H Q => ∃ (c : V) (cv : Value) (b : Bool) (dd : Addr) (fs : List (Str × V)), xs = [.ref a, c] ∧ (∀ u, RelV c u → u = cv) ∧ PySem.W.kitOne K (.ref D) cv = some b ∧ d = some dd ∧ H dd = some (.xd fs) ∧ Q (.bl b) H
theorem call_isX {X : Cx} {a D : Addr} {d : Option Addr} {oe : Obj} {pn : List (Addr × Obj)} (C : ExcC X.K D) (hz : Zc (.ref D) d oe) (hf : ∃ vs, oe.data = .fields vs) : CallR (X.suite a ((a, oe) :: pn)) (.builtin "isinstance") (rIsX X.K D a d) := by
  intro pins s σ H xs us Q I r h
  obtain ⟨c, cv, b, dd, fs, rfl, hcv, e, ed, ea, q⟩ := h
  subst ed
  cases r with
  | cons rx rr =>
    cases rr with
    | cons rt rr =>
      cases rr
      cases rx
      have ec := hcv _ rt
      subst ec
      obtain ⟨hget, _⟩ := I.pin (a, oe) (List.mem_append.mpr (.inl List.mem_cons_self))
      obtain ⟨vs, hv⟩ := hf
      have hx : ObjOk X.prog X.w H s.heap dd (.xd fs) := I.hok dd _ ea
      obtain ⟨mA, hns, hr⟩ := hx
      obtain ⟨od, ho, hl⟩ := lookIn_ns hns
      have J : PySem.W.InstAt s.heap a oe D (some od) := ⟨hget, hz.1, by unfold PySem.W.notCls; rw [hv] <;> rfl, by rw [hz.2]; exact ho⟩
      exact PySem.W.kia_one (EvI.kitx_excO C.hg C.hk C.hs C.hd C.ha C.hn C.ht C.hm) I.kIn J e (fun z => nomatch z) fun tk => ⟨.bl b, H, I.kept (t' := tk) fun _ _ z => z, rfl, q⟩
end Ev
set_option Elab.async false
set_option linter.all false
set_option autoImplicit false
set_option maxRecDepth 100000
set_option maxHeartbeats 4000000
namespace Ev
open PySem PySem.Spec L2
open PyProof.Rows hiding St
/-! ### a op b op c -/
def cChain (g g' : D → D → Option Bool) (fa fb fc : M Op) : M Op := M.bind fa fun o1 => M.bind fb fun o2 => M.bind (lift2 g o1 o2) fun b => if b = true then M.bind fc (fun o3 => lift2 (fun x y => (g' x y).map fun b => Op.val (.bl b)) o2 o3) else mOk (.val (.bl false))
section
variable {X : Cx} {a b c : Expr} {fa fb fc : M Op} {op op' : CmpOp} {r r' : R2} {g g' : D → D → Option Bool} {pos : Pos}
theorem de_chain (ho : OpR X (compareOp op) r) (hg : OpC X.K r g) (ho' : OpR X (compareOp op') r') (hg' : OpC X.K r' g') (ha : DE X a fa) (hb : DE X b fb) (hc : DE X c fc) (hm : lastMarks [op, op'] [b, c] = false) : DE X (.Compare a [op, op'] [b, c] pos) (cChain g g' fa fb fc) := by
  refine ⟨fun W tk => PE.weak (pe_chain ho ho' (ha.run W tk) (hb.run W tk) (hc.run W tk) hm) fun pins s σ H Q I h => ?_⟩
  obtain ⟨G, F, δ, rr, h⟩ := h
  refine bin2 rr .refl h fun o1 o2 δ2 v w F2 H2 s2 r2 q1 q2 h => ?_
  have h : Sat X.K G F2 σ W (M.bind (lift2 g o1 o2) (fun b => if b = true then M.bind fc (fun o3 => lift2 (fun x y => (g' x y).map fun b => Op.val (.bl b)) o2 o3) else mOk (.val (.bl false))) δ2) (VE X.K σ G) Q := h
  cases e1 : deref δ2 o1 with
  | none => unfold M.bind lift2 at h; rw [e1] at h; exact h.elim
  | some x =>
    cases e2 : deref δ2 o2 with
    | none => unfold M.bind lift2 at h; rw [e1, e2] at h; exact h.elim
    | some y =>
      cases e3 : g x y with
      | none => unfold M.bind lift2 at h; rw [e1, e2] at h; dsimp only at h; rw [e3] at h; exact h.elim
      | some k =>
        have h : Sat X.K G F2 σ W ((if k = true then M.bind fc (fun o3 => lift2 (fun x y => (g' x y).map fun b => Op.val (.bl b)) o2 o3) else mOk (.val (.bl false))) δ2) (VE X.K σ G) Q := by
          have e4 : lift2 g o1 o2 δ2 = .ok k δ2 := by unfold lift2; rw [e1, e2]; dsimp only; rw [e3]
          have e5 : M.bind (lift2 g o1 o2) (fun b => if b = true then M.bind fc (fun o3 => lift2 (fun x y => (g' x y).map fun b => Op.val (.bl b)) o2 o3) else mOk (.val (.bl false))) δ2 = (if k = true then M.bind fc (fun o3 => lift2 (fun x y => (g' x y).map fun b => Op.val (.bl b)) o2 o3) else mOk (.val (.bl false))) δ2 := by
            unfold M.bind; rw [e4]
          rw [← e5]; exact h
        refine hg σ G F2 H2 δ2 x y v w k _ r2 (deref_rep r2 q1 e1) (deref_rep r2 q2 e2) e3 ?_
        refine ⟨k, rfl, ?_⟩
        cases k with
        | false =>
          simp only [Bool.false_eq_true, if_false] at h ⊢
          exact h (.bl false) F2 H2 .refl r2 (show Rep X.K F2 (.bl false) _ from rep_bl _)
        | true =>
          simp only [if_true] at h ⊢
          refine bindE (r2.pend q2) (pend_sub q2) h fun o3 δ3 u F3 H3 s3 r3 q3 h => ?_
          have r3' := r3.lessG (pend_sub q2)
          have q2' := pend_keep q2 s3 r3
          have q3' := q3.lessG (pend_sub q2)
          unfold lift2 at h
          cases e5 : deref δ3 o2 with
          | none => rw [e5] at h; exact h.elim
          | some y' =>
            cases e6 : deref δ3 o3 with
            | none => rw [e5, e6] at h; exact h.elim
            | some z =>
              rw [e5, e6] at h
              dsimp only at h
              cases e7 : g' y' z with
              | none => rw [e7] at h; exact h.elim
              | some k =>
                rw [e7] at h
                exact hg' σ G F3 H3 δ3 y' z w u k _ r3' (deref_rep r3' q2' e5) (deref_rep r3' q3' e6) e7 (h _ F3 H3 .refl r3' (show Rep X.K F3 (.bl k) _ from rep_bl _))
/-- a value that is a bool, as a test -/
def asT (f : M Op) : M Bool := M.bind f fun o => match o with
  | .val (.bl b) => mOk b
  | _ => mBad
theorem dt_chain (ho : OpR X (compareOp op) r) (hg : OpC X.K r g) (ho' : OpR X (compareOp op') r') (hg' : OpC X.K r' g') (ha : DE X a fa) (hb : DE X b fb) (hc : DE X c fc) (hm : lastMarks [op, op'] [b, c] = false) : DT X (.Compare a [op, op'] [b, c] pos) (asT (cChain g g' fa fb fc)) := by
  have key := de_chain (pos := pos) ho hg ho' hg' ha hb hc hm
  refine ⟨fun W tk => PT.weak (pt_chain ho ho' (ha.run W tk) (hb.run W tk) (hc.run W tk) hm) fun pins s σ H Q I h => ?_⟩
  obtain ⟨G, F, δ, rr, h⟩ := h
  -- the chain's reading with a test behind
  have h2 : tE X.K (cChain g g' fa fb fc) W σ H fun x H' => ∃ k, x = .bl k ∧ Q k H' := by
    refine bindE rr .refl h fun o δ1 v F1 H1 s1 r1 q1 h => ?_
    cases o with
    | val d =>
      cases d with
      | bl k =>
        have q1 : Rep X.K F1 (.bl k) v := q1
        unfold Rep at q1
        exact ⟨k, q1, h k F1 H1 .refl r1 rfl⟩
      | _ => exact h.elim
    | place i => exact h.elim
    | fresh d => exact h.elim
  obtain ⟨G2, F2, δ2, r2, h2⟩ := h2
  refine bin2 r2 .refl h2 fun o1 o2 δ3 v w F3 H3 s3 r3 q1 q2 h => ?_
  have h : Sat X.K G2 F3 σ W (M.bind (lift2 g o1 o2) (fun b => if b = true then M.bind fc (fun o3 => lift2 (fun x y => (g' x y).map fun b => Op.val (.bl b)) o2 o3) else mOk (.val (.bl false))) δ3) (VE X.K σ G2) (fun x H' => ∃ k, x = .bl k ∧ Q k H') := h
  cases e1 : deref δ3 o1 with
  | none => unfold M.bind lift2 at h; rw [e1] at h; exact h.elim
  | some x =>
    cases e2 : deref δ3 o2 with
    | none => unfold M.bind lift2 at h; rw [e1, e2] at h; exact h.elim
    | some y =>
      cases e3 : g x y with
      | none => unfold M.bind lift2 at h; rw [e1, e2] at h; dsimp only at h; rw [e3] at h; exact h.elim
      | some k =>
        have h : Sat X.K G2 F3 σ W ((if k = true then M.bind fc (fun o3 => lift2 (fun x y => (g' x y).map fun b => Op.val (.bl b)) o2 o3) else mOk (.val (.bl false))) δ3) (VE X.K σ G2) (fun x H' => ∃ k, x = .bl k ∧ Q k H') := by
          have e4 : lift2 g o1 o2 δ3 = .ok k δ3 := by unfold lift2; rw [e1, e2]; dsimp only; rw [e3]
          have e5 : M.bind (lift2 g o1 o2) (fun b => if b = true then M.bind fc (fun o3 => lift2 (fun x y => (g' x y).map fun b => Op.val (.bl b)) o2 o3) else mOk (.val (.bl false))) δ3 = (if k = true then M.bind fc (fun o3 => lift2 (fun x y => (g' x y).map fun b => Op.val (.bl b)) o2 o3) else mOk (.val (.bl false))) δ3 := by
            unfold M.bind; rw [e4]
          rw [← e5]; exact h
        refine hg σ G2 F3 H3 δ3 x y v w k _ r3 (deref_rep r3 q1 e1) (deref_rep r3 q2 e2) e3 ?_
        refine ⟨k, rfl, ?_⟩
        cases k with
        | false =>
          simp only [Bool.false_eq_true, if_false] at h ⊢
          exact h (.bl false) F3 H3 .refl r3 (show Rep X.K F3 (.bl false) _ from rep_bl _)
        | true =>
          simp only [if_true] at h ⊢
          refine bindE (r3.pend q2) (pend_sub q2) h fun o3 δ4 u F4 H4 s4 r4 q3 h => ?_
          have r4' := r4.lessG (pend_sub q2)
          have q2' := pend_keep q2 s4 r4
          have q3' := q3.lessG (pend_sub q2)
          unfold lift2 at h
          cases e5 : deref δ4 o2 with
          | none => rw [e5] at h; exact h.elim
          | some y' =>
            cases e6 : deref δ4 o3 with
            | none => rw [e5, e6] at h; exact h.elim
            | some z =>
              rw [e5, e6] at h
              dsimp only at h
              cases e7 : g' y' z with
              | none => rw [e7] at h; exact h.elim
              | some k =>
                rw [e7] at h
                exact hg' σ G2 F4 H4 δ4 y' z w u k _ r4' (deref_rep r4' q2' e5) (deref_rep r4' q3' e6) e7 (h _ F4 H4 .refl r4' (show Rep X.K F4 (.bl k) _ from rep_bl _))
end
/-! ### the comparisons' rules by their sign -/
def gIn : D → D → Option Bool := fun x y => (gInC x y).orElse fun _ => (gInF x y).orElse fun _ => (gInDic x y).orElse fun _ => gInD x y
def gNotIn : D → D → Option Bool := fun x y => ((gInC x y).map (!·)).orElse fun _ => ((gInF x y).map (!·)).orElse fun _ => ((gInDic x y).map (!·)).orElse fun _ => (gInD x y).map (!·)
def gIsNot : D → D → Option Bool := fun x y => (gIsC x y).map (!·)
def gEq : D → D → Option Bool := fun x y => (gEqB x y).orElse fun _ => gEqDic x y
def cmpG : CmpOp → D → D → Option Bool
  | .Eq => gEq | .NotEq => gNe | .Lt => gLt | .LtE => gLe | .Gt => gGt | .GtE => gGe | .Is => gIsC | .IsNot => gIsNot | .In => gIn | .NotIn => gNotIn
end Ev
set_option Elab.async false
set_option linter.all false
set_option autoImplicit false
set_option maxRecDepth 100000
set_option maxHeartbeats 4000000
namespace Ev
open PySem PySem.Spec L2
open PyProof.Rows hiding St
/-! ### sorted(texts) -/
theorem ltCps_eq : ∀ a b : List Nat, ltCps a b = decide (a < b)
  | [], [] => by simp [ltCps]
  | [], _ :: _ => by simp [ltCps]
  | _ :: _, [] => by simp [ltCps]
  | a :: x, b :: y => by
    unfold ltCps
    rw [ltCps_eq x y, Bool.eq_iff_iff]
    simp [List.cons_lt_cons_iff]
def leC (a b : List Nat) : Bool := !ltCps b a
theorem leC_iff (a b : List Nat) : leC a b = true ↔ a ≤ b := by
  unfold leC
  rw [ltCps_eq]
  simp
def insC (a : List Nat) : List (List Nat) → List (List Nat)
  | [] => [a]
  | b :: l => if leC a b then a :: b :: l else b :: insC a l
def sortC : List (List Nat) → List (List Nat)
  | [] => []
  | a :: l => insC a (sortC l)
theorem insC_perm (a : List Nat) : ∀ l, (insC a l).Perm (a :: l)
  | [] => .refl _
  | b :: l => by
    unfold insC
    split
    · exact .refl _
    · exact ((insC_perm a l).cons b).trans (.swap a b l)
theorem sortC_perm : ∀ l, (sortC l).Perm l
  | [] => .refl _
  | a :: l => (insC_perm a _).trans ((sortC_perm l).cons a)
theorem insC_sorted (a : List Nat) : ∀ l, l.Pairwise (fun x y => x ≤ y) → (insC a l).Pairwise (fun x y => x ≤ y)
  | [], _ => by simp [insC]
  | b :: l, h => by
    unfold insC
    obtain ⟨h1, h2⟩ := List.pairwise_cons.mp h
    split
    · rename_i c
      have c := (leC_iff a b).mp c
      refine List.pairwise_cons.mpr ⟨fun z hz => ?_, h⟩
      rcases List.mem_cons.mp hz with rfl | hz
      · exact c
      · exact List.le_trans c (h1 z hz)
    · rename_i c
      have c : ¬ a ≤ b := fun z => c ((leC_iff a b).mpr z)
      have c : b ≤ a := (List.le_total b a).resolve_right c
      refine List.pairwise_cons.mpr ⟨fun z hz => ?_, insC_sorted a l h2⟩
      rcases List.mem_cons.mp ((insC_perm a l).mem_iff.mp hz) with rfl | hz
      · exact c
      · exact h1 z hz
theorem sortC_sorted : ∀ l, (sortC l).Pairwise (fun x y => x ≤ y)
  | [] => .nil
  | a :: l => insC_sorted a _ (sortC_sorted l)
theorem sorted_eq : ∀ l1 l2 : List (List Nat), l1.Perm l2 → l1.Pairwise (fun x y => x ≤ y) → l2.Pairwise (fun x y => x ≤ y) → l1 = l2
  | [], l2, p, _, _ => (List.Perm.eq_nil p.symm).symm
  | a :: l1, [], p, _, _ => absurd (List.Perm.eq_nil p) (by simp)
  | a :: l1, b :: l2, p, h1, h2 => by
    obtain ⟨a1, a2⟩ := List.pairwise_cons.mp h1
    obtain ⟨b1, b2⟩ := List.pairwise_cons.mp h2
    have e : a = b := by
      have ma : a ∈ b :: l2 := p.mem_iff.mp List.mem_cons_self
      have mb : b ∈ a :: l1 := p.mem_iff.mpr List.mem_cons_self
      rcases List.mem_cons.mp ma with h | h
      · exact h
      · rcases List.mem_cons.mp mb with h' | h'
        · exact h'.symm
        · exact List.le_antisymm (a1 b h') (b1 a h)
    subst e
    rw [sorted_eq l1 l2 p.cons_inv a2 b2]
theorem rising_pair : ∀ (l : List Str) (p : Str), risingS p l = true → ((p :: l).map fun s => s.cps.toList).Pairwise (fun x y => x ≤ y)
  | [], p, _ => by simp
  | x :: r, p, h => by
    have h : (!ltCps x.cps.toList p.cps.toList && risingS x r) = true := h
    rw [Bool.and_eq_true] at h
    have ih := rising_pair r x h.2
    have hp : p.cps.toList ≤ x.cps.toList := (leC_iff _ _).mp h.1
    rw [List.map_cons]
    refine List.pairwise_cons.mpr ⟨fun z hz => ?_, ih⟩
    rw [List.map_cons] at hz ih
    rcases List.mem_cons.mp hz with rfl | hz
    · exact hp
    · exact List.le_trans hp ((List.pairwise_cons.mp ih).1 z hz)
theorem sorted_pair (l : List Str) (h : sortedS l = true) : (l.map fun s => s.cps.toList).Pairwise (fun x y => x ≤ y) := by
  cases l with
  | nil => exact .nil
  | cons x r => exact rising_pair r x h
theorem str_list (s : List Nat) : (⟨s.toArray⟩ : Str).cps.toList = s := rfl
theorem sorted_is {ss : List (List Nat)} {ys : List Str} (p : ys.Perm (ss.map fun s => (⟨s.toArray⟩ : Str))) (h : sortedS ys = true) : ys = (sortC ss).map fun s => (⟨s.toArray⟩ : Str) := by
  have e : ys.map (fun s => s.cps.toList) = sortC ss := by
    refine sorted_eq _ _ ?_ (sorted_pair ys h) (sortC_sorted ss)
    have p2 := p.map fun s : Str => s.cps.toList
    rw [List.map_map] at p2
    have : (ss.map ((fun s : Str => s.cps.toList) ∘ fun s => (⟨s.toArray⟩ : Str))) = ss := by
      rw [show ((fun s : Str => s.cps.toList) ∘ fun s : List Nat => (⟨s.toArray⟩ : Str)) = id from rfl]
      exact List.map_id ss
    rw [this] at p2
    exact p2.trans (sortC_perm ss).symm
  rw [← e, List.map_map]
  have : ((fun s : List Nat => (⟨s.toArray⟩ : Str)) ∘ fun s : Str => s.cps.toList) = id := by
    funext s
    rfl
  rw [this, List.map_id]
def gSortS : List D → Option Op
  | [d] => match listD d with
    | some xs => (match strsD xs with
      | some ss => if decide (ss.length < 64) then some (.fresh (.lst ((sortC ss).map D.str))) else none
      | none => none)
    | none => none
  | _ => none
theorem repL_strs {K : PySem.W.Frag} {F : Hp} : ∀ ss : List (List Nat), RepL K F (ss.map D.str) ((ss.map fun s => (⟨s.toArray⟩ : Str)).map V.str)
  | [] => .nil
  | s :: ss => .cons (rep_str s) (repL_strs ss)
theorem cg_sortedS {K : PySem.W.Frag} : CallG K (rSortedS K) gSortS := by
  intro σ G F H δ ds vs o Q rel rs e k
  unfold gSortS at e
  split at e
  · rename_i d
    obtain ⟨v, rfl, h1⟩ := rs.one
    cases el : listD d with
    | none => rw [el] at e; cases e
    | some xs =>
      rw [el] at e; dsimp only at e
      cases en : strsD xs with
      | none => rw [en] at e; cases e
      | some ss =>
        rw [en] at e; dsimp only at e
        split at e
        · rename_i hl
          cases e
          obtain ⟨a, us, rfl, h2, h3⟩ := h1.list rel.subF el
          have := strsD_rep h3 en; subst this
          refine ⟨a, _, rfl, h2, by rw [List.length_map]; exact of_decide_eq_true hl, fun ys p hp hs hq => ?_⟩
          rw [sorted_is hp hs]
          exact new_lst rel (repL_strs _) k p hq
        · cases e
  · cases e
end Ev
set_option Elab.async false
set_option linter.all false
set_option autoImplicit false
set_option maxRecDepth 100000
set_option maxHeartbeats 4000000
namespace Ev
open PySem PySem.Spec L2
open PyProof.Rows hiding St
theorem OpC.congr {K : PySem.W.Frag} {r : R2} {g g' : D → D → Option Bool} (h : OpC K r g) (e : g = g') : OpC K r g' := e ▸ h
theorem cmp_ok {X : Cx} (hu : X.A.units + 65 < cLine) : ∀ op : CmpOp, ∃ r, OpR X (compareOp op) r ∧ OpC X.K r (cmpG op)
  | .Eq => ⟨_, (op_eq.or (op_eqD (by omega))).or (op_eq_dict (by omega)), oc_eq.or oc_eqDic⟩
  | .NotEq => ⟨_, op_ne.or (op_neD (by omega)), oc_ne⟩
  | .Lt => ⟨_, op_lt.or op_lt_str, oc_ord (gs := fun a b => decide (a.cps.toList < b.cps.toList)) fun a b => by simpa using ltL_iff a b⟩
  | .LtE => ⟨_, op_le.or op_le_str, oc_ord (gs := fun a b => !decide (b.cps.toList < a.cps.toList)) fun a b => by simpa using congrArg (!·) (ltL_iff b a)⟩
  | .Gt => ⟨_, op_gt.or op_gt_str, oc_ord (gs := fun a b => decide (b.cps.toList < a.cps.toList)) fun a b => by simpa using ltL_iff b a⟩
  | .GtE => ⟨_, op_ge.or op_ge_str, oc_ord (gs := fun a b => !decide (a.cps.toList < b.cps.toList)) fun a b => by simpa using congrArg (!·) (ltL_iff a b)⟩
  | .Is => ⟨_, op_isN.or op_isB, oc_is⟩
  | .IsNot => ⟨_, op_notN.or op_notB, oc_isnot⟩
  | .In => ⟨_, op_in_sign.or (op_in_seq.or ((op_inDic (by omega)).or (L2.op_inD (by omega)))), by
      refine (oc_inC (neg := false)).or ((oc_inF (neg := false)).or (oc_inDic.or (oc_inD (neg := false)))) |>.congr ?_
      funext x y
      unfold cmpG gIn
      simp⟩
  | .NotIn => ⟨_, op_notIn_sign.or (op_notIn_seq.or ((op_notinDic (by omega)).or (L2.op_notInD (by omega)))), by
      refine (oc_inC (neg := true)).or ((oc_inF (neg := true)).or (oc_notinDic.or (oc_inD (neg := true)))) |>.congr ?_
      funext x y
      unfold cmpG gNotIn
      simp⟩
/-! ### built-ins by name -/
inductive BK where
  | fn (id : String) | ty (T : String)
def BK.val : BK → Value
  | .fn id => .builtin id
  | .ty T => .type T
/-- the sum of a tuple's ints -/
theorem sum_tupRaw {prog : Program} {w : World} {A : Around} {E : Value → Shared → Prop} {s : Shared} {l : Addr} {its : List Value} {ns : List Int} {Q : Value → Shared → Prop} (hh : A.handled = none) (hl : PyProof.Rows.IsTup s.heap l its.toArray) (hi : PyProof.Rows.IntsAre its ns)
    (h : ∀ h' tk t', (∀ b o, s.heap.get? b = some o → h'.get? b = some o) → Q (.int ns.sum t') { s with heap := h', toks := tk }) : wpAny (model prog w) A (call (.builtin "sum") [.ref l]) Q E s := by
  obtain ⟨xs, e⟩ := hi.allInts.items
  have hn : numsOf (intItems xs).toList = ns := by rw [← e]; exact hi.numsOf
  rw [nums_intItems] at hn
  rw [e] at hl
  have hlt : l < s.heap.objs.size := by obtain ⟨_, e, _⟩ := hl; exact Heap.lt_size e
  have hl2 : s.heap.IsTuple l (intItems xs) := hl
  refine PySem.call_sum_walkG (PyProof.Rows.iter_tuple hl ?_)
  refine ⟨_, _, _, _, _, _, numAt xs, rfl, Walks.tuple (A := A.in1) hh _ l (Nat.ne_of_lt hlt) (intItems xs), ⟨⟨_, Heap.get?_push_size _ rfl, rfl, rfl⟩, Heap.IsTuple.push hl2 _⟩, fun b hb => ?_, (fun _ _ => intItems_at), fun h' tk t' hk => ?_⟩
  · show b < (s.heap.push _).objs.size
    rw [Heap.size_push]
    rcases List.mem_cons.mp hb with rfl | hb
    · exact Nat.lt_succ_self _
    · rcases List.mem_cons.mp hb with rfl | hb
      · exact Nat.lt_succ_of_lt hlt
      · cases hb
  · have := h h' tk t' (fun b o e => by
      refine hk b o (fun hm => ?_) (Heap.get?_push_of_some _ e)
      rcases List.mem_cons.mp hm with e1 | hm
      · exact absurd (e1 ▸ Heap.lt_size e) (Nat.lt_irrefl _)
      · cases hm)
    have hz : (intItems xs).size = xs.size := by simp [intItems]
    rw [hz, preSum_eq, List.take_of_length_le (by simp), hn]
    exact this
theorem cr_sumQ {X : Cx} (hc : X.calm = true) : CallR X (.builtin "sum") (rSumQ X.K) := by
  intro pins s σ H vs us Q I r h
  obtain ⟨a, ns, rfl, hs | hs, q⟩ := h
  · exact cr_sum hc pins s σ H _ us Q I r ⟨a, ns, rfl, hs, q⟩
  · obtain ⟨its, rv, hl, _⟩ := I.tuple hs
    rw [Vals.ref1 r]
    exact sum_tupRaw (I.ok.hd hc) hl rv.ints fun h' tk t' hk => ⟨.int _, H, I.kept hk, ⟨_, rfl⟩, q⟩
structure BE where
  name : Str
  n : Nat
  k : BK
  g : List D → Option Op
def orG (g g' : List D → Option Op) : List D → Option Op := fun xs => (g xs).orElse fun _ => g' xs
def gStrS : List D → Option Op
  | [.str s] => some (.val (.str s))
  | _ => none
theorem cg_strS {K : PySem.W.Frag} : CallG K (fun xs H Q => ∃ a, xs = [.str a] ∧ Q (.str a) H) gStrS := by
  intro σ G F H δ ds vs o Q rel rs e k
  unfold gStrS at e
  split at e
  · cases e
    obtain ⟨v, rfl, r1⟩ := rs.one
    have hv := r1.str
    subst hv
    exact ⟨_, rfl, k _ F H .refl rel (show Rep K F (.str _) _ from rep_str _)⟩
  · cases e
def bList : List BE := [
  ⟨"len", 1, .fn "len", gLen⟩, ⟨"isinstance", 2, .fn "isinstance", gIsi⟩, ⟨"int", 1, .ty "int", gIntC⟩, ⟨"str", 1, .ty "str", orG gStrC gStrS⟩, ⟨"abs", 1, .fn "abs", gAbs⟩,
  ⟨"max", 2, .fn "max", gMax2⟩, ⟨"min", 2, .fn "min", gMin2⟩, ⟨"max", 1, .fn "max", gExt maxL⟩, ⟨"min", 1, .fn "min", gExt minL⟩, ⟨"divmod", 2, .fn "divmod", gDivmod⟩, ⟨"sum", 1, .fn "sum", gSum⟩,
  ⟨"any", 1, .fn "any", gAny⟩, ⟨"all", 1, .fn "all", gAll⟩, ⟨"list", 1, .ty "list", orG gListC gListT⟩, ⟨"tuple", 1, .ty "tuple", orG gTupC gTupT⟩, ⟨"sorted", 1, .fn "sorted", gSortS⟩]
structure BOk (X : Cx) (b : BE) : Prop where
  ok : ∃ r, CallR X b.k.val r ∧ CallG X.K r b.g
  boot : bootBuiltins b.name = some b.k.val
  nm : b.name ≠ "__name__"
  db : (b.name == ("__debug__" : Str)) = false
theorem bList_ok {X : Cx} (hc : X.calm = true) : ∀ b ∈ bList, BOk X b := by
  intro b hb
  simp only [bList, List.mem_cons, List.not_mem_nil, or_false] at hb
  rcases hb with rfl | rfl | rfl | rfl | rfl | rfl | rfl | rfl | rfl | rfl | rfl | rfl | rfl | rfl | rfl | rfl
  · exact ⟨⟨_, call_len, cg_len⟩, boot_len, by decide, by decide⟩
  · exact ⟨⟨_, call_isi, cg_isi⟩, boot_isinstance, by decide, by decide⟩
  · exact ⟨⟨_, call_int1.or call_int_str, cg_intC⟩, boot_int, by decide, by decide⟩
  · exact ⟨⟨_, call_str_int.or SkE.call_str_str, cg_strC.or cg_strS⟩, boot_str, by decide, by decide⟩
  · exact ⟨⟨_, call_abs, cg_abs⟩, boot_abs, by decide, by decide⟩
  · exact ⟨⟨_, call_max2 hc, cg_II⟩, boot_max, by decide, by decide⟩
  · exact ⟨⟨_, call_min2 hc, cg_II⟩, boot_min, by decide, by decide⟩
  · exact ⟨⟨_, cr_max hc, cg_max⟩, boot_max, by decide, by decide⟩
  · exact ⟨⟨_, cr_min hc, cg_min⟩, boot_min, by decide, by decide⟩
  · exact ⟨⟨_, call_divmod, cg_divmod⟩, boot_divmod, by decide, by decide⟩
  · exact ⟨⟨_, cr_sumQ hc, cg_sum⟩, boot_sum, by decide, by decide⟩
  · exact ⟨⟨_, cr_any hc, cg_bls⟩, boot_any, by decide, by decide⟩
  · exact ⟨⟨_, cr_all hc, cg_bls⟩, boot_all, by decide, by decide⟩
  · exact ⟨⟨_, call_list_of.or (call_list_text hc), cg_listC.or cg_listT⟩, boot_list, by decide, by decide⟩
  · exact ⟨⟨_, call_tuple_of.or (call_tuple_text hc), cg_tupC.or cg_tupT⟩, boot_tuple, by decide, by decide⟩
  · exact ⟨⟨_, cr_sortedS, cg_sortedS⟩, PyProof.Rows.boot_sorted, by decide, by decide⟩
def tyList : List (Str × String) := [("int", "int"), ("str", "str"), ("bool", "bool"), ("list", "list"), ("tuple", "tuple"), ("dict", "dict")]
theorem tyList_ok : ∀ p ∈ tyList, bootBuiltins p.1 = some (.type p.2) ∧ p.1 ≠ "__name__" ∧ (p.1 == ("__debug__" : Str)) = false := by
  intro p hp
  simp only [tyList, List.mem_cons, List.not_mem_nil, or_false] at hp
  rcases hp with rfl | rfl | rfl | rfl | rfl | rfl
  · exact ⟨boot_int, by decide, by decide⟩
  · exact ⟨boot_str, by decide, by decide⟩
  · exact ⟨boot_bool, by decide, by decide⟩
  · exact ⟨boot_list, by decide, by decide⟩
  · exact ⟨boot_tuple, by decide, by decide⟩
  · exact ⟨boot_dict, by decide, by decide⟩
def gCountS : D → List D → Option Op
  | .str a, [.str b] => some (.val (.int (Txt.count ⟨a.toArray⟩ ⟨b.toArray⟩)))
  | _, _ => none
theorem mg_countS {K : PySem.W.Frag} : MtG K (fun x xs H Q => ∃ a b, x = .str a ∧ xs = [.str b] ∧ Q (.int (Txt.count a b)) H) gCountS := by
  intro σ G F H δ d ds v vs o Q rel rd rs e k
  unfold gCountS at e
  split at e
  · cases e
    have hv := rd.str
    subst hv
    obtain ⟨w, rfl, h1⟩ := rs.one
    have hw := h1.str
    subst hw
    exact ⟨_, _, rfl, rfl, k _ F H .refl rel (show Rep K F (.int _) _ from rep_int _)⟩
  · cases e
/-! ### methods by name -/
structure ME where
  name : Str
  n : Nat
  T : String
  id : String
  g : D → List D → Option Op
structure MOk (X : Cx) (m : ME) : Prop where
  pa : PlainAttrs m.T
  slot : PySem.Slot m.T m.name m.id
  ty : typeOf (.builtin m.id) = pure (.type "method_descriptor")
  ok : ∃ r, MtR X m.id r ∧ MtG X.K r m.g
def mList : List ME := [⟨"join", 1, "str", "str.join", gJoin⟩, ⟨"index", 1, "str", "str.index", gIndexS⟩, ⟨"index", 1, "list", "list.index", gIndexL⟩, ⟨"get", 1, "dict", "dict.get", gDGet⟩, ⟨"get", 2, "dict", "dict.get", gDGet2⟩, ⟨"count", 1, "str", "str.count", gCountS⟩]
structure OE where
  name : Str
  n : Nat
  T : String
  id : String
  g : D → List D → Option (Op × D)
structure OOk (X : Cx) (m : OE) : Prop where
  pa : PlainAttrs m.T
  slot : PySem.Slot m.T m.name m.id
  ty : typeOf (.builtin m.id) = pure (.type "method_descriptor")
  ok : ∃ r, MtR X m.id r ∧ MtO X.K r m.g
def oList : List OE := [⟨"append", 1, "list", "list.append", gAppend⟩, ⟨"extend", 1, "list", "list.extend", gExtend⟩, ⟨"pop", 0, "list", "list.pop", gPop⟩]
theorem mList_ok {X : Cx} (hu : X.A.units + 65 < cLine) (hc : X.calm = true) : ∀ m ∈ mList, MOk X m := by
  intro b hb
  simp only [mList, List.mem_cons, List.not_mem_nil, or_false] at hb
  rcases hb with rfl | rfl | rfl | rfl | rfl | rfl
  · exact ⟨PySem.F.plainAttrs_str, PySem.F.slot_str_join, PySem.F.type_str_join, ⟨_, mt_join, mg_join⟩⟩
  · exact ⟨PySem.F.plainAttrs_str, PySem.F.slot_str_index, PySem.F.type_str_index, ⟨_, mt_indexS, mg_indexS⟩⟩
  · exact ⟨PySem.F.plainAttrs_list, PySem.F.slot_list_index, PySem.F.type_list_index, ⟨_, mt_index, mg_indexL⟩⟩
  · exact ⟨PySem.F.plainAttrs_dict, PySem.F.slot_dict_get, PySem.F.type_dict_get, ⟨_, mt_dget (by omega), mg_dget⟩⟩
  · exact ⟨PySem.F.plainAttrs_dict, PySem.F.slot_dict_get, PySem.F.type_dict_get, ⟨_, mt_dget (by omega), mg_dget2⟩⟩
  · exact ⟨PySem.F.plainAttrs_str, PySem.F.slot_str_count, PySem.F.type_str_count, ⟨_, mt_count, mg_countS⟩⟩
theorem oList_ok {X : Cx} : ∀ m ∈ oList, OOk X m := by
  intro b hb
  simp only [oList, List.mem_cons, List.not_mem_nil, or_false] at hb
  rcases hb with rfl | rfl | rfl
  · exact ⟨PySem.F.plainAttrs_list, PySem.F.slot_list_append, PySem.F.type_list_append, ⟨_, mt_append, mo_append⟩⟩
  · exact ⟨PySem.F.plainAttrs_list, PySem.F.slot_list_extend, PySem.F.type_list_extend, ⟨_, mt_extend, mo_extend⟩⟩
  · exact ⟨PySem.F.plainAttrs_list, PySem.F.slot_list_pop, PySem.F.type_list_pop, ⟨_, mt_pop, mo_pop⟩⟩
end Ev
set_option Elab.async false
set_option linter.all false
set_option autoImplicit false
set_option maxRecDepth 100000
set_option maxHeartbeats 4000000
namespace Ev
open PySem PySem.Spec L2
open PyProof.Rows hiding St
open PySem.EvX (fl)
/-! ### raise X(e), X an own error with one field -/
def cRaise (x : Str) (g : Bool) (f : M (List D)) : MS := MS.of f fun ds δ => if ds.length = 1 then .ex (.exn x [fl g] ds) δ else .bad
theorem ds_raise {X : Cx} {x : Str} {g : Bool} {fI : Addr} {a : Expr} {f : M (List D)} {p pos pos2 : Pos} {k : Nat} (hc : X.calm = true) (T : PySem.EvX.XTxt X.K X.mg x g (He.ga X.K x) fI) (hr : Room k X.A) (ha : DA X [a] f) (hg : Gl X x) (hdb : (x == ("__debug__" : Str)) = false) (hs : notStar a = true) :
    DS X (.Raise (some (.Call (.Name x p) [a] [] pos)) none pos2) (cRaise x g f) := by
  refine ⟨fun W tk => PS.weak (ps_raiseX hc T hr tk (ha.run W tk) hg hdb (starEach_cons hs) rfl) fun pins s σ H D I h => ?_⟩
  obtain ⟨G, F, δ, r, h⟩ := h
  refine stA r h fun ds δ1 vs F1 H1 s1 r1 q1 h => ?_
  split at h
  · rename_i hl
    cases ds with
    | nil => cases hl
    | cons d t =>
      cases t with
      | cons _ _ => cases hl
      | nil =>
        obtain ⟨v, rest, rfl, p1, q1⟩ := q1
        unfold RepL at q1
        subst q1
        refine ⟨v, rfl, fun q hq => ?_⟩
        have nF := r1.subF.nn hq
        exact h σ (upd F1 q (.xd [(fl g, v)])) _ _ _ (.upd_new nF) (r1.allocF hq) ⟨rfl, q, [v], rfl, upd_same, .one (Rep.sub (.upd_new nF) _ _ p1)⟩
  · exact h.elim
/-! ### the suite of an except clause: values made of what the error holds -/
section
variable {X' : Cx} {i : Nat} {a dd : Addr} {g : Bool} {v0 : V} {d0 : D}
def tX (K : PySem.W.Frag) (i : Nat) (a dd : Addr) (g : Bool) (v0 : V) (d0 : D) (val : Option D) : TE := fun σ H Q => σ[i]? = some (some (.ref a)) ∧ ∃ G F δ, Rel K G F H σ δ ∧ F dd = some (.xd [(fl g, v0)]) ∧ Rep K F d0 v0 ∧ ∃ d, val = some d ∧ ∀ u F' H', Sb F F' → Rel K G F' H' σ δ → Rep K F' d u → Q u H'
def tXL (K : PySem.W.Frag) (i : Nat) (a dd : Addr) (g : Bool) (v0 : V) (d0 : D) (val : Option (List D)) : TA := fun σ H Q => σ[i]? = some (some (.ref a)) ∧ ∃ G F δ, Rel K G F H σ δ ∧ F dd = some (.xd [(fl g, v0)]) ∧ Rep K F d0 v0 ∧ ∃ d, val = some d ∧ ∀ u F' H', Sb F F' → Rel K G F' H' σ δ → RepL K F' d u → Q u H'
def tXT (K : PySem.W.Frag) (i : Nat) (a dd : Addr) (g : Bool) (v0 : V) (d0 : D) (val : Option Bool) : TT := fun σ H Q => σ[i]? = some (some (.ref a)) ∧ ∃ G F δ, Rel K G F H σ δ ∧ F dd = some (.xd [(fl g, v0)]) ∧ Rep K F d0 v0 ∧ ∃ b, val = some b ∧ ∀ F' H', Sb F F' → Rel K G F' H' σ δ → Q b H'
abbrev DX (X' : Cx) (i : Nat) (a dd : Addr) (g : Bool) (v0 : V) (d0 : D) (e : Expr) (val : Option D) : Prop := PE X' e (tX X'.K i a dd g v0 d0 val)
abbrev DXL (X' : Cx) (i : Nat) (a dd : Addr) (g : Bool) (v0 : V) (d0 : D) (e : List Expr) (val : Option (List D)) : Prop := PA X' e (tXL X'.K i a dd g v0 d0 val)
abbrev DXT (X' : Cx) (i : Nat) (a dd : Addr) (g : Bool) (v0 : V) (d0 : D) (e : Expr) (val : Option Bool) : Prop := PT X' e (tXT X'.K i a dd g v0 d0 val)
theorem dx_of {e : Expr} {f : M Op} {d : D} (h : DE X' e f) (hf : ∀ δ, f δ = .ok (.val d) δ) : DX X' i a dd g v0 d0 e (some d) := by
  refine PE.weak (h.run (fun _ _ _ _ => False) fun u s' z => ?_) fun pins s σ H Q I h => ?_
  · obtain ⟨_, _, _, _, _, _, _, _, _, _, _, _, _, _, _, _, w⟩ := z
    exact w.elim
  · obtain ⟨hi, G, F, δ, r, _, _, d', e1, k⟩ := h
    cases e1
    refine ⟨G, F, δ, r, ?_⟩
    rw [hf]
    exact fun b F' H' s r' q => k b F' H' s r' q
theorem dxl_nil : DXL X' i a dd g v0 d0 [] (some []) := PA.weak pa_nil fun pins s σ H Q I h => by
  obtain ⟨hi, G, F, δ, r, _, _, d', e1, k⟩ := h
  cases e1
  exact k [] F H .refl r .nil
def consO (d : Option D) (ds : Option (List D)) : Option (List D) := match d, ds with
  | some d, some ds => some (d :: ds)
  | _, _ => none
theorem dxl_cons {e : Expr} {es : List Expr} {x : Option D} {xs : Option (List D)} (h1 : DX X' i a dd g v0 d0 e x) (h2 : DXL X' i a dd g v0 d0 es xs) (hs : notStar e = true) : DXL X' i a dd g v0 d0 (e :: es) (consO x xs) :=
  PA.weak (pa_cons h1 h2 (starEach_cons hs)) fun pins s σ H Q I h => by
    obtain ⟨hi, G, F, δ, r, f1, p1, l, e1, k⟩ := h
    unfold consO at e1
    split at e1
    · rename_i d ds
      cases e1
      refine ⟨hi, G, F, δ, r, f1, p1, d, rfl, fun u F1 H1 s1 r1 q1 => ?_⟩
      exact ⟨hi, G, F1, δ, r1, s1 _ _ f1, Rep.sub s1 _ _ p1, ds, rfl, fun us F2 H2 s2 r2 q2 => k (u :: us) F2 H2 (s1.trans s2) r2 (.cons (Rep.sub s2 _ _ q1) q2)⟩
    · cases e1
def lstO (xs : Option (List D)) : Option D := match xs with
  | some l => if fits l.length then some (.lst l) else none
  | none => none
def tupO (xs : Option (List D)) : Option D := match xs with
  | some l => if fits l.length then some (.tup l) else none
  | none => none
theorem dx_lst {es : List Expr} {xs : Option (List D)} {pos : Pos} (h : DXL X' i a dd g v0 d0 es xs) : DX X' i a dd g v0 d0 (.List es pos) (lstO xs) :=
  PE.weak (pe_lst h) fun pins s σ H Q I h => by
    obtain ⟨hi, G, F, δ, r, f1, p1, d, e1, k⟩ := h
    unfold lstO at e1
    split at e1
    · rename_i l
      split at e1
      · rename_i hf
        cases e1
        refine ⟨hi, G, F, δ, r, f1, p1, l, rfl, fun us F1 H1 s1 r1 q1 => ⟨by rw [q1.length]; exact fits_le hf, fun q hq => ?_⟩⟩
        have nF := r1.subF.nn hq
        refine k _ (upd F1 q (.lst us)) _ (s1.trans (.upd_new nF)) (r1.allocF hq) ?_
        show Rep X'.K _ (.lst l) _
        unfold Rep
        exact ⟨q, us, rfl, upd_same, RepL.sub (.upd_new nF) _ _ q1⟩
      · cases e1
    · cases e1
theorem dx_tup {es : List Expr} {xs : Option (List D)} {pos : Pos} {kk : Nat} (h : DXL X' i a dd g v0 d0 es xs) : DX X' i a dd g v0 d0 (.Tuple es kk pos) (tupO xs) :=
  PE.weak (pe_tup h) fun pins s σ H Q I h => by
    obtain ⟨hi, G, F, δ, r, f1, p1, d, e1, k⟩ := h
    unfold tupO at e1
    split at e1
    · rename_i l
      split at e1
      · rename_i hf
        cases e1
        refine ⟨hi, G, F, δ, r, f1, p1, l, rfl, fun us F1 H1 s1 r1 q1 => ⟨by rw [q1.length]; exact fits_le hf, fun q hq => ?_⟩⟩
        have nF := r1.subF.nn hq
        refine k _ (upd F1 q (.tup us)) _ (s1.trans (.upd_new nF)) (r1.allocF hq) ?_
        show Rep X'.K _ (.tup l) _
        unfold Rep
        exact ⟨q, us, rfl, upd_same, RepL.sub (.upd_new nF) _ _ q1⟩
      · cases e1
    · cases e1
def ifO (c : Option Bool) (x y : Option D) : Option D := match c with
  | some true => x
  | some false => y
  | none => none
theorem dx_if {c e1 e2 : Expr} {b : Option Bool} {x y : Option D} {pos : Pos} (hc : DXT X' i a dd g v0 d0 c b) (h1 : DX X' i a dd g v0 d0 e1 x) (h2 : DX X' i a dd g v0 d0 e2 y) : DX X' i a dd g v0 d0 (.IfExp c e1 e2 pos) (ifO b x y) :=
  PE.weak (pe_ifExp hc h1 h2) fun pins s σ H Q I h => by
    obtain ⟨hi, G, F, δ, r, f1, p1, d, e1, k⟩ := h
    unfold ifO at e1
    split at e1
    · refine ⟨hi, G, F, δ, r, f1, p1, true, rfl, fun F1 H1 s1 r1 => ?_⟩
      exact ⟨hi, G, F1, δ, r1, s1 _ _ f1, Rep.sub s1 _ _ p1, d, e1, fun u F2 H2 s2 r2 q2 => k u F2 H2 (s1.trans s2) r2 q2⟩
    · refine ⟨hi, G, F, δ, r, f1, p1, false, rfl, fun F1 H1 s1 r1 => ?_⟩
      exact ⟨hi, G, F1, δ, r1, s1 _ _ f1, Rep.sub s1 _ _ p1, d, e1, fun u F2 H2 s2 r2 q2 => k u F2 H2 (s1.trans s2) r2 q2⟩
    · cases e1
end
section
variable {X : Cx} {i : Nat} {a dd : Addr} {g : Bool} {v0 : V} {d0 : D} {oe : Obj} {pn : List (Addr × Obj)} {x n : Str} {fI : Addr} {cls : Value} {d : Option Addr}
/-- e.given -/
theorem dx_fld {p pos : Pos} (T : PySem.EvX.XTxt X.K X.mg x g (He.ga X.K x) fI) (hz : Zc (.ref (He.ga X.K x)) (some dd) oe) (hf : ∃ vs, oe.data = .fields vs) (hi : X.N[i]? = some n) (hv : Vis X.env.scope n) (h1 : (n == ("__debug__" : Str)) = false) (h2 : (n == ("__classdict__" : Str)) = false)
    (hb : attributeBase (.Name n p) (fl g) X.env (eval (.Name n p) X.env) = eval (.Name n p) X.env) : DX (X.suite a ((a, oe) :: pn)) i a dd g v0 d0 (.Attribute (.Name n p) (fl g) pos) (some d0) :=
  PE.weak (pe_byX T hz hf (pe_var hi hv h1 h2) hb) fun pins s σ H Q I h => by
    obtain ⟨e0, G, F, δ, r, f1, p1, d, e1, k⟩ := h
    cases e1
    exact ⟨_, e0, rfl, rfl, dd, v0, rfl, r.subF _ _ f1, k v0 F H .refl r p1⟩
/-- isinstance(e, Y), Y an own class -/
theorem dxt_isi {y : Str} {b : Bool} {p p2 p3 pos : Pos} (C : ExcC X.K (He.ga X.K x)) (hz : Zc (.ref (He.ga X.K x)) (some dd) oe) (hf : ∃ vs, oe.data = .fields vs) (hi : X.N[i]? = some n) (hv : Vis X.env.scope n) (h1 : (n == ("__debug__" : Str)) = false) (h2 : (n == ("__classdict__" : Str)) = false)
    (hg : Gl X "isinstance") (hm : X.mg "isinstance" = none) (gy : Gl X y) (my : X.mg y = some (.ref (He.ga X.K y))) (hy : (y == ("__debug__" : Str)) = false) (hk : PySem.W.kitOne X.K (.ref (He.ga X.K x)) (.ref (He.ga X.K y)) = some b) :
    DXT (X.suite a ((a, oe) :: pn)) i a dd g v0 d0 (.Call (.Name "isinstance" p) [.Name n p2, .Name y p3] [] pos) (some b) := by
  have hy2 : PE (X.suite a ((a, oe) :: pn)) (.Name y p3) (tC (.ref (He.ga X.K y))) := pe_glob gy my rfl hy
  have hn2 : PE (X.suite a ((a, oe) :: pn)) (.Name n p2) (tVar i) := pe_var hi hv h1 h2
  refine PT.weak (pt_truth (pe_callB (call_isX C hz hf) hg hm boot_isinstance (pa_cons hn2 (pa_cons hy2 pa_nil))) (fun whole => rfl)) fun pins s σ H Q I h => ?_
  obtain ⟨e0, G, F, δ, r, f1, p1, b', e1, k⟩ := h
  cases e1
  refine ⟨_, e0, V.ref (He.ga X.K y), _, b, dd, _, rfl, fun u ru => ru, hk, rfl, r.subF _ _ f1, b, ?_, k F H .refl r⟩
  exact rfl
theorem dxt_not {X' : Cx} {e : Expr} {b : Option Bool} {pos : Pos} (h : DXT X' i a dd g v0 d0 e b) : DXT X' i a dd g v0 d0 (.UnaryOp .Not e pos) (b.map (!·)) :=
  PT.weak (pt_not h) fun pins s σ H Q I h => by
    obtain ⟨e0, G, F, δ, r, f1, p1, b', e1, k⟩ := h
    cases b with
    | none => cases e1
    | some c =>
      cases e1
      exact ⟨e0, G, F, δ, r, f1, p1, c, rfl, fun F1 H1 s1 r1 => k F1 H1 s1 r1⟩
end
end Ev
set_option Elab.async false
set_option linter.all false
set_option autoImplicit false
set_option maxRecDepth 100000
set_option maxHeartbeats 4000000
namespace Ev
open PySem PySem.Spec L2
open PyProof.Rows hiding St
open PySem.EvX (fl)
theorem Rel.over {K : PySem.W.Frag} {G : GP} {F H : Hp} {σ : St} {δ : EnvS} (r : Rel K G F H σ δ) {i : Nat} (hi : ∀ s, δ[i]? = some s → s = .none) (w : Option V) : Rel K G F H (σ.set i w) δ := by
  have ne : ∀ {j : Nat} {s : Slot}, δ[j]? = some s → s ≠ .none → (σ.set i w)[j]? = σ[j]? := fun {j s} e n => by
    by_cases h : i = j
    · subst h; exact absurd (hi s e) n
    · exact List.getElem?_set_ne h
  refine ⟨r.subF, r.subG, r.disj, fun j s e => ?_, fun j k s t b e1 o1 e2 o2 z1 z2 => ?_, by rw [List.length_set]; exact r.len, fun j x e => ?_⟩
  · cases s with
    | none => trivial
    | val d =>
      have q := r.slot j _ e
      unfold SlotOk at q ⊢
      rw [ne e (fun z => nomatch z)]
      exact q
    | own io d =>
      have q := r.slot j _ e
      unfold SlotOk at q ⊢
      rw [ne e (fun z => nomatch z)]
      exact q
  · have n1 : s ≠ .none := fun z => by subst z; cases o1
    have n2 : t ≠ .none := fun z => by subst z; cases o2
    rw [ne e1 n1] at z1
    rw [ne e2 n2] at z2
    exact r.inj j k s t b e1 o1 e2 o2 z1 z2
  · obtain ⟨b, z, p⟩ := r.pin j x e
    exact ⟨b, by rw [ne e (fun z => nomatch z)]; exact z, p⟩
/-- the error's class, its field, what it holds -/
def excOf (xt : List (Str × Bool)) : D → Option (Str × Bool × D)
  | .exn x ns [d] => match xt.find? fun p => decide (p.1 = x) with
    | some p => if decide (ns = [fl p.2]) then some (p.1, p.2, d) else none
    | none => none
  | _ => none
theorem excOf_some {xt : List (Str × Bool)} {e : D} {x : Str} {g : Bool} {d : D} (h : excOf xt e = some (x, g, d)) : (x, g) ∈ xt ∧ e = .exn x [fl g] [d] := by
  unfold excOf at h
  split at h
  · rename_i x' ns d'
    split at h
    · rename_i p e1
      split at h
      · rename_i hn
        cases h
        have m := List.mem_of_find?_eq_some e1
        have n' := List.find?_some e1
        have n' : p.1 = x' := of_decide_eq_true n'
        have hn := of_decide_eq_true hn
        subst n' hn
        exact ⟨m, rfl⟩
      · cases h
    · cases h
  · cases h
def cTry (fb : MS) (xt : List (Str × Bool)) (ct : Str → Bool) (i : Nat) (su : Str → Bool → D → MS) : MS := fun δ => match fb δ with
  | .ex e δ1 => (match excOf xt e with
    | some (x, g, d) => if ct x then (if decide (i < δ1.length) then su x g d (δ1.set i .none) else .bad) else .ex e δ1
    | none => .bad)
  | r => r
def suSet (j : Nat) (val : Str → Bool → D → Option D) : Str → Bool → D → MS := fun x g d0 δ => match val x g d0 with
  | some d => .nx (δ.set j (.val d))
  | none => .bad
def suRet (val : Str → Bool → D → Option D) : Str → Bool → D → MS := fun x g d0 δ => match val x g d0 with
  | some d => .rt (.val d) δ
  | none => .bad
abbrev ValOk (X : Cx) (xt : List (Str × Bool)) (i : Nat) (e : Expr) (val : Str → Bool → D → Option D) : Prop :=
  ∀ (x : Str) (g : Bool), (x, g) ∈ xt → ∀ (a dd : Addr) (oe : Obj) (pn : List (Addr × Obj)) (v0 : V) (d0 : D), Zc (.ref (He.ga X.K x)) (some dd) oe → (∃ vs, oe.data = .fields vs) → DX (X.suite a ((a, oe) :: pn)) i a dd g v0 d0 e (val x g d0)
section
variable {X : Cx} {xt : List (Str × Bool)} {ct : Str → Bool} {i j : Nat} {y n t : Str} {body : List Stmt} {fb : MS} {e : Expr} {val : Str → Bool → D → Option D} {np tp ap pos' pos : Pos}
theorem exRep_of {F : Hp} {x : Str} {g : Bool} {d0 : D} {cls : Value} {d : Option Addr} (h : ExRep X.K F (.exn x [fl g] [d0]) cls d) : cls = .ref (He.ga X.K x) ∧ ∃ ad v0, d = some ad ∧ F ad = some (.xd [(fl g, v0)]) ∧ Rep X.K F d0 v0 := by
  obtain ⟨h1, ad, vs, h2, h3, h4⟩ := h
  unfold RepL at h4
  obtain ⟨v, r, rfl, p, q⟩ := h4
  unfold RepL at q
  subst q
  exact ⟨h1, ad, v, h2, h3, p⟩
theorem set_none {δ : EnvS} : ∀ s, (δ.set i Slot.none)[i]? = some s → s = .none := fun s e => by
  by_cases h : i < δ.length
  · rw [List.getElem?_set_self h] at e
    cases e; rfl
  · have := (List.getElem?_eq_some_iff.mp e).1
    rw [List.length_set] at this
    exact absurd this h
theorem ds_trySet (hs : X.stack = X.env :: X.outer) (hfr : X.env.frame = some X.env.locals) (hN : X.N.Nodup) (hi : X.N[i]? = some n) (hln : X.env.kindOf n = some .local) (gy : Gl X y) (dy : (y == ("__debug__" : Str)) = false) (my : X.mg y = some (.ref (He.ga X.K y)))
    (hex : ∀ x g, (x, g) ∈ xt → PySem.W.exmOne X.K (.ref (He.ga X.K x)) (.ref (He.ga X.K y)) = some (ct x))
    (hb : ∀ pn xe, PassesOwn (model X.prog X.w) X.A X.env xe → DSs (X.tr pn xe) body fb) (hj : X.N[j]? = some t) (hlo : Loc X.env.scope t) (hlt : X.fn t = true ∨ X.env.scope.names.lookup t = some .local) (hij : i ≠ j) (hsw : swapsWith e (some (.Name t tp)) ap.line X.env = pure false) (hval : ValOk X xt i e val) :
    DS X (.Try body [.ExceptHandler (some (.Name y np)) (some n) [.Assign [.Name t tp] e ap] pos'] [] [] pos) (cTry fb xt ct i (suSet j val)) := by
  refine ⟨fun W tk => PS.weak (ps_try_as (i := i) (tb := fun W' => tS X.K fb W') (ts := fun a cls d D σ H => ∃ x g dd v0 d0, (x, g) ∈ xt ∧ cls = .ref (He.ga X.K x) ∧ d = some dd ∧ tX X.K i a dd g v0 d0 (val x g d0) σ H fun u H' => D.nx (σ.set j (some u)) H') hs hfr hN hi hln ⟨gy, dy, .inl my⟩ tk (fun W' pn xe tk' po => (hb pn xe po).run W' tk')
    (fun a oe cls d pn hz hf' => ⟨fun pins s σ H D I h => ?_⟩)) fun pins s σ H D I h => ?_⟩
  · obtain ⟨x, g, dd, v0, d0, hm, rfl, rfl, hX⟩ := h
    exact (pss_one (ps_set (X := X.suite a ((a, oe) :: pn)) hN hj hlo (hval x g hm a dd oe pn v0 d0 hz hf') hsw hlt)).run pins s σ H D I hX
  · obtain ⟨G, F, δ, r, h⟩ := h
    refine ⟨G, F, δ, r, ?_⟩
    unfold cTry at h
    cases e0 : fb δ with
    | bad => rw [e0] at h; exact h.elim
    | nx δ1 => rw [e0] at h; exact h
    | rt o δ1 => rw [e0] at h; exact h
    | bk δ1 => rw [e0] at h; exact h
    | ct δ1 => rw [e0] at h; exact h
    | ex ed δ1 =>
      rw [e0] at h
      intro σ' F' H' cls d s' r' xr
      cases e2 : excOf xt ed with
      | none => simp only [e2] at h; exact h.elim
      | some q =>
        obtain ⟨x, g, d0⟩ := q
        simp only [e2] at h
        obtain ⟨hm, rfl⟩ := excOf_some e2
        obtain ⟨rfl, ad, v0, rfl, fa, p0⟩ := exRep_of xr
        refine ⟨ct x, hex x g hm, fun hb a na => ?_, fun hb => ?_⟩
        · rw [if_pos hb] at h
          split at h
          · rename_i hlt0
            have hlt0 := of_decide_eq_true hlt0
            have r2 : Rel X.K G F' H' (σ'.set i (some (.ref a))) (δ1.set i .none) := (show Rel X.K G F' H' σ' (δ1.set i .none) from r'.wipe [i]).over set_none _
            refine ⟨x, g, ad, v0, d0, hm, rfl, rfl, List.getElem?_set_self (by rw [← r'.len]; exact hlt0), G, F', δ1.set i .none, r2, fa, p0, ?_⟩
            unfold suSet at h
            cases ev : val x g d0 with
            | none => simp only [ev] at h; exact h.elim
            | some dv =>
              simp only [ev] at h
              refine ⟨dv, rfl, fun u F2 H2 s2 r3 q2 => h _ F2 H2 (s'.trans s2) ((r3.setVal q2).over (fun s e3 => ?_) none)⟩
              rw [List.getElem?_set_ne (Ne.symm hij)] at e3
              exact set_none s e3
          · exact h.elim
        · rw [if_neg (by rw [hb]; exact Bool.false_ne_true)] at h
          exact h σ' F' H' _ _ s' r' xr
theorem ds_tryRet (hs : X.stack = X.env :: X.outer) (hfr : X.env.frame = some X.env.locals) (hN : X.N.Nodup) (hi : X.N[i]? = some n) (hln : X.env.kindOf n = some .local) (gy : Gl X y) (dy : (y == ("__debug__" : Str)) = false) (my : X.mg y = some (.ref (He.ga X.K y)))
    (hex : ∀ x g, (x, g) ∈ xt → PySem.W.exmOne X.K (.ref (He.ga X.K x)) (.ref (He.ga X.K y)) = some (ct x))
    (hb : ∀ pn xe, PassesOwn (model X.prog X.w) X.A X.env xe → DSs (X.tr pn xe) body fb) (hval : ValOk X xt i e val) :
    DS X (.Try body [.ExceptHandler (some (.Name y np)) (some n) [.Return (some e) ap] pos'] [] [] pos) (cTry fb xt ct i (suRet val)) := by
  refine ⟨fun W tk => PS.weak (ps_try_as (i := i) (tb := fun W' => tS X.K fb W') (ts := fun a cls d D σ H => ∃ x g dd v0 d0, (x, g) ∈ xt ∧ cls = .ref (He.ga X.K x) ∧ d = some dd ∧ tX X.K i a dd g v0 d0 (val x g d0) σ H D.rt) hs hfr hN hi hln ⟨gy, dy, .inl my⟩ tk (fun W' pn xe tk' po => (hb pn xe po).run W' tk')
    (fun a oe cls d pn hz hf' => ⟨fun pins s σ H D I h => ?_⟩)) fun pins s σ H D I h => ?_⟩
  · obtain ⟨x, g, dd, v0, d0, hm, rfl, rfl, hX⟩ := h
    exact (pss_one (ps_ret (hval x g hm a dd oe pn v0 d0 hz hf'))).run pins s σ H D I hX
  · obtain ⟨G, F, δ, r, h⟩ := h
    refine ⟨G, F, δ, r, ?_⟩
    unfold cTry at h
    cases e0 : fb δ with
    | bad => rw [e0] at h; exact h.elim
    | nx δ1 => rw [e0] at h; exact h
    | rt o δ1 => rw [e0] at h; exact h
    | bk δ1 => rw [e0] at h; exact h
    | ct δ1 => rw [e0] at h; exact h
    | ex ed δ1 =>
      rw [e0] at h
      intro σ' F' H' cls d s' r' xr
      cases e2 : excOf xt ed with
      | none => simp only [e2] at h; exact h.elim
      | some q =>
        obtain ⟨x, g, d0⟩ := q
        simp only [e2] at h
        obtain ⟨hm, rfl⟩ := excOf_some e2
        obtain ⟨rfl, ad, v0, rfl, fa, p0⟩ := exRep_of xr
        refine ⟨ct x, hex x g hm, fun hb a na => ?_, fun hb => ?_⟩
        · rw [if_pos hb] at h
          split at h
          · rename_i hlt0
            have hlt0 := of_decide_eq_true hlt0
            have r2 : Rel X.K G F' H' (σ'.set i (some (.ref a))) (δ1.set i .none) := (show Rel X.K G F' H' σ' (δ1.set i .none) from r'.wipe [i]).over set_none _
            refine ⟨x, g, ad, v0, d0, hm, rfl, rfl, List.getElem?_set_self (by rw [← r'.len]; exact hlt0), G, F', δ1.set i .none, r2, fa, p0, ?_⟩
            unfold suRet at h
            cases ev : val x g d0 with
            | none => simp only [ev] at h; exact h.elim
            | some dv =>
              simp only [ev] at h
              exact ⟨dv, rfl, fun u F2 H2 s2 r3 q2 => h u _ F2 H2 (s'.trans s2) r3 q2⟩
          · exact h.elim
        · rw [if_neg (by rw [hb]; exact Bool.false_ne_true)] at h
          exact h σ' F' H' _ _ s' r' xr
end
end Ev
set_option Elab.async false
set_option linter.all false
set_option autoImplicit false
set_option maxRecDepth 100000
set_option maxHeartbeats 4000000
namespace Ev
open PySem PySem.Spec L2
open PyProof.Rows hiding St
/-! ### {k: v, ..} -/
def cPairs : List (M Op × M Op) → M (List (D × D))
  | [] => mOk []
  | (f, g) :: r => M.bind f fun o => M.bind (esc o) fun k => M.bind g fun o => M.bind (esc o) fun v => M.bind (cPairs r) fun l => mOk ((k, v) :: l)
def nodupK (l : List Key) : Bool := match l with
  | [] => true
  | k :: l => !(l.any fun k' => decide (k' = k)) && nodupK l
def cDisp (fs : List (M Op × M Op)) : M Op := M.bind (cPairs fs) fun l δ => match keysD (l.map (·.1)) with
  | some kk => if nodupK kk && decide (l.length ≤ 15) then .ok (.fresh (.dic false (l.map (·.1)) (l.map (·.2)))) δ else .bad
  | none => .bad
def trsOf (K : PySem.W.Frag) (W : WX) (fs : List (M Op × M Op)) : List (TE × TE) := fs.map fun p => (tE K p.1 W, tE K p.2 W)
def PR (K : PySem.W.Frag) (F : Hp) (l : List (D × D)) (ps : List (V × V)) : Prop := RepL K F (l.map (·.1)) (ps.map (·.1)) ∧ RepL K F (l.map (·.2)) (ps.map (·.2))
theorem PR.sub {K : PySem.W.Frag} {F F' : Hp} {l : List (D × D)} {ps : List (V × V)} (s : Sb F F') (h : PR K F l ps) : PR K F' l ps := ⟨RepL.sub s _ _ h.1, RepL.sub s _ _ h.2⟩
theorem tPairs_ok {α β : Type} {K : PySem.W.Frag} {W : WX} : ∀ (fs : List (M Op × M Op)) {G G' : GP} {F H : Hp} {σ : St} {δ : EnvS} {g : List (D × D) → M α} {VR : Hp → Hp → EnvS → α → β → Prop} {Q : β → Hp → Prop} {P : List (V × V) → Hp → Prop}
    (_ : Rel K G' F H σ δ) (_ : SbG G G') (_ : Sat K G F σ W (M.bind (cPairs fs) g δ) VR Q)
    (_ : ∀ l δ1 ps F1 H1, Sb F F1 → Rel K G' F1 H1 σ δ1 → PR K F1 l ps → Sat K G F1 σ W (g l δ1) VR Q → P ps H1), tPairs (trsOf K W fs) σ H P
  | [], G, G', F, H, σ, δ, g, VR, Q, P, r, sG, h, k => k [] δ [] F H .refl r ⟨.nil, .nil⟩ h
  | (f, f2) :: fs, G, G', F, H, σ, δ, g, VR, Q, P, r, sG, h, k => by
    have h : Sat K G F σ W (M.bind f (fun o => M.bind (esc o) fun kd => M.bind f2 fun o => M.bind (esc o) fun v => M.bind (cPairs fs) fun l => g ((kd, v) :: l)) δ) VR Q := by
      unfold cPairs at h
      unfold M.bind at h ⊢
      dsimp only at h ⊢
      cases e1 : f δ with
      | bad => rw [e1] at h; exact h
      | ex x δ' => rw [e1] at h; exact h
      | ok o δ1 =>
        rw [e1] at h
        dsimp only at h ⊢
        cases e2 : esc o δ1 with
        | bad => rw [e2] at h; exact h
        | ex x δ' => rw [e2] at h; exact h
        | ok kd δ2 =>
          rw [e2] at h
          dsimp only at h ⊢
          cases e3 : f2 δ2 with
          | bad => rw [e3] at h; exact h
          | ex x δ' => rw [e3] at h; exact h
          | ok o2 δ3 =>
            rw [e3] at h
            dsimp only at h ⊢
            cases e4 : esc o2 δ3 with
            | bad => rw [e4] at h; exact h
            | ex x δ' => rw [e4] at h; exact h
            | ok v δ4 =>
              rw [e4] at h
              dsimp only at h ⊢
              cases e5 : cPairs fs δ4 with
              | bad => rw [e5] at h; exact h
              | ex x δ' => rw [e5] at h; exact h
              | ok l δ5 => rw [e5] at h; exact h
    refine bindE r sG h fun o δ1 v1 F1 H1 s1 r1 q1 h => ?_
    obtain ⟨kd, F2, δ2, s2, r2, p2, h⟩ := escE r1 q1 h
    refine bindE r2 sG h fun o2 δ3 v2 F3 H3 s3 r3 q3 h => ?_
    obtain ⟨vd, F4, δ4, s4, r4, p4, h⟩ := escE r3 q3 h
    refine tPairs_ok fs r4 sG h fun l δ5 ps F5 H5 s5 r5 pr h => ?_
    exact k ((kd, vd) :: l) δ5 ((v1, v2) :: ps) F5 H5 (s1.trans (s2.trans (s3.trans (s4.trans s5)))) r5 ⟨.cons (Rep.sub (s3.trans (s4.trans s5)) _ _ p2) pr.1, .cons (Rep.sub s5 _ _ p4) pr.2⟩ h
theorem nodupK_merge : ∀ (kk : List Key) (vs : List V) (acc : List (Key × V)), kk.length = vs.length → nodupK kk = true → (∀ k ∈ kk, valV acc k = none) → mergeK acc (kk.zip vs) = acc ++ kk.zip vs
  | [], vs, acc, _, _, _ => by simp [mergeK]
  | k :: kk, [], acc, hl, _, _ => by simp at hl
  | k :: kk, v :: vs, acc, hl, hn, hd => by
    unfold nodupK at hn
    rw [Bool.and_eq_true] at hn
    have hk : ∀ k' ∈ kk, k' ≠ k := fun k' m z => by
      have : (kk.any fun k' => decide (k' = k)) = true := List.any_eq_true.mpr ⟨k', m, by simp [z]⟩
      rw [this] at hn
      exact absurd hn.1 (by simp)
    have e : putK acc k v = acc ++ [(k, v)] := putK_new v (hd k List.mem_cons_self)
    show mergeK (putK acc k v) (kk.zip vs) = _
    rw [e, nodupK_merge kk vs (acc ++ [(k, v)]) (by simpa using hl) hn.2 (fun k' m => ?_)]
    · simp
    · have h1 := hd k' (List.mem_cons_of_mem _ m)
      unfold valV at h1 ⊢
      rw [List.find?_append]
      have h2 : List.find? (fun kv : Key × V => decide (kv.1 = k')) acc = none := by
        cases z : List.find? (fun kv : Key × V => decide (kv.1 = k')) acc with
        | none => rfl
        | some w => rw [z] at h1; cases h1
      rw [h2]
      have : List.find? (fun kv : Key × V => decide (kv.1 = k')) [(k, v)] = none := by
        simp
        exact fun z => hk k' m z.symm
      rw [this]
      rfl
section
variable {X : Cx} {pos : Pos}
structure DPs (X : Cx) (pos : Pos) (keys : List (Option Expr)) (values : List Expr) (fs : List (M Op × M Op)) : Prop where
  run : ∀ W, Takes X W → PPs X pos keys values (trsOf X.K W fs)
theorem dps_nil : DPs X pos [] [] [] := ⟨fun _ _ => pps_nil⟩
theorem dps_cons {k v : Expr} {ks : List (Option Expr)} {vs : List Expr} {f g : M Op} {fs : List (M Op × M Op)} (hk : DE X k f) (hv : DE X v g) (hr : DPs X pos ks vs fs) : DPs X pos (some k :: ks) (v :: vs) ((f, g) :: fs) :=
  ⟨fun W tk => pps_cons (hk.run W tk) (hv.run W tk) (hr.run W tk)⟩
theorem de_disp {keys : List (Option Expr)} {values : List Expr} {fs : List (M Op × M Op)} (h : DPs X pos keys values fs) (hall : keys.all (·.isSome) = true) (hl : keys.length = values.length) (h0 : keys ≠ []) (h15 : keys.length ≤ 15) : DE X (.Dict keys values pos) (cDisp fs) := by
  refine ⟨fun W tk => PE.weak (pe_disp (h.run W tk) hall hl h0 h15) fun pins s σ H Q I h => ?_⟩
  obtain ⟨G, F, δ, r, h⟩ := h
  intro p hp
  have nF := r.subF.nn hp
  have nG := r.subG.nn hp
  have no : ¬ OwnAt σ δ p := r.not_own (o := .lst []) (.inr (.inr hp))
  have r0 : Rel X.K (G.put p (.dK [])) F (upd H p (.dK [])) σ δ := (r.alloc hp).moreG upd_same nF no
  refine tPairs_ok fs r0 (.upd_new nG) h fun l δ1 ps F1 H1 s1 r1 pr h => ?_
  have ep : H1 p = some (.dK []) := r1.subG p _ upd_same
  cases ek : keysD (l.map (·.1)) with
  | none => simp only [ek] at h; exact h.elim
  | some kk =>
    simp only [ek] at h
    split at h
    · rename_i hc
      rw [Bool.and_eq_true] at hc
      have h15' := of_decide_eq_true hc.2
      have e1 := keysD_rep pr.1 ek
      have hlen : kk.length = (ps.map (·.2)).length := by
        have := congrArg List.length e1
        simpa using this.symm
      have lps : l.length = ps.length := by
        have := pr.1.length
        simpa using this.symm
      refine ⟨ep, kk.zip (ps.map (·.2)), ?_, ?_, ?_⟩
      · apply List.ext_getElem
        · simp at hlen ⊢; omega
        · intro i h1 h2
          have hi : i < ps.length := h1
          have hk : i < kk.length := by simp at hlen; omega
          have : (ps.map (·.1))[i]'(by simpa using hi) = (kk.map kV)[i]'(by simpa using hk) := by simp only [e1]
          simp only [List.getElem_map, List.getElem_zip] at this ⊢
          rw [← this]
      · simp at hlen ⊢; omega
      · have nF1 : F1 p = none := r1.disj p _ upd_same
        have r2 := r1.lessG (.upd_new nG)
        have no1 : ¬ OwnAt σ δ1 p := r1.not_own (.inr (.inl upd_same))
        rw [nodupK_merge kk _ [] hlen hc.1 (fun k _ => rfl), List.nil_append]
        have r3 : Rel X.K G F1 (upd H1 p (.dK (kk.zip (ps.map (·.2))))) σ δ1 := by
          refine r2.move .refl (fun a o e => ?_) (fun a o e => ?_) r2.disj fun a q => ?_
          · have : a ≠ p := fun z => by subst z; rw [nF1] at e; cases e
            rw [upd_ne this]; exact r2.subF a o e
          · have : a ≠ p := fun z => by subst z; rw [nG] at e; cases e
            rw [upd_ne this]; exact r2.subG a o e
          · obtain ⟨f1, g1, _⟩ := r2.own_of q
            exact ⟨f1, g1, upd_ne fun z => no1 (z ▸ q)⟩
        refine h _ F1 _ .refl r3 ⟨p, rfl, nF1, nG, ⟨ps.map (·.2), _, upd_same, ?_, pr.2⟩, no1⟩
        show (keysD (l.map (·.1))).map (fun z => HO.dK (z.zip (ps.map (·.2)))) = _
        rw [ek]
        rfl
    · exact h.elim
end
end Ev
set_option Elab.async false
set_option linter.all false
set_option autoImplicit false
set_option maxRecDepth 100000
set_option maxHeartbeats 4000000
namespace Ev
open PySem PySem.Spec L2
open PyProof.Rows hiding St
/-! ### what is known at a place of the text -/
/-- own errors: what is said of their classes (x with the field given or index), under the class top -/
structure XFacts (K : PySem.W.Frag) (mg : Str → Option Value) (xt : List (Str × Bool)) (top : Str) : Prop where
  tx : ∀ x g, (x, g) ∈ xt → ∃ fI, PySem.EvX.XTxt K mg x g (He.ga K x) fI
  cl : ∀ x g, (x, g) ∈ xt → ExcC K (He.ga K x)
  mg : ∀ y, (y = top ∨ ∃ g, (y, g) ∈ xt) → xt ≠ [] → mg y = some (.ref (He.ga K y))
  ex : ∀ x g, (x, g) ∈ xt → ∀ y, (y = top ∨ ∃ g, (y, g) ∈ xt) → PySem.W.exmOne K (.ref (He.ga K x)) (.ref (He.ga K y)) = some (decide (x = y) || decide (y = top))
  kt : ∀ x g, (x, g) ∈ xt → ∀ y, (y = top ∨ ∃ g, (y, g) ∈ xt) → PySem.W.kitOne K (.ref (He.ga K x)) (.ref (He.ga K y)) = some (decide (x = y) || decide (y = top))
theorem XFacts.nil {K : PySem.W.Frag} {mg : Str → Option Value} {top : Str} : XFacts K mg [] top := ⟨fun _ _ h => (nomatch h), fun _ _ h => (nomatch h), fun _ _ h => absurd rfl h, fun _ _ h => (nomatch h), fun _ _ h => (nomatch h)⟩
structure FI where
  ps : List Str
  ios : List Bool
  kws : List (List Str × Nat × List Nat)
  fn : M Op
structure Ctx where
  N : List Str
  sc : Scope
  blk : Bool
  cel : List Str
  hint : Nat → Bool
  wh : Nat
  F : Str → Option FI
  free : List Str
  cst : List (Str × D)
  xt : List (Str × Bool)
  top : Str
structure FOk (X : Cx) (x : Str) (fi : FI) : Prop where
  ex : ∃ (k : Nat) (f : Addr) (fd : FuncData), FnOk X.prog X.w X.K X.mg X.base (L2.CX X.prog X.w) k f fd fi.ps (SpF X.K fi.ps.length fi.fn) ∧ Room k X.A ∧ X.mg x = some (.ref f) ∧ PySem.W.keepIn X.K (.ref f) = true ∧ Binds X.K fd fi.ps [] ∧
    ∀ p ∈ fi.kws, KBinds X.K fd fi.ps p.1 (gP p.2.1 p.1.length p.2.2) (gP p.2.1 p.1.length p.2.2)
  np : ∀ sl o sl', fi.fn sl = .ok o sl' → notPlace o = true
structure Good (X : Cx) (c : Ctx) : Prop where
  N : X.N = c.N
  nd : X.N.Nodup
  calm : X.calm = true
  sc : X.env.scope = c.sc
  un : X.A.units + 65 < cLine
  kind : c.sc.kind = .function
  fnb : c.blk = false → ∀ x, X.fn x = true
  fnc : ∀ x ∈ c.cel, X.fn x = true
  pass : c.blk = false → PassesOwn (model X.prog X.w) X.A X.env X.xe
  free : ∀ x ∈ c.free, X.mg x = none
  cst : ∀ p ∈ c.cst, ∃ u v, X.mg p.1 = some u ∧ RelV v u ∧ ∀ F, Rep X.K F p.2 v
  F : ∀ x fi, c.F x = some fi → FOk X x fi
  xf : XFacts X.K X.mg c.xt c.top
  rm : ∃ k, Room k X.A
  st : c.blk = false → X.stack = X.env :: X.outer ∧ X.env.frame = some X.env.locals
/-! #### names -/
def ixOf (N : List Str) (x : Str) : Option Nat := (List.range N.length).find? fun i => decide (N[i]? = some x)
theorem ixOf_some {N : List Str} {x : Str} {i : Nat} (h : ixOf N x = some i) : N[i]? = some x := by
  have := List.find?_some h
  exact of_decide_eq_true this
def visB (sc : Scope) (x : Str) : Bool := match sc.names.lookup x with
  | some .local => true | some .cell => true | some .free => true | _ => false
def locB (c : Ctx) (x : Str) : Bool := match c.sc.names.lookup x with
  | some .local => true | some .cell => !c.blk || c.cel.contains x | _ => false
def glB (sc : Scope) (x : Str) : Bool := match sc.names.lookup x with
  | some .globalImplicit => true | _ => false
def okB (x : Str) : Bool := !(x == ("__debug__" : Str)) && !(x == ("__classdict__" : Str))
theorem visB_ok {sc : Scope} {x : Str} (h : visB sc x = true) : Vis sc x := by
  unfold visB at h
  split at h
  · rename_i e; exact .inl e
  · rename_i e; exact .inr (.inl e)
  · rename_i e; exact .inr (.inr e)
  · cases h
theorem okB_ok {x : Str} (h : okB x = true) : (x == ("__debug__" : Str)) = false ∧ (x == ("__classdict__" : Str)) = false := by
  unfold okB at h
  rw [Bool.and_eq_true] at h
  exact ⟨by simpa using h.1, by simpa using h.2⟩
section
variable {X : Cx} {c : Ctx}
theorem locB_ok (g : Good X c) {x : Str} (h : locB c x = true) : Loc X.env.scope x ∧ (X.fn x = true ∨ X.env.scope.names.lookup x = some .local) := by
  unfold locB at h
  rw [g.sc]
  split at h
  · rename_i e; exact ⟨.inl e, .inr e⟩
  · rename_i e
    rcases Bool.or_eq_true_iff.mp h with h | h
    · have : c.blk = false := by simpa using h
      exact ⟨.inr e, .inl (g.fnb this x)⟩
    · exact ⟨.inr e, .inl (g.fnc x (by simpa using h))⟩
  · cases h
theorem glB_ok (g : Good X c) {x : Str} (h : glB c.sc x = true) : Gl X x := by
  unfold glB at h
  split at h
  · rename_i e
    show X.env.scope.names.lookup x = _
    rw [g.sc]; exact e
  · cases h
def slotOf (c : Ctx) (x : Str) : Option Nat := if visB c.sc x && okB x then ixOf c.N x else none
def stOf (c : Ctx) (x : Str) : Option Nat := if locB c x then ixOf c.N x else none
theorem slotOf_ok (g : Good X c) {x : Str} {i : Nat} (h : slotOf c x = some i) : X.N[i]? = some x ∧ Vis X.env.scope x ∧ (x == ("__debug__" : Str)) = false ∧ (x == ("__classdict__" : Str)) = false := by
  unfold slotOf at h
  split at h
  · rename_i q
    rw [Bool.and_eq_true] at q
    obtain ⟨a, b⟩ := okB_ok q.2
    exact ⟨by rw [g.N]; exact ixOf_some h, by rw [g.sc]; exact visB_ok q.1, a, b⟩
  · cases h
theorem stOf_ok (g : Good X c) {x : Str} {i : Nat} (h : stOf c x = some i) : X.N[i]? = some x ∧ Loc X.env.scope x ∧ (X.fn x = true ∨ X.env.scope.names.lookup x = some .local) := by
  unfold stOf at h
  split at h
  · rename_i q
    obtain ⟨a, b⟩ := locB_ok g q
    exact ⟨by rw [g.N]; exact ixOf_some h, a, b⟩
  · cases h
def kName (c : Ctx) (x : Str) : Option (M Op) := match slotOf c x with
  | some i => some (cVar i)
  | none => if glB c.sc x && okB x then (match c.cst.find? fun p => decide (p.1 = x) with
    | some p => some (cC p.2)
    | none => if c.free.contains x then (tyList.find? fun p => decide (p.1 = x)).map fun p => cC (.ty p.2) else none) else none
theorem mem_contains {x : Str} {l : List Str} (h : l.contains x = true) : x ∈ l := by simpa using h
theorem kName_ok (g : Good X c) {x : Str} {f : M Op} {p : Pos} (h : kName c x = some f) : DE X (.Name x p) f := by
  unfold kName at h
  split at h
  · rename_i i e
    cases h
    obtain ⟨a, b, d, e⟩ := slotOf_ok g e
    exact de_var a b d e
  · split at h
    · rename_i q
      rw [Bool.and_eq_true] at q
      have gl := glB_ok g q.1
      obtain ⟨d1, d2⟩ := okB_ok q.2
      split at h
      · rename_i p e
        cases h
        have m := List.mem_of_find?_eq_some e
        have e1 : p.1 = x := by have := List.find?_some e; exact of_decide_eq_true this
        subst e1
        obtain ⟨u, v, h1, h2, h3⟩ := g.cst p m
        exact de_c (pe_glob gl h1 h2 d1) h3
      · split at h
        · rename_i hf
          cases e : tyList.find? fun p => decide (p.1 = x) with
          | none => rw [e] at h; cases h
          | some t =>
            rw [e] at h
            cases h
            have m := List.mem_of_find?_eq_some e
            have e1 : t.1 = x := by have := List.find?_some e; exact of_decide_eq_true this
            subst e1
            obtain ⟨b1, b2, b3⟩ := tyList_ok t m
            exact de_c (v := .ty t.2) (pe_bltn gl (g.free _ (mem_contains hf)) b1 rfl b2 b3) fun F => by unfold Rep; rfl
        · cases h
    · cases h
end
def kConst : Const → Option (M Op)
  | .none => some (cC .non)
  | .bool b => some (cC (.bl b))
  | .int i => some (cC (.int i))
  | .str s => some (cC (.str s.cps.toList))
  | _ => none
theorem kConst_ok {X : Cx} {k : Const} {f : M Op} {j : Nat} {p : Pos} (h : kConst k = some f) : DE X (.Constant k j p) f := by
  cases k <;> cases h
  · exact de_non
  · exact de_bl
  · exact de_int
  · exact de_str
def binG : Operator → Option (D → D → Option Op)
  | .Add => some gAdd | .Sub => some gSub | .Mult => some gMul | .FloorDiv => some gDiv | .Mod => some gMod | .Pow => some gPow | .LShift => some gShl | .RShift => some gShr | .BitAnd => some gAnd | .BitOr => some gOr | .BitXor => some gXor
  | _ => none
theorem binG_ok {X : Cx} {op : Operator} {g : D → D → Option Op} {a b : Expr} {fa fb : M Op} {p : Pos} (h : binG op = some g) (ha : DE X a fa) (hb : DE X b fb) : DE X (.BinOp a op b p) (cBin g fa fb) := by
  cases op <;> cases h
  · exact de_add ha hb
  · exact de_sub ha hb
  · exact de_mul ha hb
  · exact de_mod ha hb
  · exact de_pow ha hb
  · exact de_shl ha hb
  · exact de_shr ha hb
  · exact de_bor ha hb
  · exact de_bxor ha hb
  · exact de_band ha hb
  · exact de_fdiv ha hb
/-! #### lists of expressions -/
section
variable (E : Ctx → Expr → Option (M Op))
def EOk (X : Cx) (c : Ctx) : Prop := ∀ e f, E c e = some f → DE X e f
def kDA (c : Ctx) : List Expr → Option (M (List D))
  | [] => some cNil
  | e :: es => if notStar e then (match E c e, kDA c es with
    | some f, some g => some (cCons f g)
    | _, _ => none) else none
def kDO (c : Ctx) : List Expr → Option (M (List Op))
  | [] => some cNilO
  | e :: es => if notStar e then (match E c e, kDO c es with
    | some f, some g => some (cConsO f g)
    | _, _ => none) else none
def kAV (c : Ctx) (e : Expr) (r : Option (M (List AR))) : Option (M (List AR)) := if notStar e then (match E c e, r with
    | some f, some g => some (cAV f g)
    | _, _ => none) else none
def kAR (c : Ctx) : List Bool → List Expr → Option (M (List AR))
  | _, [] => some cANil
  | [], e :: es => kAV E c e (kAR c [] es)
  | false :: ios, e :: es => kAV E c e (kAR c ios es)
  | true :: ios, e :: es => match e with
    | .Name x _ => (match slotOf c x, kAR c ios es with
      | some i, some g => some (cAIo i g)
      | _, _ => none)
    | _ => none
def kKw (c : Ctx) : List Keyword → Option (M (List AR))
  | [] => some cANil
  | k :: ks => match E c k.value, kKw c ks with
    | some f, some g => some (cAV f g)
    | _, _ => none
variable {E} {X : Cx} {c : Ctx}
theorem kDA_ok (h : EOk E X c) : ∀ {es : List Expr} {f : M (List D)}, kDA E c es = some f → DA X es f
  | [], f, e => by cases e; exact da_nil
  | x :: es, f, e => by
    unfold kDA at e
    split at e
    · rename_i hs
      split at e
      · rename_i f1 g1 e1 e2
        cases e
        exact da_cons (h _ _ e1) (kDA_ok h e2) hs
      · cases e
    · cases e
theorem kDO_ok (h : EOk E X c) : ∀ {es : List Expr} {f : M (List Op)}, kDO E c es = some f → DO X es f
  | [], f, e => by cases e; exact do_nil
  | x :: es, f, e => by
    unfold kDO at e
    split at e
    · rename_i hs
      split at e
      · rename_i f1 g1 e1 e2
        cases e
        exact do_cons (h _ _ e1) (kDO_ok h e2) hs
      · cases e
    · cases e
theorem kAV_ok (h : EOk E X c) {e : Expr} {es : List Expr} {r : Option (M (List AR))} {f : M (List AR)} (q : kAV E c e r = some f) (hr : ∀ g, r = some g → DR X es g) : DR X (e :: es) f := by
  unfold kAV at q
  split at q
  · rename_i hs
    split at q
    · rename_i f1 g1 e1
      cases q
      exact dr_v (h _ _ e1) (hr _ rfl) hs
    · cases q
  · cases q
theorem kAR_ok (g : Good X c) (h : EOk E X c) : ∀ {ios : List Bool} {es : List Expr} {f : M (List AR)}, kAR E c ios es = some f → DR X es f
  | ios, [], f, e => by cases ios <;> (cases e; exact dr_nil)
  | [], x :: es, f, e => kAV_ok h e fun g1 e2 => kAR_ok g h e2
  | false :: ios, x :: es, f, e => kAV_ok h e fun g1 e2 => kAR_ok g h e2
  | true :: ios, x :: es, f, e => by
    unfold kAR at e
    split at e
    · split at e
      · rename_i i g1 e1 e2
        cases e
        obtain ⟨a, b, d1, d2⟩ := slotOf_ok g e1
        exact dr_io a b d1 d2 (kAR_ok g h e2)
      · cases e
    · cases e
theorem kKw_ok (h : EOk E X c) : ∀ {ks : List Keyword} {f : M (List AR)}, kKw E c ks = some f → DKw X ks f
  | [], f, e => by cases e; exact dkw_nil
  | ⟨nm, v, p⟩ :: ks, f, e => by
    unfold kKw at e
    split at e
    · rename_i f1 g1 e1 e2
      cases e
      exact dkw_cons (h _ _ e1) (kKw_ok h e2)
    · cases e
/-! #### calls -/
theorem kw_names {pos : Pos} {env : Env} : ∀ kws : List Keyword, (backToKw pos (keywordEach kws env)).map (·.1) = kws.map (·.arg)
  | [] => rfl
  | ⟨nm, v, p⟩ :: ks => by
    have ih := kw_names (pos := pos) (env := env) ks
    unfold backToKw at ih ⊢
    unfold keywordEach
    simpa using ih
theorem kw_all {pos : Pos} {env : Env} {kws : List Keyword} {ks : List Str} (h : kws.map (·.arg) = ks.map some) : (backToKw pos (keywordEach kws env)).all (·.1.isSome) = true ∧ (backToKw pos (keywordEach kws env)).filterMap (·.1) = ks := by
  have e := (kw_names (pos := pos) (env := env) kws).trans h
  generalize backToKw pos (keywordEach kws env) = l at e
  clear h
  induction l generalizing ks with
  | nil => cases ks with
    | nil => exact ⟨rfl, rfl⟩
    | cons _ _ => cases e
  | cons z l ih =>
    cases ks with
    | nil => cases e
    | cons k ks =>
      simp only [List.map_cons, List.cons.injEq] at e
      obtain ⟨h1, h2⟩ := ih e.2
      refine ⟨by rw [List.all_cons, e.1, h1]; rfl, ?_⟩
      rw [List.filterMap_cons, e.1, h2]
def nameB : Expr → Bool
  | .Name _ _ => true
  | _ => false
variable (E)
def kOwn (c : Ctx) (fi : FI) (args : List Expr) (kws : List Keyword) : Option (M Op) := match kws with
  | [] => (match args with
    | [] => some (cCallF fi.fn (takesN fi.ps.length cANil))
    | e :: es => if (e :: es).all notStar then (match fi.ios, nameB e with
      | true :: is, false => (match E c e, kAR E c is es with
        | some fe, some fa => some (cCallH fi.fn fi.ps.length fe fa)
        | _, _ => none)
      | _, _ => (kAR E c fi.ios (e :: es)).map fun fa => cCallF fi.fn (takesN fi.ps.length fa)) else none)
  | k :: ks => match fi.kws.find? fun p => decide ((k :: ks).map (·.arg) = p.1.map some) && decide (p.2.1 = args.length) with
    | some p => (match args with
      | [] => (kKw E c (k :: ks)).map fun fk => cCallF fi.fn (takesN fi.ps.length (cKw p.2.2 0 p.1.length cANil fk))
      | e :: es => if (e :: es).all notStar then (match kAR E c [] (e :: es), kKw E c (k :: ks) with
        | some fa, some fk => some (cCallF fi.fn (takesN fi.ps.length (cKw p.2.2 p.2.1 p.1.length fa fk)))
        | _, _ => none) else none)
    | none => none
def orE (f1 f2 : M Op) : M Op := fun δ => match f1 δ with
  | .bad => f2 δ
  | r => r
def alts : List (M Op) → Option (M Op)
  | [] => none
  | [f] => some f
  | f :: g :: fs => (alts (g :: fs)).map (orE f)
def kBlt (c : Ctx) (x : Str) (args : List Expr) : Option (M Op) := match args with
  | [] => none
  | e :: es => if c.free.contains x && (e :: es).all notStar then (match bList.find? fun b => decide (b.name = x) && decide (b.n = (e :: es).length) with
    | some b => (kDO E c (e :: es)).map (cCall b.g)
    | none => none) else none
def kMs (c : Ctx) (o : Expr) (name : Str) (args : List Expr) : List (M Op) := (mList.filter fun m => decide (m.name = name) && decide (m.n = args.length)).filterMap fun m => match E c o, kDO E c args with
  | some f, some fa => some (cMeth m.T m.g f fa)
  | _, _ => none
def kOs (c : Ctx) (o : Expr) (name : Str) (args : List Expr) : List (M Op) := match o with
  | .Name x _ => (oList.filter fun m => decide (m.name = name) && decide (m.n = args.length)).filterMap fun m => match slotOf c x, kDA E c args with
    | some i, some fa => some (cMethO m.T i m.g fa)
    | _, _ => none
  | _ => []
def kMeth (c : Ctx) (o : Expr) (name : Str) (args : List Expr) : Option (M Op) :=
  if decide (name = "bit_length") && args.isEmpty then (E c o).map cBits else alts (kOs E c o name args ++ kMs E c o name args)
def kCall (c : Ctx) (f : Expr) (args : List Expr) (kws : List Keyword) (pos : Pos) : Option (M Op) := match f with
  | .Name x _ => if glB c.sc x && okB x then (match c.F x with
    | some fi => kOwn E c fi args kws
    | none => if kws.isEmpty then kBlt E c x args else none) else none
  | .Attribute o name apos => if kws.isEmpty && (apos.endLine == pos.line) && args.all notStar && decide (args.length < 30) && plainRecv o then kMeth E c o name args else none
  | _ => none
variable {E}
theorem kOwn_ok (g : Good X c) (h : EOk E X c) {x : Str} {fi : FI} {args : List Expr} {kws : List Keyword} {p pos : Pos} {f : M Op} (hF : c.F x = some fi) (hg : Gl X x) (hd : (x == ("__debug__" : Str)) = false) (q : kOwn E c fi args kws = some f) : DE X (.Call (.Name x p) args kws pos) f := by
  obtain ⟨⟨k, fa, fd, F, hr, hm, hk, hb, hkb⟩, np⟩ := g.F x fi hF
  unfold kOwn at q
  split at q
  · split at q
    · cases q
      exact de_callF0 F np hr hg hm hk hb hd
    · rename_i e es
      split at q
      · rename_i hs
        split at q
        · split at q
          · rename_i e1 e2
            cases q
            exact de_callH F np hr hg hm hk hb (h _ _ e1) (kAR_ok g h e2) hd hs
          · cases q
        · cases e1 : kAR E c fi.ios (e :: es) with
          | none => rw [e1] at q; cases q
          | some f1 =>
            rw [e1] at q; cases q
            exact de_callF F np hr hg hm hk hb (kAR_ok g h e1) hd hs
      · cases q
  · rename_i k1 ks1
    split at q
    · rename_i p1 e1
      have m := List.mem_of_find?_eq_some e1
      have c1 := List.find?_some e1
      rw [Bool.and_eq_true] at c1
      have n1 := of_decide_eq_true c1.1
      have n2 := of_decide_eq_true c1.2
      obtain ⟨a1, a2⟩ := kw_all (pos := pos) (env := X.env) n1
      have kb := hkb p1 m
      split at q
      · cases e2 : kKw E c (k1 :: ks1) with
        | none => rw [e2] at q; cases q
        | some fk =>
          rw [e2] at q; cases q
          rw [n2] at kb
          exact de_callK0 F np hr hg hm hk kb (kKw_ok h e2) a1 a2 hd
      · rename_i e es
        split at q
        · rename_i hs
          split at q
          · rename_i fa2 fk e2 e3
            cases q
            exact de_callK F np hr hg hm hk kb (kAR_ok g h e2) (kKw_ok h e3) a1 a2 hd hs
          · cases q
        · cases q
    · cases q
theorem kBlt_ok (g : Good X c) (h : EOk E X c) {x : Str} {args : List Expr} {p pos : Pos} {f : M Op} (hg : Gl X x) (q : kBlt E c x args = some f) : DE X (.Call (.Name x p) args [] pos) f := by
  unfold kBlt at q
  split at q
  · cases q
  · rename_i e es
    split at q
    · rename_i hs
      rw [Bool.and_eq_true] at hs
      split at q
      · rename_i b e1
        have m := List.mem_of_find?_eq_some e1
        have c1 := List.find?_some e1
        rw [Bool.and_eq_true] at c1
        have n1 := of_decide_eq_true c1.1
        subst n1
        obtain ⟨⟨r, cr, cg⟩, bo, nm, db⟩ := bList_ok (X := X) g.calm b m
        cases e2 : kDO E c (e :: es) with
        | none => rw [e2] at q; cases q
        | some fo =>
          rw [e2] at q; cases q
          have mg := g.free _ (mem_contains hs.1)
          cases hk : b.k with
          | fn id => rw [hk] at cr bo; exact de_callB cr cg hg mg bo (kDO_ok h e2) nm db hs.2
          | ty T => rw [hk] at cr bo; exact de_callTy cr cg hg mg bo (kDO_ok h e2) nm db hs.2
      · cases q
    · cases q
theorem alts_ok {e : Expr} : ∀ {fs : List (M Op)} {f : M Op}, (∀ g ∈ fs, DE X e g) → alts fs = some f → DE X e f
  | [], f, h, q => by cases q
  | [g], f, h, q => by cases q; exact h _ (by simp)
  | g :: g2 :: fs, f, h, q => by
    unfold alts at q
    cases e1 : alts (g2 :: fs) with
    | none => rw [e1] at q; cases q
    | some f2 =>
      rw [e1] at q; cases q
      exact (h g (by simp)).or (alts_ok (fun z hz => h z (List.mem_cons_of_mem _ hz)) e1)
theorem kCall_ok (g : Good X c) (h : EOk E X c) {fe : Expr} {args : List Expr} {kws : List Keyword} {pos : Pos} {f : M Op} (q : kCall E c fe args kws pos = some f) : DE X (.Call fe args kws pos) f := by
  unfold kCall at q
  split at q
  · rename_i x p
    split at q
    · rename_i qq
      rw [Bool.and_eq_true] at qq
      have gl := glB_ok g qq.1
      obtain ⟨d1, d2⟩ := okB_ok qq.2
      split at q
      · rename_i fi hF
        exact kOwn_ok g h hF gl d1 q
      · split at q
        · rename_i hk
          cases kws with
          | cons _ _ => cases hk
          | nil => exact kBlt_ok g h gl q
        · cases q
    · cases q
  · rename_i o name apos
    split at q
    · rename_i qq
      simp only [Bool.and_eq_true] at qq
      obtain ⟨⟨⟨⟨q1, q2⟩, q3⟩, q4⟩, q5⟩ := qq
      have q4 := of_decide_eq_true q4
      cases kws with
      | cons _ _ => cases q1
      | nil =>
        unfold kMeth at q
        split at q
        · rename_i hb
          rw [Bool.and_eq_true] at hb
          have nb := of_decide_eq_true hb.1
          subst nb
          cases args with
          | cons _ _ => cases hb.2
          | nil =>
            cases e1 : E c o with
            | none => rw [e1] at q; cases q
            | some f1 => rw [e1] at q; cases q; exact de_bits (h _ _ e1) q5 q2
        · refine alts_ok (fun z hz => ?_) q
          rcases List.mem_append.mp hz with hz | hz
          · unfold kOs at hz
            split at hz
            · rename_i x p
              obtain ⟨m, hm0, hz1⟩ := List.mem_filterMap.mp hz
              clear hz
              obtain ⟨hm, hc⟩ := List.mem_filter.mp hm0
              clear hm0
              rw [Bool.and_eq_true] at hc
              have n1 := of_decide_eq_true hc.1
              have n2 := of_decide_eq_true hc.2
              subst n1
              obtain ⟨pa, slot, ty, r, mr, mo⟩ := oList_ok (X := X) m hm
              split at hz1
              · rename_i i fa e1 e2
                cases hz1
                obtain ⟨a, b, d1, d2⟩ := slotOf_ok g e1
                cases args with
                | nil => cases e2; exact de_methO0 pa slot ty mr mo a b d1 d2 q5 q2
                | cons e es => exact de_methO pa slot ty mr mo a b d1 d2 (kDA_ok h e2) q5 q2 q3 q4
              · cases hz1
            · cases hz
          · unfold kMs at hz
            obtain ⟨m, hm0, hz1⟩ := List.mem_filterMap.mp hz
            clear hz
            obtain ⟨hm, hc⟩ := List.mem_filter.mp hm0
            clear hm0
            rw [Bool.and_eq_true] at hc
            have n1 := of_decide_eq_true hc.1
            subst n1
            obtain ⟨pa, slot, ty, r, mr, mo⟩ := mList_ok (X := X) g.un g.calm m hm
            split at hz1
            · rename_i f1 fa e1 e2
              cases hz1
              cases args with
              | nil => cases e2; exact de_meth0 pa slot ty mr mo (h _ _ e1) q5 q2
              | cons e es => exact de_meth pa slot ty mr mo (h _ _ e1) (kDO_ok h e2) q5 q2 q3 q4
            · cases hz1
    · cases q
  · cases q
end
end Ev
set_option Elab.async false
set_option linter.all false
set_option autoImplicit false
set_option maxRecDepth 100000
set_option maxHeartbeats 4000000
namespace Ev
open PySem PySem.Spec L2
open PyProof.Rows hiding St
/-! ### slices with a step -/
def pickL {α : Type} (xs : List α) (lo hi : Option Int) (c : Int) : List α := (PySem.Builtin.Str.strSliceIndices lo hi c xs.length).filterMap (xs[·]?)
theorem vals_pick {xs : List V} {us : List Value} (r : Vals xs us) (ix : List Nat) : Vals (ix.filterMap (xs[·]?)) (ix.filterMap (us[·]?)) := by
  induction ix with
  | nil => exact .nil
  | cons i ix ih =>
    cases e : xs[i]? with
    | none =>
      rw [List.filterMap_cons_none e, List.filterMap_cons_none (r.none_of e)]
      exact ih
    | some x =>
      obtain ⟨u, e2, q⟩ := r.get e
      rw [List.filterMap_cons_some e, List.filterMap_cons_some e2]
      exact .cons q ih
theorem repL_pick {K : PySem.W.Frag} {F : Hp} {ds : List D} {vs : List V} (h : RepL K F ds vs) (lo hi : Option Int) (c : Int) : RepL K F (pickL ds lo hi c) (pickL vs lo hi c) := by
  unfold pickL
  rw [h.length]
  generalize PySem.Builtin.Str.strSliceIndices lo hi c ds.length = ix
  induction ix with
  | nil => exact .nil
  | cons i ix ih =>
    cases e : ds[i]? with
    | none =>
      have e2 : vs[i]? = none := by
        have := List.getElem?_eq_none_iff.mp e
        exact List.getElem?_eq_none_iff.mpr (by rw [h.length]; exact this)
      rw [List.filterMap_cons_none e, List.filterMap_cons_none e2]
      exact ih
    | some x =>
      obtain ⟨u, e2, q⟩ := h.get e
      rw [List.filterMap_cons_some e, List.filterMap_cons_some e2]
      exact .cons q ih
theorem pick_slice (us : List Value) (lo hi : Option Int) (c : Int) : slicePick us.toArray lo hi (some c) = (pickL us lo hi c).toArray := by
  unfold slicePick pickL
  simp
  rfl
theorem pickL_le (xs : List V) (us : List Value) (r : Vals xs us) (lo hi : Option Int) (c : Int) : (pickL xs lo hi c).length ≤ xs.length := by
  have h := slicePick_size_le us.toArray lo hi (some c)
  rw [pick_slice] at h
  have h1 : (pickL xs lo hi c).length = (pickL us lo hi c).length := by
    have := (vals_pick r (PySem.Builtin.Str.strSliceIndices lo hi c xs.length)).length
    unfold pickL
    rw [← r.length]
    exact this
  rw [h1, r.length]
  simpa using h
/-- a tuple's slice with a step -/
def pickIx (lo hi : Option Int) (c : Int) (n : Nat) : List Nat := (List.range (PySem.Builtin.Slice.slicePlaces (PySem.Builtin.Slice.sliceAdjust lo hi c n).1 (PySem.Builtin.Slice.sliceAdjust lo hi c n).2 c)).map fun (k : Nat) => ((PySem.Builtin.Slice.sliceAdjust lo hi c n).1 + (k : Int) * c).toNat
def pickT {α : Type} (xs : List α) (lo hi : Option Int) (c : Int) : List α := (pickIx lo hi c xs.length).filterMap (xs[·]?)
theorem repL_ix {K : PySem.W.Frag} {F : Hp} {ds : List D} {vs : List V} (h : RepL K F ds vs) (ix : List Nat) : RepL K F (ix.filterMap (ds[·]?)) (ix.filterMap (vs[·]?)) := by
  induction ix with
  | nil => exact .nil
  | cons i ix ih =>
    cases e : ds[i]? with
    | none =>
      have e2 : vs[i]? = none := by
        have := List.getElem?_eq_none_iff.mp e
        exact List.getElem?_eq_none_iff.mpr (by rw [h.length]; exact this)
      rw [List.filterMap_cons_none e, List.filterMap_cons_none e2]
      exact ih
    | some x =>
      obtain ⟨u, e2, q⟩ := h.get e
      rw [List.filterMap_cons_some e, List.filterMap_cons_some e2]
      exact .cons q ih
theorem repL_pickT {K : PySem.W.Frag} {F : Hp} {ds : List D} {vs : List V} (h : RepL K F ds vs) (lo hi : Option Int) (c : Int) : RepL K F (pickT ds lo hi c) (pickT vs lo hi c) := by
  unfold pickT
  rw [h.length]
  exact repL_ix h _
section
variable {prog : Program} {w : World} {A : Around} {E : Value → Shared → Prop} {s : Shared}
theorem sliceApplied_step {sl : Addr} {vl vu vs : Value} {lo hi : Option Int} {c : Int} {n : Nat} {Q : Int × Int × Nat → Shared → Prop} (hs : s.heap.IsSliceOf sl vl vu vs) (pl : IsPart vl lo) (pu : IsPart vu hi) (ps : IsPart vs (some c)) (h0 : c ≠ 0)
    (h : Q ((PySem.Builtin.Slice.sliceAdjust lo hi c n).1, c, PySem.Builtin.Slice.slicePlaces (PySem.Builtin.Slice.sliceAdjust lo hi c n).1 (PySem.Builtin.Slice.sliceAdjust lo hi c n).2 c) s) : wpAny (model prog w) A (Builtin.Slice.sliceApplied (.ref sl) (pure (n : Int))) Q E s := by
  obtain ⟨os, hos, hcs, hds⟩ := id hs
  unfold Builtin.Slice.sliceApplied Builtin.Slice.sliceFields
  refine wpAny_bind (wpAny_bind (wpAny_field hos hds (x := vl) rfl (wpAny_bind (wpAny_field hos hds (x := vu) rfl (wpAny_bind (wpAny_field hos hds (x := vs) rfl (wpAny_pure ?_)))))))
  refine wpAny_bind (HT.slicePart_ ps ?_)
  show wpAny _ _ (if (c == 0) = true then _ else _) _ _ s
  rw [if_neg (by simpa using h0)]
  refine wpAny_bind (HT.slicePart_ pl (wpAny_bind (HT.slicePart_ pu (wpAny_bind (wpAny_pure ?_)))))
  exact wpAny_pure h
theorem getItem_tuple_step {t sl : Addr} {items : Array Value} {vl vu vs : Value} {lo hi : Option Int} {c : Int} {Q : Value → Shared → Prop} (ht : IsTup s.heap t items) (hs : s.heap.IsSliceOf sl vl vu vs) (pl : IsPart vl lo) (pu : IsPart vu hi) (ps : IsPart vs (some c)) (h0 : c ≠ 0) (h1 : c ≠ 1)
    (h : Q (.ref s.heap.objs.size) { s with heap := s.heap.push { cls := .type "tuple", data := .seq (pickT items.toList lo hi c).toArray } })
    (hsz : (pickT items.toList lo hi c).length ≤ sizeLine) : wpAny (model prog w) A (getItem (.ref t) (.ref sl)) Q E s := by
  have htake : sizeOk (.seq (pickT items.toList lo hi c).toArray) := by
    show (pickT items.toList lo hi c).toArray.size ≤ sizeLine
    rw [List.size_toArray]
    exact hsz
  obtain ⟨os, hos, hcs, hds⟩ := id hs
  have hTs : s.TypeIs (.ref sl) "slice" := ⟨os, hos, hcs⟩
  unfold getItem
  try with_reducible refine wpAny_holding ?_
  first | refine wpAny_bind (wpAny_pure ?_) | skip
  refine wpAny_bind (wpAny_sequenceKey ht.typeIs (by decide) ?_)
  refine wpAny_bind (wpAny_callSpecial?_slot (name := Str.ofString "__getitem__") ht.typeIs PyProof.Rows.slot_tuple_getitem
    (wpAny_call_entry PyProof.Rows.slot_tuple_getitem ht.typeIs PyProof.Rows.entry_tuple_getitem ?_ (PyProof.Rows.args_tuple_getitem _ _)))
  show wpAny _ _ (Builtin.Tuple.tupleItemsOf (.ref t) >>= _) _ _ s
  refine wpAny_bind (PyProof.Rows.tupleItemsOf_ ht ?_)
  refine wpAny_bind (wpAny_typeOf hTs ?_)
  rw [if_pos (by decide)]
  refine wpAny_bind (sliceApplied_step hs pl pu ps h0 ?_)
  have hno : ¬ (((PySem.Builtin.Slice.sliceAdjust lo hi c items.size).1 == 0 && c == 1 && (PySem.Builtin.Slice.slicePlaces (PySem.Builtin.Slice.sliceAdjust lo hi c items.size).1 (PySem.Builtin.Slice.sliceAdjust lo hi c items.size).2 c) == items.size) = true) := by
    intro q
    rw [Bool.and_eq_true, Bool.and_eq_true] at q
    exact h1 (eq_of_beq q.1.2)
  have ep : ((List.range (PySem.Builtin.Slice.slicePlaces (PySem.Builtin.Slice.sliceAdjust lo hi c items.size).1 (PySem.Builtin.Slice.sliceAdjust lo hi c items.size).2 c)).filterMap fun (k : Nat) => items[((PySem.Builtin.Slice.sliceAdjust lo hi c items.size).1 + (k : Int) * c).toNat]?).toArray = (pickT items.toList lo hi c).toArray := by
    unfold pickT pickIx
    rw [List.filterMap_map, Array.length_toList]
    congr 2
    funext k
    simp
  show wpAny _ _ (if ((PySem.Builtin.Slice.sliceAdjust lo hi c items.size).1 == 0 && c == 1 && (PySem.Builtin.Slice.slicePlaces (PySem.Builtin.Slice.sliceAdjust lo hi c items.size).1 (PySem.Builtin.Slice.sliceAdjust lo hi c items.size).2 c) == items.size) = true then _ else _) _ _ s
  rw [if_neg hno, ep]
  first
    | exact wpAny_bind (m := Builtin.Tuple.tupleExact _) (wpAny_newObj_type (wpAny_pure ⟨_, rfl, wpAny_pure h⟩) htake)
    | exact wpAny_bind (m := Builtin.Tuple.tupleExact _) (wpAny_newObj_type (wpAny_bind (wpAny_pure (wpAny_pure ⟨_, rfl, wpAny_pure h⟩))) htake)
    | exact wpAny_bind (wpAny_bind (m := Builtin.Tuple.tupleExact _) (wpAny_newObj_type (wpAny_pure (wpAny_pure ⟨_, rfl, wpAny_pure h⟩)) htake))
    | exact wpAny_bind (wpAny_bind (m := Builtin.Tuple.tupleExact _) (wpAny_newObj_type (wpAny_pure ⟨_, rfl, wpAny_pure h⟩) htake))
end
def pickS (z : Str) (lo hi : Option Int) (c : Int) : Str := ⟨((PySem.Builtin.Str.strSliceIndices lo hi c z.length).filterMap (z.cps[·]?)).toArray⟩
def rSl3 (K : PySem.W.Frag) (x : V) (l u : Option Int) (c : Option Int) (H : Hp) (Q : VK) : Prop :=
  (∃ a xs d, x = .ref a ∧ SqL K H a xs ∧ c = some d ∧ d ≠ 0 ∧ ∀ p, H p = none → Q (.ref p) (upd H p (.lst (pickL xs l u d)))) ∨
  (∃ z d, x = .str z ∧ (pickS z l u d).length ≤ sizeLine ∧ c = some d ∧ d ≠ 0 ∧ d ≠ 1 ∧ Q (.str (pickS z l u d)) H) ∨
  (∃ a xs d, x = .ref a ∧ SqT K H a xs ∧ c = some d ∧ d ≠ 0 ∧ d ≠ 1 ∧ (pickT xs l u d).length ≤ sizeLine ∧ ∀ p, H p = none → Q (.ref p) (upd H p (.tup (pickT xs l u d))))
def tSl3 (K : PySem.W.Frag) (te : TE) (tl th tc : TO) : TE := fun σ H Q => te σ H fun x H1 => tl σ H1 fun l H2 => th σ H2 fun u H3 => tc σ H3 fun c H4 => rSl3 K x l u c H4 Q
theorem pe_slice3 {X : Cx} {e : Expr} {lo hi : Option Expr} {st : Expr} {te : TE} {tl th tc : TO} {p2 pos : Pos} (he : PE X e te) (hl : PO X lo tl) (hu : PO X hi th) (hc : PO X (some st) tc) : PE X (.Subscript e (.Slice lo hi (some st) p2) pos) (tSl3 X.K te tl th tc) := by
  refine ⟨fun pins s σ H Q I h => ?_⟩
  refine Subscript_ (thn (he.run pins s σ H _ I h) fun v s1 ⟨x, H1, I1, r1, q1⟩ => ?_)
  refine wpAny_Slice (thn (hl.run pins s1 σ H1 _ I1 q1) fun vl s2 ⟨l, H2, I2, pl, q2⟩ => thn (hu.run pins s2 σ H2 _ I2 q2) fun vu s3 ⟨u, H3, I3, pu, q3⟩ => thn (hc.run pins s3 σ H3 _ I3 q3) fun vs s4 ⟨c, H4, I4, ps, q4⟩ => ?_)
  have I5 : Inv X pins σ H4 { s4 with heap := s4.heap.push { cls := .type "slice", data := .fields #[vl, vu, vs] } } := I4.kept (t' := s4.toks) fun b ob q => Heap.get?_push_of_some _ q
  show wpAny (model X.prog X.w) X.A (subscriptTail e (.Slice lo hi (some st) p2) v (.ref s4.heap.objs.size)) (EP X pins σ Q) X.xe { s4 with heap := s4.heap.push { cls := .type "slice", data := .fields #[vl, vu, vs] } }
  rcases q4 with ⟨a, xs, d, rfl, hx, rfl, h0, q⟩ | ⟨z, d, rfl, hz, rfl, h0, h1, q⟩ | ⟨a, xs, d, rfl, hx, rfl, h0, h1, hz, q⟩
  · cases r1
    obtain ⟨its, r, ht, hz⟩ := I5.list hx
    have hlen := r.length
    refine tail_any (ops := [.ref a, .ref s4.heap.objs.size]) ht.isList.typeIs (PySem.slot_list_getitem.lookup) ?_ (by with_unfolding_all rfl)
    refine wpAny_getItem_list_slice ht.isList (Heap.IsSliceOf.new _ vl vu vs) pl pu ps (by simpa using h0) ?_ (by rw [List.size_toArray]; omega)
    rw [pick_slice]
    refine ⟨.ref _, _, I5.laid (t' := s4.toks) (o := .lst (pickL xs l u d)) (fun b ob q => Heap.get?_push_of_some _ q) (Nat.le_refl _) ?_, rfl, q _ (I5.hok.fresh (Nat.le_refl _))⟩
    refine ⟨Nat.le_trans (pickL_le xs its r l u d) hz, _, 0, ?_, Heap.get?_push_size _ rfl⟩
    have := vals_pick r (PySem.Builtin.Str.strSliceIndices l u d xs.length)
    unfold pickL
    rw [← r.length]
    exact this
  · obtain ⟨t, rfl⟩ := r1
    obtain ⟨l', rfl, rfl⟩ := IsPart.raw pl
    obtain ⟨u', rfl, rfl⟩ := IsPart.raw pu
    obtain ⟨c', rfl, ec⟩ := IsPart.raw ps
    refine tail_any (ops := [.str z t, .ref s4.heap.objs.size]) (typeIs_str _ _ _) (F.slot_str_getitem.lookup) ?_ (by with_unfolding_all rfl)
    have hd : ((c'.map (·.1)).getD 1) = d := by first | rw [← ec]; rfl | rw [ec]; rfl | (subst ec; rfl)
    refine wpAny_getItem_str_slice (l := l') (u := u') (st := c') ⟨_, Heap.get?_push_size _ rfl, rfl, rfl⟩ (by rw [hd]; simpa using h0) ?_
    unfold sliceMade slicePicked
    rw [hd, if_neg (by simp [h1])]
    exact ⟨hz, .str _, H4, I5.tok _, ⟨_, rfl⟩, q⟩
  · cases r1
    obtain ⟨its, r, ht, _⟩ := I5.tuple hx
    have hv := vals_pick r (pickIx l u d xs.length)
    have hv2 : Vals (pickT xs l u d) (pickT its l u d) := by
      unfold pickT
      rw [← r.length]
      exact hv
    have hlen : (pickT its.toArray.toList l u d).length ≤ sizeLine := by
      have : (pickT its l u d).length ≤ sizeLine := by rw [← hv2.length]; exact hz
      exact this
    refine tail_any (ops := [.ref a, .ref s4.heap.objs.size]) ht.typeIs (PyProof.Rows.slot_tuple_getitem.lookup) ?_ (by with_unfolding_all rfl)
    refine getItem_tuple_step ht (Heap.IsSliceOf.new _ vl vu vs) pl pu ps h0 h1 ?_ hlen
    refine ⟨.ref _, _, I5.laid (t' := s4.toks) (o := .tup (pickT xs l u d)) (fun b ob q => Heap.get?_push_of_some _ q) (Nat.le_refl _) ?_, rfl, q _ (I5.hok.fresh (Nat.le_refl _))⟩
    exact ⟨hz, _, hv2, IsTup.new _ _⟩
def gSl3 (lo hi : Option Int) (c : Option Int) : D → Option Op
  | .lst xs => match c with
    | some c => if decide (c = 0) then none else some (.fresh (.lst (pickL xs lo hi c)))
    | none => none
  | .ext xs => match c with
    | some c => if decide (c = 0) then none else some (.fresh (.lst (pickL xs lo hi c)))
    | none => none
  | .str s => match c with
    | some c => if decide (c = 0) || decide (c = 1) || !fits (pickL s lo hi c).length then none else some (.val (.str (pickL s lo hi c)))
    | none => none
  | .tup xs => match c with
    | some c => if decide (c = 0) || decide (c = 1) || !fits (pickT xs lo hi c).length then none else some (.val (.tup (pickT xs lo hi c)))
    | none => none
  | _ => none
def cSl3 (f : M Op) (lo hi st : M (Option Int)) : M Op := M.bind f fun o => M.bind lo fun l => M.bind hi fun u => M.bind st fun c => lift1 (gSl3 l u c) o
theorem de_slice3 {X : Cx} {e : Expr} {lo hi : Option Expr} {st : Expr} {f : M Op} {fl fh fc : M (Option Int)} {pos p2 : Pos} (he : DE X e f) (hl : DP X lo fl) (hu : DP X hi fh) (hc : DP X (some st) fc) : DE X (.Subscript e (.Slice lo hi (some st) p2) pos) (cSl3 f fl fh fc) := by
  refine ⟨fun W tk => PE.weak (pe_slice3 (he.run W tk) (hl.run W tk) (hu.run W tk) (hc.run W tk)) fun pins s σ H Q I h => ?_⟩
  obtain ⟨G, F, δ, r, h⟩ := h
  refine bindE r .refl h fun o δ1 v F1 H1 s1 r1 q1 h => ?_
  refine bindP (r1.pend q1) (pend_sub q1) h fun l δ2 F2 H2 s2 r2 h => ?_
  refine bindP r2 (pend_sub q1) h fun u δ3 F3 H3 s3 r3 h => ?_
  refine bindP r3 (pend_sub q1) h fun c δ4 F4 H4 s4 r4 h => ?_
  obtain ⟨x, op, e1, e2, h⟩ := lift1_ok h
  have q4 := pend_keep q1 ((s2.trans s3).trans s4) r4
  have r4' := r4.lessG (pend_sub q1)
  have rb := deref_rep r4' q4 e1
  cases x with
  | lst xs =>
    cases c with
    | none => cases e2
    | some c =>
      have e2 : (if decide (c = 0) then none else some (.fresh (.lst (pickL xs l u c)))) = some op := e2
      split at e2
      · cases e2
      · rename_i h0
        cases e2
        obtain ⟨a, vs, rfl, h1, h2⟩ := rb.lst r4'.subF
        exact .inl ⟨a, vs, c, rfl, .of h1, rfl, by simpa using h0, new_lst r4' (repL_pick h2 l u c) fun w F' H' s' r' q' => h w F' H' s' r' q'⟩
  | ext xs =>
    cases c with
    | none => cases e2
    | some c =>
      have e2 : (if decide (c = 0) then none else some (.fresh (.lst (pickL xs l u c)))) = some op := e2
      split at e2
      · cases e2
      · rename_i h0
        cases e2
        obtain ⟨a, vs, rfl, h1, h2⟩ := rb.ext
        exact .inl ⟨a, vs, c, rfl, SqL.sub r4'.subF h1, rfl, by simpa using h0, new_lst r4' (repL_pick h2 l u c) fun w F' H' s' r' q' => h w F' H' s' r' q'⟩
  | str z =>
    have hv := rb.str; subst hv
    cases c with
    | none => cases e2
    | some c =>
      have e2 : (if decide (c = 0) || decide (c = 1) || !fits (pickL z l u c).length then none else some (Op.val (.str (pickL z l u c)))) = some op := e2
      split at e2
      · cases e2
      · rename_i h0
        cases e2
        simp only [Bool.or_eq_true, decide_eq_true_eq, not_or, Bool.not_eq_true', Bool.not_eq_false] at h0
        have ec : pickS ⟨z.toArray⟩ l u c = ⟨(pickL z l u c).toArray⟩ := by
          unfold pickS pickL
          rw [str_len]
          simp
        refine .inr (.inl ⟨_, c, rfl, ?_, rfl, h0.1.1, h0.1.2, ?_⟩)
        · rw [ec, str_len]; exact fits_le h0.2
        · rw [ec]
          exact h _ F4 H4 .refl r4' (show Rep X.K F4 (.str _) _ from rep_str _)
  | tup xs =>
    cases c with
    | none => cases e2
    | some c =>
      have e2 : (if decide (c = 0) || decide (c = 1) || !fits (pickT xs l u c).length then none else some (Op.val (.tup (pickT xs l u c)))) = some op := e2
      split at e2
      · cases e2
      · rename_i h0
        cases e2
        simp only [Bool.or_eq_true, decide_eq_true_eq, not_or, Bool.not_eq_true', Bool.not_eq_false] at h0
        obtain ⟨a, vs, rfl, h1, h2⟩ := rb.tup
        have h3 := repL_pickT h2 l u c
        exact .inr (.inr ⟨a, vs, c, rfl, SqT.sub r4'.subF h1, rfl, h0.1.1, h0.1.2, by rw [h3.length]; exact fits_le h0.2, new_tup r4' h3 fun w F' H' s' r' q' => h w F' H' s' r' q'⟩)
  | _ => cases e2
end Ev
set_option Elab.async false
set_option linter.all false
set_option autoImplicit false
set_option maxRecDepth 100000
set_option maxHeartbeats 4000000
namespace Ev
open PySem PySem.Spec L2
open PyProof.Rows hiding St
/-! ### targets -/
def kNames (c : Ctx) : List Expr → Option (List Nat)
  | [] => some []
  | e :: es => match e with
    | .Name x _ => (match stOf c x, kNames c es with
      | some i, some is => some (i :: is)
      | _, _ => none)
    | _ => none
def kPrN (c : Ctx) : List Expr → Option (Nat × List Nat)
  | [.Name x _, .Tuple js _ _] => (match stOf c x, kNames c js with
    | some i, some l => some (i, l)
    | _, _ => none)
  | _ => none
def kTgt (c : Ctx) : Expr → Option Tgt
  | .Name x _ => (stOf c x).map .one
  | .Tuple es _ _ => (match kPrN c es with
    | some (i, js) => some (.pr i js)
    | none => (kNames c es).map .many)
  | _ => none
section
variable {X : Cx} {c : Ctx}
theorem kNames_ok (g : Good X c) : ∀ {es : List Expr} {is : List Nat}, kNames c es = some is → PGs X es (gNames is) ∧ es.all notStar = true ∧ is.length = es.length
  | [], is, h => by cases h; exact ⟨pgs_nil, rfl, rfl⟩
  | e :: es, is, h => by
    unfold kNames at h
    split at h
    · rename_i x p
      split at h
      · rename_i i is' e1 e2
        cases h
        obtain ⟨a, b, d⟩ := stOf_ok g e1
        obtain ⟨h1, h2, h3⟩ := kNames_ok g e2
        refine ⟨pgs_cons (pg_name g.nd a b d) h1 (by rw [notStar_each rfl]; rfl), by rw [List.all_cons, h2]; rfl, by simp [h3]⟩
      · cases h
    · cases h
theorem kTgt_ok (g : Good X c) {e : Expr} {T : Tgt} (h : kTgt c e = some T) : PG X e (gT X.K T) := by
  unfold kTgt at h
  split at h
  · rename_i x p
    cases e1 : stOf c x with
    | none => rw [e1] at h; cases h
    | some i =>
      rw [e1] at h; cases h
      obtain ⟨a, b, d⟩ := stOf_ok g e1
      exact pg_name g.nd a b d
  · rename_i es k p
    split at h
    · rename_i i js e1
      cases h
      unfold kPrN at e1
      split at e1
      · rename_i x px js' k' p'
        split at e1
        · rename_i i' l' e2 e3
          cases e1
          obtain ⟨a, b, d⟩ := stOf_ok g e2
          obtain ⟨h1, h2, h3⟩ := kNames_ok g e3
          exact pg_tup g.calm (pgs_cons (pg_name g.nd a b d) (pgs_cons (pg_tup g.calm h1 ((assignEach_len h2).1.trans h3.symm) (assignEach_len h2).2) pgs_nil (by rw [notStar_each rfl]; rfl)) (by rw [notStar_each rfl]; rfl))
            ((assignEach_len (es := [.Name x px, .Tuple js' k' p']) rfl).1) (assignEach_len (es := [.Name x px, .Tuple js' k' p']) rfl).2
        · cases e1
      · cases e1
    · cases e1 : kNames c es with
      | none => rw [e1] at h; cases h
      | some is =>
        rw [e1] at h; cases h
        obtain ⟨h1, h2, h3⟩ := kNames_ok g e1
        show PG X _ (gTup X.K is.length (gNames is))
        exact pg_tup g.calm h1 ((assignEach_len h2).1.trans h3.symm) (assignEach_len h2).2
  · cases h
end
/-! ### what is gone over -/
def isTup : Expr → Bool
  | .Tuple _ _ _ => true
  | _ => false
def notSet : Expr → Bool
  | .Set _ _ _ => false
  | _ => true
theorem notSet_ok {e : Expr} (h : notSet e = true) (env : Env) (x : Value) : foldedSetIterable e env x = pure x := by
  cases e <;> first | rfl | cases h
section
variable (E : Ctx → Expr → Option (M Op)) (T : Ctx → Expr → Option (M Bool))
def kVal (c : Ctx) (e : Expr) : Option (M (List D)) := (E c e).map cItV
def bltB (c : Ctx) (x : Str) : Bool := glB c.sc x && okB x && (c.F x).isNone && c.free.contains x
def kEnumZip (c : Ctx) (tg : Expr) (iter : Expr) : Option (M (List D)) := match tg, iter with
  | .Tuple _ _ _, .Call (.Name x _) [.Call (.Name y _) [a, b] [] _] [] _ => if decide (x = "enumerate") && decide (y = "zip") && bltB c x && bltB c y && notStar a && notStar b then (kDA E c [a, b]).map (cRng enumZipD) else none
  | _, _ => none
def kListZip (c : Ctx) (e : Expr) : Option (M Op) := match e with
  | .Call (.Name x _) [.Call (.Name y _) [a, b] [] _] [] _ => if decide (x = "list") && decide (y = "zip") && bltB c x && bltB c y && notStar a && notStar b then (kDA E c [a, b]).map cLz else none
  | _ => none
/-- replace of written texts, one behind another -/
def kRepl (c : Ctx) : Nat → Expr → Option (M Op)
  | 0, _ => none
  | n + 1, e => match e with
    | .Call (.Attribute o x apos) [.Constant (.str y) _ _, .Constant (.str z) _ _] [] pos =>
      if decide (x = "replace") && (!(y == z)) && (!y.cps.toList.isEmpty) && plainRecv o && (apos.endLine == pos.line) then ((match E c o with | some f => some f | none => kRepl c n o).map (cUn (gRepl y.cps.toList z.cps.toList))) else none
    | _ => none
/-- behind it a token is out -/
def kOut (e : Expr) : Option (M Op) := match e with
  | .Constant (.str x) _ _ => some (cC (.str x.cps.toList))
  | _ => none
def kDAT (c : Ctx) : List Expr → Option (M (List D))
  | [] => some cNil
  | e :: es => if notStar e then (match (match E c e with | some f => some f | none => kRepl E c 5 e), kDAT c es with
    | some f, some g => some (cCons f g)
    | _, _ => none) else none
def kDAr (c : Ctx) : List Expr → Option (M (List D))
  | [] => some cNil
  | e :: es => if notStar e then (match kOut e with
    | some f => (kDAT E c es).map (cCons f)
    | none => (match E c e, kDAr c es with
      | some f, some g => some (cCons f g)
      | _, _ => none)) else none
def kIter0 (c : Ctx) (tg : Expr) (iter : Expr) : Option (M (List D)) := match iter with
  | .Call (.Name x p) args [] pos => if glB c.sc x && okB x && (c.F x).isNone && c.free.contains x && args.all notStar then
      (if decide (x = "range") then (match args with
        | [a] => (kDA E c [a]).map (cRng rng1D)
        | [a, b] => (kDA E c [a, b]).map (cRng rng2D)
        | [a, b, d] => (kDA E c [a, b, d]).map (cRng rng3D)
        | _ => none)
      else if decide (x = "zip") then (match tg, args with
        | .Tuple _ _ _, [a, b] => (kDA E c [a, b]).map (cRng zip2D)
        | _, _ => none)
      else if decide (x = "enumerate") then (match tg, args with
        | .Tuple _ _ _, [a] => (kDA E c [a]).map (cRng enumD)
        | _, _ => none)
      else kVal E c iter) else kVal E c iter
  | _ => kVal E c iter
def kIter (c : Ctx) (tg : Expr) (iter : Expr) : Option (M (List D)) := match kEnumZip E c tg iter with
  | some f => some f
  | none => kIter0 E c tg iter
def kTests (c : Ctx) : List Expr → Option (M Bool)
  | [] => some (mOk true)
  | [t] => T c t
  | _ => none
def kBlkOwn (N : List Str) (scope : Scope) : List (Str × Nat) := scope.names.filterMap fun y => if y.2 = .local ∨ y.2 = .cell then (ixOf N y.1).map fun i => (y.1, i) else none
def blkCtx (c : Ctx) (scope : Scope) : Ctx := { c with sc := relS scope c.sc, blk := true, cel := (scope.names.map (·.1)).filter fun x => scope.names.lookup x == some .cell }
def subB (is js : List Nat) : Bool := is.all fun i => js.contains i
theorem subB_ok {is js : List Nat} (h : subB is js = true) : ∀ i ∈ is, i ∈ js := fun i hi => by
  have := List.all_eq_true.mp h i hi
  simpa using this
def kComp1 (c : Ctx) (elt tg iter : Expr) (ifs : List Expr) (scope : Scope) : Option (M Op) :=
  if blkC c.N c.sc scope (kBlkOwn c.N scope) && notSet iter then (match kIter E c tg iter, kTgt (blkCtx c scope) tg, kTests T (blkCtx c scope) ifs, E (blkCtx c scope) elt with
    | some fi, some Tg, some ft, some fe => if subB Tg.slots ((kBlkOwn c.N scope).map (·.2)) then some (cLc ((kBlkOwn c.N scope).map (·.2)) Tg fi ft fe) else none
    | _, _, _, _ => none) else none
def kComp2 (c : Ctx) (elt tg iter : Expr) (ifs : List Expr) (tg1 iter1 : Expr) (ifs1 : List Expr) (scope : Scope) : Option (M Op) :=
  if blkC c.N c.sc scope (kBlkOwn c.N scope) && notSet iter && notSet iter1 then (match kIter E c tg iter, kTgt (blkCtx c scope) tg, kTests T (blkCtx c scope) ifs, kIter E (blkCtx c scope) tg1 iter1, kTgt (blkCtx c scope) tg1, kTests T (blkCtx c scope) ifs1, E (blkCtx c scope) elt with
    | some fi, some Tg, some ft, some fi1, some Tg1, some ft1, some fe => if subB Tg.slots ((kBlkOwn c.N scope).map (·.2)) && subB Tg1.slots ((kBlkOwn c.N scope).map (·.2)) then some (cLc2 ((kBlkOwn c.N scope).map (·.2)) Tg1.slots Tg fi ft Tg1 fi1 ft1 fe) else none
    | _, _, _, _, _, _, _ => none) else none
def kComp (c : Ctx) (elt : Expr) (gens : List Comprehension) (scope : Scope) : Option (M Op) := match gens with
  | [⟨tg, iter, ifs, a⟩] => if decide (a = 0) then kComp1 E T c elt tg iter ifs scope else none
  | [⟨tg, iter, ifs, a⟩, ⟨tg1, iter1, ifs1, a1⟩] => if decide (a = 0) && decide (a1 = 0) then kComp2 E T c elt tg iter ifs tg1 iter1 ifs1 scope else none
  | _ => none
end
section
variable {E : Ctx → Expr → Option (M Op)} {T : Ctx → Expr → Option (M Bool)} {X : Cx} {c : Ctx}
theorem kVal_ok (h : EOk E X c) {tg iter : Expr} {f : M (List D)} (q : kVal E c iter = some f) : DI X tg iter f := by
  unfold kVal at q
  cases e : E c iter with
  | none => rw [e] at q; cases q
  | some g => rw [e] at q; cases q; exact di_val (h _ _ e)
theorem bltB_ok (g : Good X c) {x : Str} (h : bltB c x = true) : Gl X x ∧ X.mg x = none := by
  unfold bltB at h
  simp only [Bool.and_eq_true] at h
  obtain ⟨⟨⟨h1, h2⟩, h3⟩, h4⟩ := h
  exact ⟨glB_ok g h1, g.free _ (mem_contains h4)⟩
theorem kEnumZip_ok (g : Good X c) (h : EOk E X c) {tg iter : Expr} {f : M (List D)} (q : kEnumZip E c tg iter = some f) : DI X tg iter f := by
  unfold kEnumZip at q
  split at q
  · split at q
    · rename_i cc
      simp only [Bool.and_eq_true] at cc
      obtain ⟨⟨⟨⟨⟨c1, c2⟩, c3⟩, c4⟩, c5⟩, c6⟩ := cc
      have c1 := of_decide_eq_true c1
      have c2 := of_decide_eq_true c2
      subst c1 c2
      obtain ⟨g1, m1⟩ := bltB_ok g c3
      obtain ⟨g2, m2⟩ := bltB_ok g c4
      cases e : kDA E c [_, _] with
      | none => rw [e] at q; cases q
      | some f1 => rw [e] at q; cases q; exact di_enumZip g1 m1 g2 m2 (kDA_ok h e) c5 (by rw [List.all_cons, c6]; rfl)
    · cases q
  · cases q
theorem kListZip_ok (g : Good X c) (h : EOk E X c) {e : Expr} {f : M Op} (q : kListZip E c e = some f) : DE X e f := by
  unfold kListZip at q
  split at q
  · split at q
    · rename_i cc
      simp only [Bool.and_eq_true] at cc
      obtain ⟨⟨⟨⟨⟨c1, c2⟩, c3⟩, c4⟩, c5⟩, c6⟩ := cc
      have c1 := of_decide_eq_true c1
      have c2 := of_decide_eq_true c2
      subst c1 c2
      obtain ⟨g1, m1⟩ := bltB_ok g c3
      obtain ⟨g2, m2⟩ := bltB_ok g c4
      cases e : kDA E c [_, _] with
      | none => rw [e] at q; cases q
      | some f1 => rw [e] at q; cases q; exact de_listZip g.calm g1 m1 g2 m2 (kDA_ok h e) c5 (by rw [List.all_cons, c6]; rfl)
    · cases q
  · cases q
theorem kRepl_ok (h : EOk E X c) : ∀ {n : Nat} {e : Expr} {f : M Op}, kRepl E c n e = some f → DET X e f
  | 0, e, f, q => by cases q
  | n + 1, e, f, q => by
    unfold kRepl at q
    split at q
    · split at q
      · rename_i cc
        simp only [Bool.and_eq_true, Bool.not_eq_true'] at cc
        obtain ⟨⟨⟨⟨c1, c2⟩, c3⟩, c4⟩, c5⟩ := cc
        have c1 := of_decide_eq_true c1
        subst c1
        split at q
        · rename_i f1 e1
          cases q
          exact det_repl (.of (h _ _ e1)) c2 c3 c4 c5
        · rename_i e1
          cases e2 : kRepl E c n _ with
          | none => rw [e2] at q; cases q
          | some f1 => rw [e2] at q; cases q; exact det_repl (kRepl_ok h e2) c2 c3 c4 c5
      · cases q
    · cases q
theorem kDAT_ok (h : EOk E X c) : ∀ {es : List Expr} {f : M (List D)}, kDAT E c es = some f → DAT X es f
  | [], f, e => by cases e; exact dat_nil
  | x :: es, f, e => by
    unfold kDAT at e
    split at e
    · rename_i hs
      split at e
      · rename_i f1 g1 e1 e2
        cases e
        split at e1
        · rename_i f2 e3
          cases e1
          exact dat_cons (.of (h _ _ e3)) (kDAT_ok h e2) hs
        · exact dat_cons (kRepl_ok h e1) (kDAT_ok h e2) hs
      · cases e
    · cases e
theorem kOut_ok {e : Expr} {f : M Op} (q : kOut e = some f) : DEO X e f := by
  unfold kOut at q
  split at q
  · cases q; exact deo_str
  · cases q
theorem kDAr_ok (h : EOk E X c) : ∀ {es : List Expr} {f : M (List D)}, kDAr E c es = some f → DA X es f
  | [], f, e => by cases e; exact da_nil
  | x :: es, f, e => by
    unfold kDAr at e
    split at e
    · rename_i hs
      split at e
      · rename_i f1 e1
        cases e2 : kDAT E c es with
        | none => rw [e2] at e; cases e
        | some g1 => rw [e2] at e; cases e; exact da_consO (kOut_ok e1) (kDAT_ok h e2) hs
      · split at e
        · rename_i f1 g1 e1 e2
          cases e
          exact da_cons (h _ _ e1) (kDAr_ok h e2) hs
        · cases e
    · cases e
theorem kIter_ok (g : Good X c) (h : EOk E X c) {tg iter : Expr} {f : M (List D)} (q : kIter E c tg iter = some f) : DI X tg iter f := by
  unfold kIter at q
  split at q
  · rename_i f1 e1
    cases q
    exact kEnumZip_ok g h e1
  unfold kIter0 at q
  split at q
  · rename_i x p args pos
    split at q
    · rename_i cc
      simp only [Bool.and_eq_true] at cc
      obtain ⟨⟨⟨⟨c1, c2⟩, c3⟩, c4⟩, c5⟩ := cc
      have gl := glB_ok g c1
      have mg := g.free _ (mem_contains c4)
      split at q
      · rename_i hx
        have hx := of_decide_eq_true hx
        subst hx
        split at q
        · cases e : kDA E c [_] with
          | none => rw [e] at q; cases q
          | some f1 => rw [e] at q; cases q; simp only [List.all_cons, List.all_nil, Bool.and_true] at c5; exact di_range1 gl mg (kDA_ok h e) c5
        · cases e : kDA E c [_, _] with
          | none => rw [e] at q; cases q
          | some f1 => rw [e] at q; cases q; simp only [List.all_cons, List.all_nil, Bool.and_true, Bool.and_eq_true] at c5; exact di_range2 gl mg (kDA_ok h e) c5.1 c5.2
        · cases e : kDA E c [_, _, _] with
          | none => rw [e] at q; cases q
          | some f1 => rw [e] at q; cases q; rw [List.all_cons, Bool.and_eq_true] at c5; exact di_range3 gl mg (kDA_ok h e) c5.1 c5.2
        · cases q
      · split at q
        · rename_i hx
          have hx := of_decide_eq_true hx
          subst hx
          split at q
          · cases e : kDA E c [_, _] with
            | none => rw [e] at q; cases q
            | some f1 => rw [e] at q; cases q; rw [List.all_cons, Bool.and_eq_true] at c5; exact di_zip gl mg (kDA_ok h e) c5.1 c5.2
          · cases q
        · split at q
          · rename_i hx
            have hx := of_decide_eq_true hx
            subst hx
            split at q
            · cases e : kDA E c [_] with
              | none => rw [e] at q; cases q
              | some f1 => rw [e] at q; cases q; simp only [List.all_cons, List.all_nil, Bool.and_true] at c5; exact di_enum gl mg (kDA_ok h e) c5
            · cases q
          · exact kVal_ok h q
    · exact kVal_ok h q
  · exact kVal_ok h q
def TOk (T : Ctx → Expr → Option (M Bool)) (X : Cx) (c : Ctx) : Prop := ∀ e f, T c e = some f → DT X e f
theorem kTests_ok (h : TOk T X c) {ifs : List Expr} {f : M Bool} (q : kTests T c ifs = some f) : DTs X ifs f := by
  unfold kTests at q
  split at q
  · cases q; exact dts_nil
  · exact dts_one (h _ _ q)
  · cases q
theorem blk_good (g : Good X c) {scope : Scope} {own : List (Str × Nat)} (hb : blkC c.N c.sc scope own = true) (s : Shared) (H : Hp) (C : Addr) (cl : List (Str × Addr)) (fp : List Addr) : Good (X.blk s H scope (compEnvC scope cl C X.env) fp) (blkCtx c scope) := by
  have hk := (blkOk_by hb).kind
  refine ⟨g.N, g.nd, g.calm, ?_, g.un, hk, (fun z => nomatch z), (fun x hx => (List.mem_filter.mp hx).2), (fun z => nomatch z), g.free, g.cst, (fun x fi h => ?_), g.xf, g.rm, (fun z => nomatch z)⟩
  · show relS scope X.env.scope = relS scope c.sc
    rw [g.sc]
  · obtain ⟨a, b⟩ := g.F x fi h
    exact ⟨a, b⟩
theorem kComp1_ok (g : Good X c) (hE : ∀ X c, Good X c → EOk E X c) (hT : ∀ X c, Good X c → TOk T X c) {elt tg iter : Expr} {ifs : List Expr} {scope : Scope} {f : M Op} {pos : Pos} (q : kComp1 E T c elt tg iter ifs scope = some f) :
    DE X (.ListComp elt [⟨tg, iter, ifs, 0⟩] scope pos) f ∧ ∀ {i : Nat} {y : Str} {py spos : Pos}, X.N[i]? = some y → X.env.scope.names.lookup y = some .local → swapsWith (.ListComp elt [⟨tg, iter, ifs, 0⟩] scope pos) (some (.Name y py)) spos.line X.env = pure true → DS X (.Assign [.Name y py] (.ListComp elt [⟨tg, iter, ifs, 0⟩] scope pos) spos) (cAsg i f) := by
  unfold kComp1 at q
  split at q
  · rename_i cc
    rw [Bool.and_eq_true] at cc
    split at q
    · rename_i fi Tg ft fe e1 e2 e3 e4
      split at q
      · rename_i cs
        cases q
        have bk : BlkOk X.N X.env.scope scope (kBlkOwn c.N scope) := by rw [g.N, g.sc]; exact blkOk_by cc.1
        have gb := fun s H C cl fp => blk_good g cc.1 s H C cl fp
        exact ⟨(de_lc g.calm g.nd (kIter_ok g (hE X c g) e1) bk (fun s H C cl fp => kTgt_ok (gb s H C cl fp) e2) (fun s H C cl fp => kTests_ok (hT _ _ (gb s H C cl fp)) e3) (fun s H C cl fp => hE _ _ (gb s H C cl fp) _ _ e4) (subB_ok cs) (notSet_ok cc.2 _)).1,
          fun hy hyl hsw => ds_setLc g.calm g.nd hy hyl hsw (kIter_ok g (hE X c g) e1) bk (fun s H C cl fp => kTgt_ok (gb s H C cl fp) e2) (fun s H C cl fp => kTests_ok (hT _ _ (gb s H C cl fp)) e3) (fun s H C cl fp => hE _ _ (gb s H C cl fp) _ _ e4) (subB_ok cs) (notSet_ok cc.2 _)⟩
      · cases q
    · cases q
  · cases q
theorem kComp2_ok (g : Good X c) (hE : ∀ X c, Good X c → EOk E X c) (hT : ∀ X c, Good X c → TOk T X c) {elt tg iter tg1 iter1 : Expr} {ifs ifs1 : List Expr} {scope : Scope} {f : M Op} {pos : Pos} (q : kComp2 E T c elt tg iter ifs tg1 iter1 ifs1 scope = some f) :
    DE X (.ListComp elt [⟨tg, iter, ifs, 0⟩, ⟨tg1, iter1, ifs1, 0⟩] scope pos) f ∧ ∀ {i : Nat} {y : Str} {py spos : Pos}, X.N[i]? = some y → X.env.scope.names.lookup y = some .local → swapsWith (.ListComp elt [⟨tg, iter, ifs, 0⟩, ⟨tg1, iter1, ifs1, 0⟩] scope pos) (some (.Name y py)) spos.line X.env = pure true → DS X (.Assign [.Name y py] (.ListComp elt [⟨tg, iter, ifs, 0⟩, ⟨tg1, iter1, ifs1, 0⟩] scope pos) spos) (cAsg i f) := by
  unfold kComp2 at q
  split at q
  · rename_i cc
    rw [Bool.and_eq_true, Bool.and_eq_true] at cc
    split at q
    · rename_i fi Tg ft fi1 Tg1 ft1 fe e1 e2 e3 e5 e6 e7 e4
      split at q
      · rename_i cs
        rw [Bool.and_eq_true] at cs
        cases q
        have bk : BlkOk X.N X.env.scope scope (kBlkOwn c.N scope) := by rw [g.N, g.sc]; exact blkOk_by cc.1.1
        have gb := fun s H C cl fp => blk_good g cc.1.1 s H C cl fp
        exact ⟨(de_lc2 g.calm g.nd (kIter_ok g (hE X c g) e1) bk (subB_ok cs.2) (fun s H C cl fp => kTgt_ok (gb s H C cl fp) e2) (fun s H C cl fp => kTests_ok (hT _ _ (gb s H C cl fp)) e3) (fun s H C cl fp => kIter_ok (gb s H C cl fp) (hE _ _ (gb s H C cl fp)) e5) (fun s H C cl fp => kTgt_ok (gb s H C cl fp) e6) (fun s H C cl fp => kTests_ok (hT _ _ (gb s H C cl fp)) e7)
            (fun s H C cl fp => hE _ _ (gb s H C cl fp) _ _ e4) (subB_ok cs.1) (fun _ h => h) (notSet_ok cc.1.2 _) (notSet_ok cc.2)).1,
          fun hy hyl hsw => ds_setLc2 g.calm g.nd hy hyl hsw (kIter_ok g (hE X c g) e1) bk (subB_ok cs.2) (fun s H C cl fp => kTgt_ok (gb s H C cl fp) e2) (fun s H C cl fp => kTests_ok (hT _ _ (gb s H C cl fp)) e3) (fun s H C cl fp => kIter_ok (gb s H C cl fp) (hE _ _ (gb s H C cl fp)) e5) (fun s H C cl fp => kTgt_ok (gb s H C cl fp) e6) (fun s H C cl fp => kTests_ok (hT _ _ (gb s H C cl fp)) e7)
            (fun s H C cl fp => hE _ _ (gb s H C cl fp) _ _ e4) (subB_ok cs.1) (fun _ h => h) (notSet_ok cc.1.2 _) (notSet_ok cc.2)⟩
      · cases q
    · cases q
  · cases q
theorem kComp_ok (g : Good X c) (hE : ∀ X c, Good X c → EOk E X c) (hT : ∀ X c, Good X c → TOk T X c) {elt : Expr} {gens : List Comprehension} {scope : Scope} {f : M Op} {pos : Pos} (q : kComp E T c elt gens scope = some f) :
    DE X (.ListComp elt gens scope pos) f ∧ ∀ {i : Nat} {y : Str} {py spos : Pos}, X.N[i]? = some y → X.env.scope.names.lookup y = some .local → swapsWith (.ListComp elt gens scope pos) (some (.Name y py)) spos.line X.env = pure true → DS X (.Assign [.Name y py] (.ListComp elt gens scope pos) spos) (cAsg i f) := by
  unfold kComp at q
  split at q
  · split at q
    · rename_i ha
      have ha := of_decide_eq_true ha
      subst ha
      exact kComp1_ok g hE hT q
    · cases q
  · split at q
    · rename_i ha
      rw [Bool.and_eq_true] at ha
      have h1 := of_decide_eq_true ha.1
      have h2 := of_decide_eq_true ha.2
      subst h1; subst h2
      exact kComp2_ok g hE hT q
    · cases q
  · cases q
end
/-! ### expressions -/
def gIx : D → D → Option Op := fun x y => (gIxQ x y).orElse fun _ => (gIxS x y).orElse fun _ => gIxD x y
section
variable (E : Ctx → Expr → Option (M Op)) (T : Ctx → Expr → Option (M Bool))
def kPart (c : Ctx) : Option Expr → Option (M (Option Int))
  | none => some (cPart none)
  | some e => (E c e).map fun f => cPart (some f)
def kAnd (c : Ctx) : List Expr → Option (M Op)
  | [] => none
  | [e] => E c e
  | e :: e2 :: es => match E c e, kAnd c (e2 :: es) with
    | some f, some g => some (cAnd f g)
    | _, _ => none
def kOr (c : Ctx) : List Expr → Option (M Op)
  | [] => none
  | [e] => E c e
  | e :: e2 :: es => match E c e, kOr c (e2 :: es) with
    | some f, some g => some (cOr f g)
    | _, _ => none
def kAndT (c : Ctx) : List Expr → Option (M Bool)
  | [] => none
  | [e] => T c e
  | e :: e2 :: es => match T c e, kAndT c (e2 :: es) with
    | some f, some g => some (cAndT f g)
    | _, _ => none
def kOrT (c : Ctx) : List Expr → Option (M Bool)
  | [] => none
  | [e] => T c e
  | e :: e2 :: es => match T c e, kOrT c (e2 :: es) with
    | some f, some g => some (cOrT f g)
    | _, _ => none
def kCmp (c : Ctx) (a : Expr) (ops : List CmpOp) (bs : List Expr) : Option (M Op) := match ops, bs with
  | [op], [b] => if !behindInMarks op b then (match E c a, E c b with
    | some fa, some fb => some (cCmp (cmpG op) fa fb)
    | _, _ => none) else none
  | [op, op'], [b, d] => if !lastMarks [op, op'] [b, d] then (match E c a, E c b, E c d with
    | some fa, some fb, some fd => some (cChain (cmpG op) (cmpG op') fa fb fd)
    | _, _, _ => none) else none
  | _, _ => none
def kCmpT (c : Ctx) (a : Expr) (ops : List CmpOp) (bs : List Expr) : Option (M Bool) := match ops, bs with
  | [op], [b] => if !behindInMarks op b then (match E c a, E c b with
    | some fa, some fb => some (cCmpT (cmpG op) fa fb)
    | _, _ => none) else none
  | [op, op'], [b, d] => if !lastMarks [op, op'] [b, d] then (match E c a, E c b, E c d with
    | some fa, some fb, some fd => some (asT (cChain (cmpG op) (cmpG op') fa fb fd))
    | _, _, _ => none) else none
  | _, _ => none
def kSub (c : Ctx) (a s : Expr) : Option (M Op) := match s with
  | .Slice lo hi st _ => (match st with
    | none => (match E c a, kPart E c lo, kPart E c hi with
      | some f, some l, some u => some (cSl f l u)
      | _, _, _ => none)
    | some st => (match E c a, kPart E c lo, kPart E c hi, kPart E c (some st) with
      | some f, some l, some u, some t => some (cSl3 f l u t)
      | _, _, _, _ => none))
  | _ => match E c a, E c s with
    | some fa, some fb => some (cBin gIx fa fb)
    | _, _ => none
def kPairs (c : Ctx) : List (Option Expr) → List Expr → Option (List (M Op × M Op))
  | [], [] => some []
  | some k :: ks, v :: vs => match E c k, E c v, kPairs c ks vs with
    | some f, some g, some l => some ((f, g) :: l)
    | _, _, _ => none
  | _, _ => none
def stepE (c : Ctx) (e : Expr) : Option (M Op) := match e with
  | .Name x _ => kName c x
  | .Constant k _ _ => kConst k
  | .BinOp a op b _ => (match binG op, E c a, E c b with
    | some g, some fa, some fb => some (cBin g fa fb)
    | _, _, _ => none)
  | .UnaryOp op a _ => (match op with
    | .USub => (E c a).map (cUn gNeg)
    | .Not => (E c a).map cNot
    | _ => none)
  | .BoolOp op es _ => (match op with
    | .And => kAnd E c es
    | .Or => kOr E c es)
  | .Compare a ops bs _ => kCmp E c a ops bs
  | .IfExp t a b _ => (match T c t, E c a, E c b with
    | some ft, some fa, some fb => some (cIf ft fa fb)
    | _, _, _ => none)
  | .Call f args kws pos => (match kListZip E c (.Call f args kws pos) with
    | some r => some r
    | none => kCall E c f args kws pos)
  | .Subscript a s _ => kSub E c a s
  | .Tuple es _ _ => (kDA E c es).map cTup
  | .List es _ => (match kDA E c es with
    | some f => some (cLst f)
    | none => (kDAr E c es).map cLst)
  | .Dict keys values pos => if keys.isEmpty && values.isEmpty then some (cNewD (c.hint pos.line)) else if keys.all (·.isSome) && decide (keys.length = values.length) && !keys.isEmpty && decide (keys.length ≤ 15) then (kPairs E c keys values).map cDisp else none
  | .ListComp elt gens scope _ => kComp E T c elt gens scope
  | _ => none
def plainT : Expr → Bool
  | .UnaryOp op _ _ => (match op with | .Not => false | _ => true)
  | .BoolOp _ _ _ => false
  | .IfExp _ _ _ _ => false
  | .Compare _ _ _ _ => false
  | _ => true
def stepT (c : Ctx) (e : Expr) : Option (M Bool) := match e with
  | .UnaryOp op a _ => (match op with
    | .Not => (T c a).map cNotT
    | _ => (E c e).map cTru)
  | .BoolOp op es _ => (match op with
    | .And => kAndT T c es
    | .Or => kOrT T c es)
  | .IfExp _ _ _ _ => none
  | .Compare a ops bs _ => kCmpT E c a ops bs
  | _ => (E c e).map cTru
end
section
variable {E : Ctx → Expr → Option (M Op)} {T : Ctx → Expr → Option (M Bool)} {X : Cx} {c : Ctx}
theorem kPart_ok (h : EOk E X c) {e : Option Expr} {f : M (Option Int)} (q : kPart E c e = some f) : DP X e f := by
  cases e with
  | none => cases q; exact dp_none
  | some e =>
    have q : (E c e).map (fun f => cPart (some f)) = some f := q
    cases e1 : E c e with
    | none => rw [e1] at q; cases q
    | some g => rw [e1] at q; cases q; exact dp_some (h _ _ e1)
theorem kAnd_ok (h : EOk E X c) {p : Pos} : ∀ {es : List Expr} {f : M Op}, kAnd E c es = some f → DE X (.BoolOp .And es p) f
  | [], f, q => by cases q
  | [e], f, q => de_one (h _ _ q)
  | e :: e2 :: es, f, q => by
    unfold kAnd at q
    split at q
    · rename_i f1 g1 e1 e3
      cases q
      exact de_and (h _ _ e1) (kAnd_ok h e3)
    · cases q
theorem kOr_ok (h : EOk E X c) {p : Pos} : ∀ {es : List Expr} {f : M Op}, kOr E c es = some f → DE X (.BoolOp .Or es p) f
  | [], f, q => by cases q
  | [e], f, q => de_one (h _ _ q)
  | e :: e2 :: es, f, q => by
    unfold kOr at q
    split at q
    · rename_i f1 g1 e1 e3
      cases q
      exact de_or (h _ _ e1) (kOr_ok h e3)
    · cases q
theorem kAndT_ok (h : TOk T X c) {p : Pos} : ∀ {es : List Expr} {f : M Bool}, kAndT T c es = some f → DW X (.BoolOp .And es p) f
  | [], f, q => by cases q
  | [e], f, q => dw_and1 (h _ _ q)
  | e :: e2 :: es, f, q => by
    unfold kAndT at q
    split at q
    · rename_i f1 g1 e1 e3
      cases q
      exact dw_and (h _ _ e1) (kAndT_ok h e3)
    · cases q
theorem kOrT_ok (h : TOk T X c) {p : Pos} : ∀ {es : List Expr} {f : M Bool}, kOrT T c es = some f → DW X (.BoolOp .Or es p) f
  | [], f, q => by cases q
  | [e], f, q => dw_or1 (h _ _ q)
  | e :: e2 :: es, f, q => by
    unfold kOrT at q
    split at q
    · rename_i f1 g1 e1 e3
      cases q
      exact dw_or (h _ _ e1) (kOrT_ok h e3)
    · cases q
theorem bnot_eq {b : Bool} (h : (!b) = true) : b = false := by cases b <;> simp_all
theorem kCmp_ok (g : Good X c) (h : EOk E X c) {a : Expr} {ops : List CmpOp} {bs : List Expr} {p : Pos} {f : M Op} (q : kCmp E c a ops bs = some f) : DE X (.Compare a ops bs p) f := by
  unfold kCmp at q
  split at q
  · rename_i op b
    split at q
    · rename_i hm
      split at q
      · rename_i fa fb e1 e2
        cases q
        obtain ⟨r, o1, o2⟩ := cmp_ok (X := X) g.un op
        exact de_cmp o1 o2 (h _ _ e1) (h _ _ e2) (bnot_eq hm)
      · cases q
    · cases q
  · rename_i op op' b d
    split at q
    · rename_i hm
      split at q
      · rename_i fa fb fd e1 e2 e3
        cases q
        obtain ⟨r, o1, o2⟩ := cmp_ok (X := X) g.un op
        obtain ⟨r', o3, o4⟩ := cmp_ok (X := X) g.un op'
        exact de_chain o1 o2 o3 o4 (h _ _ e1) (h _ _ e2) (h _ _ e3) (bnot_eq hm)
      · cases q
    · cases q
  · cases q
theorem kCmpT_ok (g : Good X c) (h : EOk E X c) {a : Expr} {ops : List CmpOp} {bs : List Expr} {p : Pos} {f : M Bool} (q : kCmpT E c a ops bs = some f) : DT X (.Compare a ops bs p) f := by
  unfold kCmpT at q
  split at q
  · rename_i op b
    split at q
    · rename_i hm
      split at q
      · rename_i fa fb e1 e2
        cases q
        obtain ⟨r, o1, o2⟩ := cmp_ok (X := X) g.un op
        exact dt_cmp o1 o2 (h _ _ e1) (h _ _ e2) (bnot_eq hm)
      · cases q
    · cases q
  · rename_i op op' b d
    split at q
    · rename_i hm
      split at q
      · rename_i fa fb fd e1 e2 e3
        cases q
        obtain ⟨r, o1, o2⟩ := cmp_ok (X := X) g.un op
        obtain ⟨r', o3, o4⟩ := cmp_ok (X := X) g.un op'
        exact dt_chain o1 o2 o3 o4 (h _ _ e1) (h _ _ e2) (h _ _ e3) (bnot_eq hm)
      · cases q
    · cases q
  · cases q
theorem ix_all (g : Good X c) : ∃ r, IxR X r ∧ OpG X.K r gIx := ⟨_, (ix_list.or ix_tup).or (ix_str.or (ix_dict (by have := g.un; omega))), og_ixQ.or (og_ixS.or og_ixD)⟩
theorem kSub_ok (g : Good X c) (h : EOk E X c) {a s : Expr} {p : Pos} {f : M Op} (q : kSub E c a s = some f) : DE X (.Subscript a s p) f := by
  unfold kSub at q
  split at q
  · split at q
    · split at q
      · rename_i f1 l u e1 e2 e3
        cases q
        exact de_slice (h _ _ e1) (kPart_ok h e2) (kPart_ok h e3)
      · cases q
    · split at q
      · rename_i f1 l u t e1 e2 e3 e4
        cases q
        exact de_slice3 (h _ _ e1) (kPart_ok h e2) (kPart_ok h e3) (kPart_ok h e4)
      · cases q
  · rename_i hn
    split at q
    · rename_i fa fb e1 e2
      cases q
      obtain ⟨r, o1, o2⟩ := ix_all (X := X) g
      refine de_ix o1 o2 (h _ _ e1) (h _ _ e2) ?_
      cases s <;> first | rfl | exact absurd rfl (hn _ _ _ _)
    · cases q
theorem kPairs_ok (h : EOk E X c) {pos : Pos} : ∀ {ks : List (Option Expr)} {vs : List Expr} {l : List (M Op × M Op)}, kPairs E c ks vs = some l → DPs X pos ks vs l
  | [], [], l, q => by cases q; exact dps_nil
  | [], _ :: _, l, q => by cases q
  | none :: ks, [], l, q => by cases q
  | none :: ks, _ :: _, l, q => by cases q
  | some k :: ks, [], l, q => by cases q
  | some k :: ks, v :: vs, l, q => by
    unfold kPairs at q
    split at q
    · rename_i f g l' e1 e2 e3
      cases q
      exact dps_cons (h _ _ e1) (h _ _ e2) (kPairs_ok h e3)
    · cases q
theorem stepE_ok (g : Good X c) (hE : ∀ X c, Good X c → EOk E X c) (hT : ∀ X c, Good X c → TOk T X c) : EOk (stepE E T) X c := by
  intro e f q
  have h := hE X c g
  unfold stepE at q
  split at q
  · exact kName_ok g q
  · exact kConst_ok q
  · split at q
    · rename_i g1 fa fb e1 e2 e3
      cases q
      exact binG_ok e1 (h _ _ e2) (h _ _ e3)
    · cases q
  · rename_i op a p
    split at q
    · cases e1 : E c a with
      | none => rw [e1] at q; cases q
      | some f1 => rw [e1] at q; cases q; exact de_neg (h _ _ e1)
    · cases e1 : E c a with
      | none => rw [e1] at q; cases q
      | some f1 => rw [e1] at q; cases q; exact de_not (h _ _ e1)
    · cases q
  · split at q
    · exact kAnd_ok h q
    · exact kOr_ok h q
  · exact kCmp_ok g h q
  · split at q
    · rename_i ft fa fb e1 e2 e3
      cases q
      exact de_if (hT X c g _ _ e1) (h _ _ e2) (h _ _ e3)
    · cases q
  · split at q
    · rename_i r e1
      cases q
      exact kListZip_ok g h e1
    · exact kCall_ok g h q
  · exact kSub_ok g h q
  · rename_i es k p
    cases e1 : kDA E c es with
    | none => rw [e1] at q; cases q
    | some f1 => rw [e1] at q; cases q; exact de_tup (kDA_ok h e1)
  · rename_i es p
    split at q
    · rename_i f1 e1
      cases q
      exact de_lst (kDA_ok h e1)
    · cases e1 : kDAr E c es with
      | none => rw [e1] at q; cases q
      | some f1 => rw [e1] at q; cases q; exact de_lst (kDAr_ok h e1)
  · rename_i keys values pos
    split at q
    · rename_i he
      rw [Bool.and_eq_true] at he
      have e1 : keys = [] := by cases keys with
        | nil => rfl
        | cons a l => exact absurd he.1 (by simp)
      have e2 : values = [] := by cases values with
        | nil => rfl
        | cons a l => exact absurd he.2 (by simp)
      subst e1 e2
      cases q
      cases c.hint pos.line
      · exact de_dnewK
      · exact de_dnewT
    · split at q
      · rename_i hc
        simp only [Bool.and_eq_true] at hc
        obtain ⟨⟨⟨h1, h2⟩, h3⟩, h4⟩ := hc
        cases e1 : kPairs E c keys values with
        | none => rw [e1] at q; cases q
        | some l =>
          rw [e1] at q
          cases q
          exact de_disp (kPairs_ok h e1) h1 (of_decide_eq_true h2) (fun z => by subst z; simp at h3) (of_decide_eq_true h4)
      · cases q
  · exact (kComp_ok g hE hT q).1
  · cases q
theorem tru_of (h : EOk E X c) {e : Expr} {f : M Bool} (q : (E c e).map cTru = some f) (he : ∀ whole, isTrue e X.env whole = (do let v ← whole; standAt e.pos; holding [v] (truthy v))) : DT X e f := by
  cases e1 : E c e with
  | none => rw [e1] at q; cases q
  | some f1 => rw [e1] at q; cases q; exact dt_tru (h _ _ e1) he
theorem stepT_ok (g : Good X c) (hE : ∀ X c, Good X c → EOk E X c) (hT : ∀ X c, Good X c → TOk T X c) : TOk (stepT E T) X c := by
  intro e f q
  have h := hE X c g
  have ht := hT X c g
  unfold stepT at q
  split at q
  · rename_i op a p
    split at q
    · cases e1 : T c a with
      | none => rw [e1] at q; cases q
      | some f1 => rw [e1] at q; cases q; exact dt_not (ht _ _ e1)
    · rename_i hn
      refine tru_of h q fun whole => ?_
      cases op <;> first | rfl | exact absurd rfl hn
  · split at q
    · exact (kAndT_ok ht q).dt
    · exact (kOrT_ok ht q).dt
  · cases q
  · exact kCmpT_ok g h q
  · rename_i n1 n2 n3 n4
    refine tru_of h q fun whole => ?_
    cases e <;> first | rfl | exact absurd rfl (n1 _ _ _) | exact absurd rfl (n2 _ _ _) | exact absurd rfl (n3 _ _ _ _) | exact absurd rfl (n4 _ _ _ _)
end
/-! ### down to any depth -/
def comp : Nat → (Ctx → Expr → Option (M Op)) × (Ctx → Expr → Option (M Bool))
  | 0 => (fun _ _ => none, fun _ _ => none)
  | n + 1 => (stepE (comp n).1 (comp n).2, stepT (comp n).1 (comp n).2)
theorem comp_ok : ∀ n : Nat, (∀ X c, Good X c → EOk (comp n).1 X c) ∧ (∀ X c, Good X c → TOk (comp n).2 X c)
  | 0 => ⟨fun _ _ _ _ _ h => (nomatch h), fun _ _ _ _ _ h => (nomatch h)⟩
  | n + 1 => ⟨fun X c g => stepE_ok g (comp_ok n).1 (comp_ok n).2, fun X c g => stepT_ok g (comp_ok n).1 (comp_ok n).2⟩
end Ev
set_option Elab.async false
set_option linter.all false
set_option autoImplicit false
set_option maxRecDepth 100000
set_option maxHeartbeats 4000000
namespace Ev
open PySem PySem.Spec L2
open PyProof.Rows hiding St
open PySem.EvX (fl)
/-! ### the values of an except suite, from their text -/
def kXk : Const → Option D
  | .none => some .non
  | .bool b => some (.bl b)
  | .int i => some (.int i)
  | .str s => some (.str s.cps.toList)
  | _ => none
def kXs (k : Expr → Option (Str → Bool → D → Option D)) : List Expr → Option (Str → Bool → D → Option (List D))
  | [] => some fun _ _ _ => some []
  | e :: es => if notStar e then (match k e, kXs k es with
    | some f, some fs => some fun x g d => consO (f x g d) (fs x g d)
    | _, _ => none) else none
def ownB (c : Ctx) (y : Str) : Bool := decide (y = c.top) || c.xt.any fun p => decide (p.1 = y)
def kXT (c : Ctx) (n : Str) : Nat → Expr → Option (Str → Option Bool)
  | 0, _ => none
  | k + 1, e => match e with
    | .Call (.Name q _) [.Name m _, .Name y _] [] _ => if decide (q = "isinstance") && decide (m = n) && glB c.sc q && c.free.contains q && glB c.sc y && okB y && ownB c y then some fun x => some (decide (x = y) || decide (y = c.top)) else none
    | .UnaryOp op e _ => (match op with
      | .Not => (kXT c n k e).map fun f => fun x => (f x).map (!·)
      | _ => none)
    | _ => none
def fldD (f : Str) : Str → Bool → D → Option D := fun _ g d => if decide (fl g = f) then some d else none
def kX (c : Ctx) (n : Str) : Nat → Expr → Option (Str → Bool → D → Option D)
  | 0, _ => none
  | k + 1, e => match e with
    | .Constant k' _ _ => (kXk k').map fun d => fun _ _ _ => some d
    | .Attribute (.Name m _) f _ => if decide (m = n) && (decide (f = fl true) || decide (f = fl false)) then some (fldD f) else none
    | .List es _ => (kXs (kX c n k) es).map fun l => fun x g d => lstO (l x g d)
    | .Tuple es _ _ => (kXs (kX c n k) es).map fun l => fun x g d => tupO (l x g d)
    | .IfExp t a b _ => (match kXT c n k t, kX c n k a, kX c n k b with
      | some ft, some fa, some fb => some fun x g d => ifO (ft x) (fa x g d) (fb x g d)
      | _, _, _ => none)
    | _ => none
section
variable {X : Cx} {c : Ctx} {i : Nat} {n : Str}
theorem dx_no {X' : Cx} {a dd : Addr} {g : Bool} {v0 : V} {d0 : D} {e : Expr} : DX X' i a dd g v0 d0 e none := ⟨fun pins s σ H Q I h => by
  obtain ⟨_, _, _, _, _, _, _, d, e1, _⟩ := h
  cases e1⟩
theorem kXk_ok {X' : Cx} {k : Const} {d : D} {j : Nat} {p : Pos} (h : kXk k = some d) : DE X' (.Constant k j p) (cC d) := by
  cases k <;> cases h
  · exact de_non
  · exact de_bl
  · exact de_int
  · exact de_str
theorem own_of {y : Str} (h : ownB c y = true) : y = c.top ∨ ∃ g, (y, g) ∈ c.xt := by
  unfold ownB at h
  rw [Bool.or_eq_true] at h
  rcases h with h | h
  · exact .inl (of_decide_eq_true h)
  · obtain ⟨p, m, e⟩ := List.any_eq_true.mp h
    have e := of_decide_eq_true e
    subst e
    exact .inr ⟨p.2, m⟩
abbrev TestOk (X : Cx) (xt : List (Str × Bool)) (i : Nat) (e : Expr) (val : Str → Option Bool) : Prop :=
  ∀ (x : Str) (g : Bool), (x, g) ∈ xt → ∀ (a dd : Addr) (oe : Obj) (pn : List (Addr × Obj)) (v0 : V) (d0 : D), Zc (.ref (He.ga X.K x)) (some dd) oe → (∃ vs, oe.data = .fields vs) → DXT (X.suite a ((a, oe) :: pn)) i a dd g v0 d0 e (val x)
theorem kXT_ok (g : Good X c) (hi : X.N[i]? = some n) (hv : Vis X.env.scope n) (h1 : (n == ("__debug__" : Str)) = false) (h2 : (n == ("__classdict__" : Str)) = false) : ∀ (k : Nat) (e : Expr) (f : Str → Option Bool), kXT c n k e = some f → TestOk X c.xt i e f
  | 0, _, _, q => (nomatch q)
  | k + 1, e, f, q => by
    unfold kXT at q
    split at q
    · split at q
      · rename_i cc
        simp only [Bool.and_eq_true] at cc
        obtain ⟨⟨⟨⟨⟨⟨c1, c2⟩, c3⟩, c4⟩, c5⟩, c6⟩, c7⟩ := cc
        have c1 := of_decide_eq_true c1
        have c2 := of_decide_eq_true c2
        subst c1 c2
        cases q
        intro x g' hm a dd oe pn v0 d0 hz hf
        have o := own_of c7
        exact dxt_isi (g.xf.cl x g' hm) hz hf hi hv h1 h2 (glB_ok g c3) (g.free _ (mem_contains c4)) (glB_ok g c5) (g.xf.mg _ o (fun z => by rw [z] at hm; cases hm)) (okB_ok c6).1 (g.xf.kt x g' hm _ o)
      · cases q
    · rename_i op e2 p2
      split at q
      · cases e1 : kXT c n k e2 with
        | none => rw [e1] at q; cases q
        | some f2 =>
          rw [e1] at q
          cases q
          exact fun x g' hm a dd oe pn v0 d0 hz hf => dxt_not (kXT_ok g hi hv h1 h2 k e2 f2 e1 x g' hm a dd oe pn v0 d0 hz hf)
      · cases q
    · cases q
abbrev ValsOk (X : Cx) (xt : List (Str × Bool)) (i : Nat) (e : List Expr) (val : Str → Bool → D → Option (List D)) : Prop :=
  ∀ (x : Str) (g : Bool), (x, g) ∈ xt → ∀ (a dd : Addr) (oe : Obj) (pn : List (Addr × Obj)) (v0 : V) (d0 : D), Zc (.ref (He.ga X.K x)) (some dd) oe → (∃ vs, oe.data = .fields vs) → DXL (X.suite a ((a, oe) :: pn)) i a dd g v0 d0 e (val x g d0)
theorem kXs_ok {kx : Expr → Option (Str → Bool → D → Option D)} (h : ∀ e f, kx e = some f → ValOk X c.xt i e f) : ∀ (es : List Expr) (f : Str → Bool → D → Option (List D)), kXs kx es = some f → ValsOk X c.xt i es f
  | [], f, q => by cases q; exact fun x g hm a dd oe pn v0 d0 hz hf => dxl_nil
  | e :: es, f, q => by
    unfold kXs at q
    split at q
    · rename_i hs
      split at q
      · rename_i f1 f2 e1 e2
        cases q
        exact fun x g hm a dd oe pn v0 d0 hz hf => dxl_cons (h e f1 e1 x g hm a dd oe pn v0 d0 hz hf) (kXs_ok h es f2 e2 x g hm a dd oe pn v0 d0 hz hf) hs
      · cases q
    · cases q
theorem kX_ok (g : Good X c) (hi : X.N[i]? = some n) (hv : Vis X.env.scope n) (h1 : (n == ("__debug__" : Str)) = false) (h2 : (n == ("__classdict__" : Str)) = false) : ∀ (k : Nat) (e : Expr) (f : Str → Bool → D → Option D), kX c n k e = some f → ValOk X c.xt i e f
  | 0, _, _, q => (nomatch q)
  | k + 1, e, f, q => by
    unfold kX at q
    split at q
    · rename_i k' j p
      cases e1 : kXk k' with
      | none => rw [e1] at q; cases q
      | some d =>
        rw [e1] at q
        cases q
        exact fun x g' hm a dd oe pn v0 d0 hz hf => dx_of (kXk_ok e1) fun δ => rfl
    · rename_i m p f' p'
      split at q
      · rename_i cc
        simp only [Bool.and_eq_true, Bool.or_eq_true] at cc
        have c1 := of_decide_eq_true cc.1
        subst c1
        cases q
        intro x g' hm a dd oe pn v0 d0 hz hf
        obtain ⟨fI, T⟩ := g.xf.tx x g' hm
        unfold fldD
        by_cases hfl : fl g' = f'
        · rw [if_pos (decide_eq_true hfl)]
          subst hfl
          refine dx_fld T hz hf hi hv h1 h2 ?_
          cases g' <;> rfl
        · rw [if_neg (by simpa using hfl)]
          exact dx_no
      · cases q
    · rename_i es p
      cases e1 : kXs (kX c n k) es with
      | none => rw [e1] at q; cases q
      | some l =>
        rw [e1] at q
        cases q
        exact fun x g' hm a dd oe pn v0 d0 hz hf => dx_lst (kXs_ok (fun e f => kX_ok g hi hv h1 h2 k e f) es l e1 x g' hm a dd oe pn v0 d0 hz hf)
    · rename_i es kk p
      cases e1 : kXs (kX c n k) es with
      | none => rw [e1] at q; cases q
      | some l =>
        rw [e1] at q
        cases q
        exact fun x g' hm a dd oe pn v0 d0 hz hf => dx_tup (kXs_ok (fun e f => kX_ok g hi hv h1 h2 k e f) es l e1 x g' hm a dd oe pn v0 d0 hz hf)
    · split at q
      · rename_i ft fa fb e1 e2 e3
        cases q
        exact fun x g' hm a dd oe pn v0 d0 hz hf => dx_if (kXT_ok g hi hv h1 h2 k _ ft e1 x g' hm a dd oe pn v0 d0 hz hf) (kX_ok g hi hv h1 h2 k _ fa e2 x g' hm a dd oe pn v0 d0 hz hf) (kX_ok g hi hv h1 h2 k _ fb e3 x g' hm a dd oe pn v0 d0 hz hf)
      · cases q
    · cases q
end
end Ev
set_option Elab.async false
set_option linter.all false
set_option autoImplicit false
set_option maxRecDepth 100000
set_option maxHeartbeats 4000000
namespace Ev
open PySem PySem.Spec L2
open PyProof.Rows hiding St
open PySem.EvX (fl)
/-! ### list.count of flat things -/
section
variable {X : Cx}
def rCntF (K : PySem.W.Frag) : V → List V → Hp → VK → Prop := fun x xs H Q => ∃ (p : Addr) (ys : List V) (y : V), x = .ref p ∧ xs = [y] ∧ SqL K H p ys ∧ flatV y = true ∧ ys.all flatV = true ∧ Q (.int (ys.countP (fun z => eqV z y) : Nat)) H
theorem countP_eqU {y : V} : ∀ {ys : List V} {us : List Value}, Vals ys us → ys.all flatV = true → us.countP (eqU y) = ys.countP fun z => eqV z y
  | _, _, .nil, _ => rfl
  | z :: ys, u :: us, .cons r t, f => by
    rw [List.all_cons, Bool.and_eq_true] at f
    have ih := countP_eqU (y := y) t f.2
    rw [List.countP_cons, List.countP_cons, ih, eqU_of r f.1]
theorem mt_lcountF : MtR X "list.count" (rCntF X.K) := by
  intro pins s σ H x xs v us Q I rx rxs h
  obtain ⟨p, ys, y, rfl, rfl, hs, fy, fys, q⟩ := h
  cases rx
  obtain ⟨u, rfl, ru⟩ := rxs.one
  obtain ⟨its, rv, ⟨⟨cls, dd, data, sl⟩, n, ho, hc, hdn, hd⟩, hlen⟩ := I.list hs
  simp only at hc hd
  subst hc hd
  refine call_meets PySem.F.slot_list_count ⟨_, ho, rfl⟩ PySem.F.entry_list_count (PySem.F.args_list_count_2 _ _)
    (SeqAt.list_countAt p its.toArray n dd sl u (eqU y)) ⟨ho, fun u' hu' => mem_eqAt ru fy rv fys u' (by simpa using hu'), ?_⟩
  have ec : its.toArray.toList.countP (eqU y) = ys.countP fun z => eqV z y := countP_eqU rv fys
  refine ⟨.int (ys.countP (fun z => eqV z y) : Nat), H, I.tok _, ⟨s.toks, ?_⟩, q⟩
  show Value.int ((its.toArray.toList.countP (eqU y) : Nat) : Int) s.toks = Value.int ((ys.countP (fun z => eqV z y) : Nat) : Int) s.toks
  rw [ec]
end
def gCountL : D → List D → Option Op
  | x, [y] => match listD x with
    | some xs => if flatD y && xs.all flatD then some (Op.val (.int (xs.countP (fun z => eqD z y) : Nat))) else none
    | none => none
  | _, _ => none
theorem countP_rep {K : PySem.W.Frag} {F H : Hp} {y : D} {w : V} (h1 : RepB K F H y w) (f1 : flatD y = true) : ∀ {xs : List D} {us : List V}, RepL K F xs us → xs.all flatD = true → us.countP (fun z => eqV z w) = xs.countP fun z => eqD z y
  | [], us, h, _ => by unfold RepL at h; subst h; rfl
  | x :: xs, us, h, f => by
    unfold RepL at h
    obtain ⟨v, r, rfl, p, t⟩ := h
    rw [List.all_cons, Bool.and_eq_true] at f
    have ih := countP_rep h1 f1 t f.2
    rw [List.countP_cons, List.countP_cons, ih, (eqV_of (H := H) (.inl p) h1 f.1 f1).1]
theorem mg_countL {K : PySem.W.Frag} : MtG K (rCntF K) gCountL := by
  intro σ G F H δ x ds v vs o Q rel rx rs e k
  unfold gCountL at e
  split at e
  · rename_i y
    obtain ⟨w, rfl, h1⟩ := rs.one
    cases el : listD x with
    | none => rw [el] at e; cases e
    | some xs =>
      rw [el] at e; dsimp only at e
      by_cases hf : (flatD y && xs.all flatD) = true
      · rw [if_pos hf] at e
        obtain ⟨f1, f2⟩ := Bool.and_eq_true_iff.mp hf
        cases e
        obtain ⟨a, us, rfl, h2, h3⟩ := rx.list rel.subF el
        refine ⟨a, us, w, rfl, rfl, h2, (eqV_of h1 h1 f1 f1).2, all_flat h3 f2, ?_⟩
        rw [countP_rep h1 f1 h3 f2]
        exact k _ F H .refl rel (show Rep K F (.int _) _ from rep_int _)
      · rw [if_neg hf] at e; cases e
  · cases e
/-! ### the suite of an except clause: several stores -/
structure PX (K : PySem.W.Frag) (i : Nat) (a dd : Addr) (g : Bool) (v0 : V) (d0 : D) (σ : St) (F : Hp) : Prop where
  sl : σ[i]? = some (some (.ref a))
  fd : F dd = some (.xd [(fl g, v0)])
  rp : Rep K F d0 v0
theorem PX.sub {K : PySem.W.Frag} {i : Nat} {a dd : Addr} {g : Bool} {v0 : V} {d0 : D} {σ : St} {F F' : Hp} (p : PX K i a dd g v0 d0 σ F) (s : Sb F F') : PX K i a dd g v0 d0 σ F' := ⟨p.sl, s _ _ p.fd, Rep.sub s _ _ p.rp⟩
def W9 : WX := fun _ _ _ _ => False
section
variable (K : PySem.W.Frag) (i : Nat) (a dd : Addr) (g : Bool) (v0 : V) (d0 : D)
def tYE (f : M Op) : TE := fun σ H Q => ∃ G F δ, Rel K G F H σ δ ∧ PX K i a dd g v0 d0 σ F ∧ Sat K G F σ W9 (f δ) (VE K σ G) Q
def tYT (f : M Bool) : TT := fun σ H Q => ∃ G F δ, Rel K G F H σ δ ∧ PX K i a dd g v0 d0 σ F ∧ Sat K G F σ W9 (f δ) VT Q
def tYA (f : M (List D)) : TA := fun σ H Q => ∃ G F δ, Rel K G F H σ δ ∧ PX K i a dd g v0 d0 σ F ∧ Sat K G F σ W9 (f δ) (VL K) Q
def tYS (f : MS) : TS := fun D σ H => ∃ G F δ, Rel K G F H σ δ ∧ PX K i a dd g v0 d0 σ F ∧ SatS K G F W9 (f δ) D
end
abbrev DY (X' : Cx) (i : Nat) (a dd : Addr) (g : Bool) (v0 : V) (d0 : D) (e : Expr) (f : M Op) : Prop := PE X' e (tYE X'.K i a dd g v0 d0 f)
abbrev DYT (X' : Cx) (i : Nat) (a dd : Addr) (g : Bool) (v0 : V) (d0 : D) (e : Expr) (f : M Bool) : Prop := PT X' e (tYT X'.K i a dd g v0 d0 f)
abbrev DYA (X' : Cx) (i : Nat) (a dd : Addr) (g : Bool) (v0 : V) (d0 : D) (e : List Expr) (f : M (List D)) : Prop := PA X' e (tYA X'.K i a dd g v0 d0 f)
theorem takes9 {X' : Cx} : Takes X' W9 := fun u s' z => by
  obtain ⟨_, _, _, _, _, _, _, _, _, _, _, _, _, _, _, _, w⟩ := z
  exact w.elim
section
variable {X' : Cx} {i : Nat} {a dd : Addr} {g : Bool} {v0 : V} {d0 : D}
theorem dy_of {e : Expr} {f : M Op} (h : DE X' e f) : DY X' i a dd g v0 d0 e f := PE.weak (h.run W9 takes9) fun pins s σ H Q I h => by
  obtain ⟨G, F, δ, r, p, h⟩ := h
  exact ⟨G, F, δ, r, h⟩
theorem dyt_of {e : Expr} {f : M Bool} (h : DT X' e f) : DYT X' i a dd g v0 d0 e f := PT.weak (h.run W9 takes9) fun pins s σ H Q I h => by
  obtain ⟨G, F, δ, r, p, h⟩ := h
  exact ⟨G, F, δ, r, h⟩
def ofV : Option D → M Op
  | some d => cC d
  | none => mBad
def ofB : Option Bool → M Bool
  | some b => mOk b
  | none => mBad
theorem dy_dx {e : Expr} {v : Option D} (h : DX X' i a dd g v0 d0 e v) : DY X' i a dd g v0 d0 e (ofV v) := PE.weak h fun pins s σ H Q I h => by
  obtain ⟨G, F, δ, r, p, h⟩ := h
  cases v with
  | none => exact h.elim
  | some d => exact ⟨p.sl, G, F, δ, r, p.fd, p.rp, d, rfl, fun u F' H' s r' q => h u F' H' s r' q⟩
theorem dyt_dx {e : Expr} {v : Option Bool} (h : DXT X' i a dd g v0 d0 e v) : DYT X' i a dd g v0 d0 e (ofB v) := PT.weak h fun pins s σ H Q I h => by
  obtain ⟨G, F, δ, r, p, h⟩ := h
  cases v with
  | none => exact h.elim
  | some d => exact ⟨p.sl, G, F, δ, r, p.fd, p.rp, d, rfl, fun F' H' s r' => h d F' H' s r' rfl⟩
section
variable {α β : Type} {K : PySem.W.Frag} {G G' : GP} {F H : Hp} {σ : St} {δ : EnvS}
theorem bindYE {fa : M Op} {k : Op → M α} {VR : Hp → Hp → EnvS → α → β → Prop} {Q : β → Hp → Prop} {P : V → Hp → Prop}
    (r : Rel K G' F H σ δ) (p : PX K i a dd g v0 d0 σ F) (sG : SbG G G') (h : Sat K G F σ W9 (M.bind fa k δ) VR Q)
    (kk : ∀ op δ1 v F1 H1, Sb F F1 → Rel K G' F1 H1 σ δ1 → OpRep K σ G' F1 H1 δ1 op v → Sat K G F1 σ W9 (k op δ1) VR Q → P v H1) : tYE K i a dd g v0 d0 fa σ H P := by
  refine ⟨G', F, δ, r, p, ?_⟩
  unfold M.bind at h
  cases e : fa δ with
  | ok op δ1 =>
    rw [e] at h
    exact fun v F1 H1 s r1 o => kk op δ1 v F1 H1 s r1 o (h.up s)
  | ex x δ1 => rw [e] at h; exact fun F' H' cls d s' r x => h F' H' cls d s' (r.lessG sG) x
  | bad => rw [e] at h; exact h.elim
theorem bindYT {fa : M Bool} {k : Bool → M α} {VR : Hp → Hp → EnvS → α → β → Prop} {Q : β → Hp → Prop} {P : Bool → Hp → Prop}
    (r : Rel K G' F H σ δ) (p : PX K i a dd g v0 d0 σ F) (sG : SbG G G') (h : Sat K G F σ W9 (M.bind fa k δ) VR Q)
    (kk : ∀ b δ1 F1 H1, Sb F F1 → Rel K G' F1 H1 σ δ1 → Sat K G F1 σ W9 (k b δ1) VR Q → P b H1) : tYT K i a dd g v0 d0 fa σ H P := by
  refine ⟨G', F, δ, r, p, ?_⟩
  unfold M.bind at h
  cases e : fa δ with
  | ok b δ1 =>
    rw [e] at h
    exact fun b' F1 H1 s r1 o => by have o : b = b' := o; subst o; exact kk b δ1 F1 H1 s r1 (h.up s)
  | ex x δ1 => rw [e] at h; exact fun F' H' cls d s' r x => h F' H' cls d s' (r.lessG sG) x
  | bad => rw [e] at h; exact h.elim
theorem bindYA {fa : M (List D)} {k : List D → M α} {VR : Hp → Hp → EnvS → α → β → Prop} {Q : β → Hp → Prop} {P : List V → Hp → Prop}
    (r : Rel K G' F H σ δ) (p : PX K i a dd g v0 d0 σ F) (sG : SbG G G') (h : Sat K G F σ W9 (M.bind fa k δ) VR Q)
    (kk : ∀ ds δ1 vs F1 H1, Sb F F1 → Rel K G' F1 H1 σ δ1 → RepL K F1 ds vs → Sat K G F1 σ W9 (k ds δ1) VR Q → P vs H1) : tYA K i a dd g v0 d0 fa σ H P := by
  refine ⟨G', F, δ, r, p, ?_⟩
  unfold M.bind at h
  cases e : fa δ with
  | ok b δ1 =>
    rw [e] at h
    exact fun b' F1 H1 s r1 o => kk b δ1 b' F1 H1 s r1 o (h.up s)
  | ex x δ1 => rw [e] at h; exact fun F' H' cls d s' r x => h F' H' cls d s' (r.lessG sG) x
  | bad => rw [e] at h; exact h.elim
end
theorem dya_nil : DYA X' i a dd g v0 d0 [] cNil := PA.weak pa_nil fun pins s σ H Q I h => by
  obtain ⟨G, F, δ, r, p, h⟩ := h
  exact h [] F H .refl r .nil
theorem dya_cons {e : Expr} {es : List Expr} {f : M Op} {k : M (List D)} (ha : DY X' i a dd g v0 d0 e f) (hr : DYA X' i a dd g v0 d0 es k) (hs : notStar e = true) : DYA X' i a dd g v0 d0 (e :: es) (cCons f k) :=
  PA.weak (pa_cons ha hr (starEach_cons hs)) fun pins s σ H Q I h => by
    obtain ⟨G, F, δ, r, p, h⟩ := h
    refine bindYE r p .refl h fun o δ1 v F1 H1 s1 r1 q1 h => ?_
    obtain ⟨d, F2, δ2, s2, r2, p2, h⟩ := escE r1 q1 h
    refine bindYA r2 (p.sub (s1.trans s2)) .refl h fun ds δ3 vs F3 H3 s3 r3 p3 h => ?_
    exact h (v :: vs) F3 H3 .refl r3 (.cons (Rep.sub s3 _ _ p2) p3)
theorem dy_lst {es : List Expr} {k : M (List D)} {pos : Pos} (h : DYA X' i a dd g v0 d0 es k) : DY X' i a dd g v0 d0 (.List es pos) (cLst k) :=
  PE.weak (pe_lst h) fun pins s σ H Q I h => by
    obtain ⟨G, F, δ, r, p, h⟩ := h
    refine bindYA r p .refl h fun ds δ1 vs F1 H1 s1 r1 q1 h => ?_
    by_cases c : fits ds.length = true
    · simp only [if_pos c] at h
      exact ⟨by rw [q1.length]; exact fits_le c, new_lst r1 q1 fun u F' H' s' r' q' => h u F' H' s' r' q'⟩
    · simp only [if_neg c] at h; exact h.elim
theorem dy_tup {es : List Expr} {k : M (List D)} {pos : Pos} {kk : Nat} (h : DYA X' i a dd g v0 d0 es k) : DY X' i a dd g v0 d0 (.Tuple es kk pos) (cTup k) :=
  PE.weak (pe_tup h) fun pins s σ H Q I h => by
    obtain ⟨G, F, δ, r, p, h⟩ := h
    refine bindYA r p .refl h fun ds δ1 vs F1 H1 s1 r1 q1 h => ?_
    by_cases c : fits ds.length = true
    · simp only [if_pos c] at h
      exact ⟨by rw [q1.length]; exact fits_le c, new_tup r1 q1 fun u F' H' s' r' q' => h u F' H' s' r' q'⟩
    · simp only [if_neg c] at h; exact h.elim
theorem dy_if {c e1 e2 : Expr} {fc : M Bool} {f k : M Op} {pos : Pos} (hc : DYT X' i a dd g v0 d0 c fc) (h1 : DY X' i a dd g v0 d0 e1 f) (h2 : DY X' i a dd g v0 d0 e2 k) : DY X' i a dd g v0 d0 (.IfExp c e1 e2 pos) (cIf fc f k) :=
  PE.weak (pe_ifExp hc h1 h2) fun pins s σ H Q I h => by
    obtain ⟨G, F, δ, r, p, h⟩ := h
    refine bindYT r p .refl h fun b δ1 F1 H1 s1 r1 h => ?_
    cases b with
    | true => exact ⟨G, F1, δ1, r1, p.sub s1, h⟩
    | false => exact ⟨G, F1, δ1, r1, p.sub s1, h⟩
end
section
variable {X : Cx} {i : Nat} {a dd : Addr} {g : Bool} {v0 : V} {d0 : D} {oe : Obj} {pn : List (Addr × Obj)} {x n : Str}
/-- isinstance(e, Y), as a value -/
theorem dy_isi {y : Str} {b : Bool} {p p2 p3 pos : Pos} (C : ExcC X.K (He.ga X.K x)) (hz : Zc (.ref (He.ga X.K x)) (some dd) oe) (hf : ∃ vs, oe.data = .fields vs) (hi : X.N[i]? = some n) (hv : Vis X.env.scope n) (h1 : (n == ("__debug__" : Str)) = false) (h2 : (n == ("__classdict__" : Str)) = false)
    (hg : Gl X "isinstance") (hm : X.mg "isinstance" = none) (gy : Gl X y) (my : X.mg y = some (.ref (He.ga X.K y))) (hy : (y == ("__debug__" : Str)) = false) (hk : PySem.W.kitOne X.K (.ref (He.ga X.K x)) (.ref (He.ga X.K y)) = some b) :
    DY (X.suite a ((a, oe) :: pn)) i a dd g v0 d0 (.Call (.Name "isinstance" p) [.Name n p2, .Name y p3] [] pos) (cC (.bl b)) := by
  have hy2 : PE (X.suite a ((a, oe) :: pn)) (.Name y p3) (tC (.ref (He.ga X.K y))) := pe_glob gy my rfl hy
  have hn2 : PE (X.suite a ((a, oe) :: pn)) (.Name n p2) (tVar i) := pe_var hi hv h1 h2
  refine PE.weak (pe_callB (call_isX C hz hf) hg hm boot_isinstance (pa_cons hn2 (pa_cons hy2 pa_nil))) fun pins s σ H Q I h => ?_
  obtain ⟨G, F, δ, r, p, h⟩ := h
  exact ⟨_, p.sl, V.ref (He.ga X.K y), _, b, dd, _, rfl, fun u ru => ru, hk, rfl, r.subF _ _ p.fd, h (.bl b) F H .refl r (show Rep X.K F (.bl b) _ by unfold Rep; rfl)⟩
end
/-! #### from their text -/
def kQ (c : Ctx) : Nat → Expr → Option (M Op)
  | 0, _ => none
  | k + 1, e => match e with
    | .Name x _ => (slotOf c x).map cVar
    | .Constant k' _ _ => (kXk k').map cC
    | .List es _ => (kDA (fun c => kQ c k) c es).map cLst
    | .Subscript a s _ => (match s with
      | .Slice _ _ _ _ => none
      | s => match kQ c k a, kQ c k s with
        | some fa, some fb => some (cBin gIx fa fb)
        | _, _ => none)
    | .Call (.Attribute o m apos) [x] [] pos => if (apos.endLine == pos.line) && notStar x && plainRecv o then (match kQ c k o, kQ c k x with
        | some fo, some fx => if decide (m = "index") then some (cMeth "list" gIndexL fo (cConsO fx cNilO)) else if decide (m = "count") then some (cMeth "list" gCountL fo (cConsO fx cNilO)) else none
        | _, _ => none) else none
    | _ => none
def kQT (c : Ctx) (e : Expr) : Option (M Bool) := match e with
  | .Compare a [op] [b] _ => if !behindInMarks op b then (match kQ c 6 a, kQ c 6 b with
    | some fa, some fb => some (cCmpT (cmpG op) fa fb)
    | _, _ => none) else none
  | _ => none
def kML (k : Expr → Option (Str → Bool → D → M Op)) : List Expr → Option (Str → Bool → D → M (List D))
  | [] => some fun _ _ _ => cNil
  | e :: es => if notStar e then (match k e, kML k es with
    | some f, some fs => some fun x g d => cCons (f x g d) (fs x g d)
    | _, _ => none) else none
def kMT (c : Ctx) (n : Str) (e : Expr) : Option (Str → Bool → D → M Bool) := match kXT c n 6 e with
  | some f => some fun x _ _ => ofB (f x)
  | none => (kQT c e).map fun f _ _ _ => f
def isIsi (c : Ctx) (n : Str) : Expr → Option Str
  | .Call (.Name q _) [.Name m _, .Name y _] [] _ => if decide (q = "isinstance") && decide (m = n) && glB c.sc q && c.free.contains q && glB c.sc y && okB y && ownB c y then some y else none
  | _ => none
def kM (c : Ctx) (n : Str) : Nat → Expr → Option (Str → Bool → D → M Op)
  | 0, _ => none
  | k + 1, e => match isIsi c n e with
    | some y => some fun x _ _ => cC (.bl (decide (x = y) || decide (y = c.top)))
    | none => match e with
      | .List es _ => (kML (kM c n k) es).map fun l => fun x g d => cLst (l x g d)
      | .Tuple es _ _ => (kML (kM c n k) es).map fun l => fun x g d => cTup (l x g d)
      | .IfExp t a b _ => (match kMT c n t, kM c n k a, kM c n k b with
        | some ft, some fa, some fb => some fun x g d => cIf (ft x g d) (fa x g d) (fb x g d)
        | _, _, _ => none)
      | e => match kX c n 1 e with
        | some val => some fun x g d => ofV (val x g d)
        | none => (kQ c 6 e).map fun f => fun _ _ _ => f
section
variable {X : Cx} {c : Ctx} {i : Nat} {n : Str} {a : Addr} {pn : List (Addr × Obj)}
theorem kQ_ok (g : Good X c) : ∀ (k : Nat) (e : Expr) (f : M Op), kQ c k e = some f → DE (X.suite a pn) e f
  | 0, _, _, q => (nomatch q)
  | k + 1, e, f, q => by
    unfold kQ at q
    split at q
    · rename_i x p
      cases e1 : slotOf c x with
      | none => rw [e1] at q; cases q
      | some j =>
        rw [e1] at q
        cases q
        obtain ⟨a1, a2, a3, a4⟩ := slotOf_ok g e1
        exact de_var a1 a2 a3 a4
    · rename_i k' j p
      cases e1 : kXk k' with
      | none => rw [e1] at q; cases q
      | some d => rw [e1] at q; cases q; exact kXk_ok e1
    · rename_i es p
      cases e1 : kDA (fun c => kQ c k) c es with
      | none => rw [e1] at q; cases q
      | some l => rw [e1] at q; cases q; exact de_lst (kDA_ok (E := fun c => kQ c k) (X := X.suite a pn) (fun e f q => kQ_ok g k e f q) e1)
    · rename_i a1 s p
      split at q
      · cases q
      · rename_i hn
        split at q
        · rename_i fa fb e1 e2
          cases q
          refine de_ix (X := X.suite a pn) ((ix_list.or ix_tup).or (ix_str.or (ix_dict (by have := g.un; show X.A.units + 1 < cLine; omega)))) (og_ixQ.or (og_ixS.or og_ixD)) (kQ_ok g k _ _ e1) (kQ_ok g k _ _ e2) ?_
          cases s <;> first | rfl | exact absurd rfl (hn _ _ _ _)
        · cases q
    · rename_i o m apos x pos
      split at q
      · rename_i cc
        simp only [Bool.and_eq_true] at cc
        obtain ⟨⟨c1, c2⟩, c3⟩ := cc
        split at q
        · rename_i fo fx e1 e2
          have hs : [x].all notStar = true := by simp [c2]
          have hl : [x].length < 30 := by simp
          have hx : DO (X.suite a pn) [x] (cConsO fx cNilO) := do_cons (kQ_ok g k _ _ e2) do_nil c2
          split at q
          · rename_i hm
            have hm := of_decide_eq_true hm
            subst hm
            cases q
            exact de_meth PySem.F.plainAttrs_list PySem.F.slot_list_index PySem.F.type_list_index mt_index mg_indexL (kQ_ok g k _ _ e1) hx c3 c1 hs hl
          · split at q
            · rename_i hm
              have hm := of_decide_eq_true hm
              subst hm
              cases q
              exact de_meth PySem.F.plainAttrs_list PySem.F.slot_list_count PySem.F.type_list_count mt_lcountF mg_countL (kQ_ok g k _ _ e1) hx c3 c1 hs hl
            · cases q
        · cases q
      · cases q
    · cases q
theorem kQT_ok (g : Good X c) {e : Expr} {f : M Bool} (q : kQT c e = some f) : DT (X.suite a pn) e f := by
  unfold kQT at q
  split at q
  · rename_i a1 op b p
    split at q
    · rename_i hm
      split at q
      · rename_i fa fb e1 e2
        cases q
        obtain ⟨r, o1, o2⟩ := cmp_ok (X := X.suite a pn) g.un op
        exact dt_cmp o1 o2 (kQ_ok g 6 _ _ e1) (kQ_ok g 6 _ _ e2) (by simpa using hm)
      · cases q
    · cases q
  · cases q
abbrev MOkv (X : Cx) (xt : List (Str × Bool)) (i : Nat) (e : Expr) (val : Str → Bool → D → M Op) : Prop :=
  ∀ (x : Str) (g : Bool), (x, g) ∈ xt → ∀ (a dd : Addr) (oe : Obj) (pn : List (Addr × Obj)) (v0 : V) (d0 : D), Zc (.ref (He.ga X.K x)) (some dd) oe → (∃ vs, oe.data = .fields vs) → DY (X.suite a ((a, oe) :: pn)) i a dd g v0 d0 e (val x g d0)
abbrev MOkt (X : Cx) (xt : List (Str × Bool)) (i : Nat) (e : Expr) (val : Str → Bool → D → M Bool) : Prop :=
  ∀ (x : Str) (g : Bool), (x, g) ∈ xt → ∀ (a dd : Addr) (oe : Obj) (pn : List (Addr × Obj)) (v0 : V) (d0 : D), Zc (.ref (He.ga X.K x)) (some dd) oe → (∃ vs, oe.data = .fields vs) → DYT (X.suite a ((a, oe) :: pn)) i a dd g v0 d0 e (val x g d0)
abbrev MOkl (X : Cx) (xt : List (Str × Bool)) (i : Nat) (e : List Expr) (val : Str → Bool → D → M (List D)) : Prop :=
  ∀ (x : Str) (g : Bool), (x, g) ∈ xt → ∀ (a dd : Addr) (oe : Obj) (pn : List (Addr × Obj)) (v0 : V) (d0 : D), Zc (.ref (He.ga X.K x)) (some dd) oe → (∃ vs, oe.data = .fields vs) → DYA (X.suite a ((a, oe) :: pn)) i a dd g v0 d0 e (val x g d0)
theorem kMT_ok (g : Good X c) (hi : X.N[i]? = some n) (hv : Vis X.env.scope n) (h1 : (n == ("__debug__" : Str)) = false) (h2 : (n == ("__classdict__" : Str)) = false) {e : Expr} {f : Str → Bool → D → M Bool} (q : kMT c n e = some f) : MOkt X c.xt i e f := by
  unfold kMT at q
  split at q
  · rename_i f1 e1
    cases q
    exact fun x g' hm a dd oe pn v0 d0 hz hf => dyt_dx (kXT_ok g hi hv h1 h2 6 e f1 e1 x g' hm a dd oe pn v0 d0 hz hf)
  · cases e1 : kQT c e with
    | none => rw [e1] at q; cases q
    | some f1 =>
      rw [e1] at q
      cases q
      exact fun x g' hm a dd oe pn v0 d0 hz hf => dyt_of (kQT_ok g e1)
theorem kML_ok {kx : Expr → Option (Str → Bool → D → M Op)} (h : ∀ e f, kx e = some f → MOkv X c.xt i e f) : ∀ (es : List Expr) (f : Str → Bool → D → M (List D)), kML kx es = some f → MOkl X c.xt i es f
  | [], f, q => by cases q; exact fun x g hm a dd oe pn v0 d0 hz hf => dya_nil
  | e :: es, f, q => by
    unfold kML at q
    split at q
    · rename_i hs
      split at q
      · rename_i f1 f2 e1 e2
        cases q
        exact fun x g hm a dd oe pn v0 d0 hz hf => dya_cons (h e f1 e1 x g hm a dd oe pn v0 d0 hz hf) (kML_ok h es f2 e2 x g hm a dd oe pn v0 d0 hz hf) hs
      · cases q
    · cases q
theorem kM_ok (g : Good X c) (hi : X.N[i]? = some n) (hv : Vis X.env.scope n) (h1 : (n == ("__debug__" : Str)) = false) (h2 : (n == ("__classdict__" : Str)) = false) : ∀ (k : Nat) (e : Expr) (f : Str → Bool → D → M Op), kM c n k e = some f → MOkv X c.xt i e f
  | 0, _, _, q => (nomatch q)
  | k + 1, e, f, q => by
    unfold kM at q
    split at q
    · rename_i y ey
      cases q
      unfold isIsi at ey
      split at ey
      · split at ey
        · rename_i cc
          cases ey
          simp only [Bool.and_eq_true] at cc
          obtain ⟨⟨⟨⟨⟨⟨c1, c2⟩, c3⟩, c4⟩, c5⟩, c6⟩, c7⟩ := cc
          have c1 := of_decide_eq_true c1
          have c2 := of_decide_eq_true c2
          subst c1 c2
          intro x g' hm a dd oe pn v0 d0 hz hf
          have o := own_of c7
          exact dy_isi (g.xf.cl x g' hm) hz hf hi hv h1 h2 (glB_ok g c3) (g.free _ (mem_contains c4)) (glB_ok g c5) (g.xf.mg _ o (fun z => by rw [z] at hm; cases hm)) (okB_ok c6).1 (g.xf.kt x g' hm _ o)
        · cases ey
      · cases ey
    · split at q
      · rename_i es p _
        cases e1 : kML (kM c n k) es with
        | none => rw [e1] at q; cases q
        | some l =>
          rw [e1] at q
          cases q
          exact fun x g' hm a dd oe pn v0 d0 hz hf => dy_lst (kML_ok (fun e f => kM_ok g hi hv h1 h2 k e f) es l e1 x g' hm a dd oe pn v0 d0 hz hf)
      · rename_i es kk p _
        cases e1 : kML (kM c n k) es with
        | none => rw [e1] at q; cases q
        | some l =>
          rw [e1] at q
          cases q
          exact fun x g' hm a dd oe pn v0 d0 hz hf => dy_tup (kML_ok (fun e f => kM_ok g hi hv h1 h2 k e f) es l e1 x g' hm a dd oe pn v0 d0 hz hf)
      · split at q
        · rename_i ft fa fb e1 e2 e3
          cases q
          exact fun x g' hm a dd oe pn v0 d0 hz hf => dy_if (kMT_ok g hi hv h1 h2 e1 x g' hm a dd oe pn v0 d0 hz hf) (kM_ok g hi hv h1 h2 k _ fa e2 x g' hm a dd oe pn v0 d0 hz hf) (kM_ok g hi hv h1 h2 k _ fb e3 x g' hm a dd oe pn v0 d0 hz hf)
        · cases q
      · split at q
        · rename_i val e1
          cases q
          exact fun x g' hm a dd oe pn v0 d0 hz hf => dy_dx (kX_ok g hi hv h1 h2 1 _ val e1 x g' hm a dd oe pn v0 d0 hz hf)
        · cases e1 : kQ c 6 e with
          | none => rw [e1] at q; cases q
          | some f1 =>
            rw [e1] at q
            cases q
            exact fun x g' hm a dd oe pn v0 d0 hz hf => dy_of (kQ_ok g 6 _ _ e1)
end
/-! #### the suite -/
def suSeq : List (Nat × (Str → Bool → D → M Op)) → Str → Bool → D → MS
  | [] => fun _ _ _ => cNext
  | (j, f) :: r => fun x g d => cSeq (cAsg j (f x g d)) (suSeq r x g d)
/-- the error's name is gone behind the suite -/
def suW (i : Nat) (f : Str → Bool → D → MS) : Str → Bool → D → MS := fun x g d δ => match f x g d δ with
  | .nx δ' => .nx (δ'.set i .none)
  | _ => .bad
/-- the stores of a suite, and what they are -/
inductive SuO (X : Cx) (xt : List (Str × Bool)) (i : Nat) : List Stmt → List (Nat × (Str → Bool → D → M Op)) → Prop
  | nil : SuO X xt i [] []
  | cons {t : Str} {tp ap : Pos} {e : Expr} {j : Nat} {f : Str → Bool → D → M Op} {rest : List Stmt} {l : List (Nat × (Str → Bool → D → M Op))} (hj : X.N[j]? = some t) (hlo : Loc X.env.scope t) (hlt : X.fn t = true ∨ X.env.scope.names.lookup t = some .local) (hij : i ≠ j)
      (hsw : swapsWith e (some (.Name t tp)) ap.line X.env = pure false) (hf : MOkv X xt i e f) (hr : SuO X xt i rest l) : SuO X xt i (.Assign [.Name t tp] e ap :: rest) ((j, f) :: l)
section
variable {X : Cx} {xt : List (Str × Bool)} {ct : Str → Bool} {i j : Nat} {y n t : Str} {body : List Stmt} {fb : MS} {np tp ap pos' pos : Pos}
theorem suO_run (hN : X.N.Nodup) {x : Str} {g : Bool} (hm : (x, g) ∈ xt) {a dd : Addr} {oe : Obj} {pn : List (Addr × Obj)} {v0 : V} {d0 : D} (hz : Zc (.ref (He.ga X.K x)) (some dd) oe) (hf : ∃ vs, oe.data = .fields vs) :
    ∀ {sts : List Stmt} {l : List (Nat × (Str → Bool → D → M Op))}, SuO X xt i sts l → PSs (X.suite a ((a, oe) :: pn)) sts (fun D σ H => ∃ G F δ, Rel X.K G F H σ δ ∧ PX X.K i a dd g v0 d0 σ F ∧ SatS X.K G F W9 (suSeq l x g d0 δ) D) := by
  intro sts l h
  induction h with
  | nil =>
    refine PSs.weak pss_nil fun pins s σ H D I h => ?_
    obtain ⟨G, F, δ, r, p, h⟩ := h
    exact h σ F H .refl r
  | cons hj hlo hlt hij hsw hv hr ih =>
    rename_i t tp ap e j f rest l
    refine PSs.weak (pss_cons (ps_set (X := X.suite a ((a, oe) :: pn)) hN hj hlo (hv x g hm a dd oe pn v0 d0 hz hf) hsw hlt) ih) fun pins s σ H D I h => ?_
    obtain ⟨G, F, δ, r, p, h⟩ := h
    refine ⟨G, F, δ, r, p, ?_⟩
    have h : SatS X.K G F W9 (cSeq (cAsg j (f x g d0)) (suSeq l x g d0) δ) D := h
    have h0 := h
    unfold cSeq cAsg MS.of at h
    cases e1 : f x g d0 δ with
    | bad => rw [e1] at h; exact h.elim
    | ex x' δ1 => rw [e1] at h; exact fun F' H' cls d s' r' x'' => h σ F' H' cls d s' r' x''
    | ok op δ1 =>
      rw [e1] at h
      intro v F1 H1 s1 r1 q1
      have nxt : ∀ {σ' : St} {F' : Hp} {H' : Hp} {δ' : EnvS}, Sb F F' → σ'[i]? = σ[i]? → Rel X.K G F' H' σ' δ' → SatS X.K G F W9 (suSeq l x g d0 δ') D → (∃ G F δ, Rel X.K G F H' σ' δ ∧ PX X.K i a dd g v0 d0 σ' F ∧ SatS X.K G F W9 (suSeq l x g d0 δ) D) :=
        fun {σ' F' H' δ'} s' es r' h' => ⟨G, F', δ', r', ⟨es.trans p.sl, s' _ _ p.fd, Rep.sub s' _ _ p.rp⟩, h'.up s'⟩
      have es : (σ.set j (some v))[i]? = σ[i]? := List.getElem?_set_ne (Ne.symm hij)
      cases op with
      | val d => exact nxt s1 es (r1.setVal q1) h
      | fresh d =>
        obtain ⟨b, rfl, n1, n2, n3, n4⟩ := q1
        exact nxt s1 es (r1.setOwn n1 n2 n3 n4) h
      | place m =>
        cases e2 : esc (.place m) δ1 with
        | ok d δ' =>
          have hA : cAsg j (f x g d0) δ = .nx (δ'.set j (.val d)) := by
            unfold cAsg MS.of
            rw [e1]
            show MS.of (esc (.place m)) _ δ1 = _
            unfold MS.of
            rw [e2]
          unfold cSeq at h0
          rw [hA] at h0
          obtain ⟨F', s2, r', p'⟩ := esc_ok r1 q1 e2
          exact nxt (s1.trans s2) es (r'.setVal p') h0
        | ex x' δ' => exact absurd e2 esc_never
        | bad =>
          have hA : cAsg j (f x g d0) δ = .bad := by
            unfold cAsg MS.of
            rw [e1]
            show MS.of (esc (.place m)) _ δ1 = _
            unfold MS.of
            rw [e2]
          unfold cSeq at h0
          rw [hA] at h0
          exact h0.elim
theorem ds_trySeq (hs : X.stack = X.env :: X.outer) (hfr : X.env.frame = some X.env.locals) (hN : X.N.Nodup) (hi : X.N[i]? = some n) (hln : X.env.kindOf n = some .local) (gy : Gl X y) (dy : (y == ("__debug__" : Str)) = false) (my : X.mg y = some (.ref (He.ga X.K y)))
    (hex : ∀ x g, (x, g) ∈ xt → PySem.W.exmOne X.K (.ref (He.ga X.K x)) (.ref (He.ga X.K y)) = some (ct x))
    (hb : ∀ pn xe, PassesOwn (model X.prog X.w) X.A X.env xe → DSs (X.tr pn xe) body fb) {s1 : Stmt} {sts : List Stmt} {l : List (Nat × (Str → Bool → D → M Op))} (hl : SuO X xt i (s1 :: sts) l) :
    DS X (.Try body [.ExceptHandler (some (.Name y np)) (some n) (s1 :: sts) pos'] [] [] pos) (cTry fb xt ct i (suW i (suSeq l))) := by
  refine ⟨fun W tk => PS.weak (ps_try_as (i := i) (tb := fun W' => tS X.K fb W') (ts := fun a cls d D σ H => ∃ x g dd v0 d0, (x, g) ∈ xt ∧ cls = .ref (He.ga X.K x) ∧ d = some dd ∧ ∃ G F δ, Rel X.K G F H σ δ ∧ PX X.K i a dd g v0 d0 σ F ∧ SatS X.K G F W9 (suSeq l x g d0 δ) D) hs hfr hN hi hln ⟨gy, dy, .inl my⟩ tk (fun W' pn xe tk' po => (hb pn xe po).run W' tk')
    (fun a oe cls d pn hz hf' => ⟨fun pins s σ H D I h => ?_⟩)) fun pins s σ H D I h => ?_⟩
  · obtain ⟨x, g, dd, v0, d0, hm, rfl, rfl, hX⟩ := h
    exact (suO_run hN hm hz hf' hl).run pins s σ H D I hX
  · obtain ⟨G, F, δ, r, h⟩ := h
    refine ⟨G, F, δ, r, ?_⟩
    unfold cTry at h
    cases e0 : fb δ with
    | bad => rw [e0] at h; exact h.elim
    | nx δ1 => rw [e0] at h; exact h
    | rt o δ1 => rw [e0] at h; exact h
    | bk δ1 => rw [e0] at h; exact h
    | ct δ1 => rw [e0] at h; exact h
    | ex ed δ1 =>
      rw [e0] at h
      intro σ' F' H' cls d s' r' xr
      cases e2 : excOf xt ed with
      | none => simp only [e2] at h; exact h.elim
      | some q =>
        obtain ⟨x, g, d0⟩ := q
        simp only [e2] at h
        obtain ⟨hm, rfl⟩ := excOf_some e2
        obtain ⟨rfl, ad, v0, rfl, fa, p0⟩ := exRep_of xr
        refine ⟨ct x, hex x g hm, fun hb a na => ?_, fun hb => ?_⟩
        · rw [if_pos hb] at h
          split at h
          · rename_i hlt0
            have hlt0 := of_decide_eq_true hlt0
            have r2 : Rel X.K G F' H' (σ'.set i (some (.ref a))) (δ1.set i .none) := (show Rel X.K G F' H' σ' (δ1.set i .none) from r'.wipe [i]).over set_none _
            refine ⟨x, g, ad, v0, d0, hm, rfl, rfl, G, F', δ1.set i .none, r2, ⟨List.getElem?_set_self (by rw [← r'.len]; exact hlt0), fa, p0⟩, ?_⟩
            unfold suW at h
            generalize suSeq l x g d0 (δ1.set i .none) = z at h ⊢
            cases z with
            | nx δ2 => exact fun σ2 F2 H2 s2 r3 => h _ F2 H2 (s'.trans s2) ((show Rel X.K G F2 H2 σ2 (δ2.set i .none) from r3.wipe [i]).over set_none none)
            | rt o δ2 => exact h.elim
            | bk δ2 => exact h.elim
            | ct δ2 => exact h.elim
            | ex e δ2 => exact h.elim
            | bad => exact h.elim
          · exact h.elim
        · rw [if_neg (by rw [hb]; exact Bool.false_ne_true)] at h
          exact h σ' F' H' _ _ s' r' xr
end
def kSu (c : Ctx) (n : Str) (i : Nat) : List Stmt → Option (List (Nat × (Str → Bool → D → M Op)))
  | [] => some []
  | st :: r => match st with
    | .Assign [.Name t _] e _ => if notComp e then (match stOf c t, kM c n 12 e, kSu c n i r with
      | some j, some f, some l => if decide (i = j) then none else some ((j, f) :: l)
      | _, _, _ => none) else none
    | _ => none
theorem kSu_ok {X : Cx} {c : Ctx} {i : Nat} {n : Str} (g : Good X c) (hi : X.N[i]? = some n) (hv : Vis X.env.scope n) (h1 : (n == ("__debug__" : Str)) = false) (h2 : (n == ("__classdict__" : Str)) = false) : ∀ (sts : List Stmt) (l : List (Nat × (Str → Bool → D → M Op))), kSu c n i sts = some l → SuO X c.xt i sts l
  | [], l, q => by cases q; exact .nil
  | st :: r, l, q => by
    unfold kSu at q
    split at q
    · rename_i t tp e ap
      split at q
      · rename_i hn
        split at q
        · rename_i j f l' e1 e2 e3
          split at q
          · cases q
          · rename_i hij
            cases q
            obtain ⟨a, b, d⟩ := stOf_ok g e1
            exact .cons a b d (by simpa using hij) (swaps_no hn) (kM_ok g hi hv h1 h2 12 e f e2) (kSu_ok g hi hv h1 h2 r l' e3)
        · cases q
      · cases q
    · cases q
end Ev
set_option Elab.async false
set_option linter.all false
set_option autoImplicit false
set_option maxRecDepth 100000
set_option maxHeartbeats 4000000
namespace Ev
open PySem PySem.Spec L2
open PyProof.Rows hiding St
/-! ### assignments -/
section
variable (E : Ctx → Expr → Option (M Op)) (T : Ctx → Expr → Option (M Bool))
def kTg1 (c : Ctx) : Expr → Option (D → M Unit)
  | .Name x _ => (stOf c x).map tgName
  | .Subscript o b _ => (match o with
    | .Name x _ => (match b with
      | .Slice lo hi none _ => (match slotOf c x, kPart E c lo, kPart E c hi with
        | some i, some fl, some fh => some (tgSl i fl fh)
        | _, _, _ => none)
      | b => if notSlice b then (match slotOf c x, E c b with
        | some i, some fb => some (tgIx i fb)
        | _, _ => none) else none)
    | _ => none)
  | _ => none
def kTgs (c : Ctx) : List Expr → Option (List D → M Unit)
  | [] => some tgNil
  | e :: es => if notStar e then (match kTg1 E c e, kTgs c es with
    | some f, some g => some (tgCons f g)
    | _, _ => none) else none
def kTg (c : Ctx) : Expr → Option (D → M Unit)
  | .Tuple es _ _ => if es.all notStar then (kTgs E c es).map (tgTup es.length) else none
  | e => kTg1 E c e
end
section
variable {E : Ctx → Expr → Option (M Op)} {T : Ctx → Expr → Option (M Bool)} {X : Cx} {c : Ctx}
theorem asg_sub {o b : Expr} {pos : Pos} {env : Env} (h : notSlice b = true) : ∀ v, assign (.Subscript o b pos) env v = (do
      let ov ← holding [v] (eval o env)
      let iv ← holding [v, ov] (eval b env)
      standAt pos
      holding [v, ov, iv] (setItem ov iv v)
      release [v, ov, iv] []) := fun v => by
  cases b <;> first | rfl | cases h
theorem kTg1_ok (g : Good X c) (h : EOk E X c) {e : Expr} {f : D → M Unit} (q : kTg1 E c e = some f) : DG X e f := by
  unfold kTg1 at q
  split at q
  · rename_i x p
    cases e1 : stOf c x with
    | none => rw [e1] at q; cases q
    | some i =>
      rw [e1] at q; cases q
      obtain ⟨a, b, d⟩ := stOf_ok g e1
      exact dg_name g.nd a b d
  · split at q
    · split at q
      · split at q
        · rename_i i fl fh e1 e2 e3
          cases q
          obtain ⟨a, b, d1, d2⟩ := slotOf_ok g e1
          exact dg_slice a b d1 d2 (kPart_ok h e2) (kPart_ok h e3)
        · cases q
      · split at q
        · rename_i hs
          split at q
          · rename_i i fb e1 e2
            cases q
            obtain ⟨a, b, d1, d2⟩ := slotOf_ok g e1
            exact dg_ix a b d1 d2 (by have := g.un; omega) (h _ _ e2) (asg_sub hs)
          · cases q
        · cases q
    · cases q
  · cases q
theorem kTgs_ok (g : Good X c) (h : EOk E X c) : ∀ {es : List Expr} {f : List D → M Unit}, kTgs E c es = some f → DGs X es f
  | [], f, q => by cases q; exact dgs_nil
  | e :: es, f, q => by
    unfold kTgs at q
    split at q
    · rename_i hs
      split at q
      · rename_i f1 g1 e1 e2
        cases q
        exact dgs_cons (kTg1_ok g h e1) (kTgs_ok g h e2) hs
      · cases q
    · cases q
theorem kTg_ok (g : Good X c) (h : EOk E X c) {e : Expr} {f : D → M Unit} (q : kTg E c e = some f) : DG X e f := by
  unfold kTg at q
  split at q
  · rename_i es k p
    split at q
    · rename_i hs
      cases e1 : kTgs E c es with
      | none => rw [e1] at q; cases q
      | some f1 => rw [e1] at q; cases q; exact dg_tup g.calm (kTgs_ok g h e1) hs
    · cases q
  · exact kTg1_ok g h q
end
/-! #### which way a value is stored -/
def noTup : Expr → Bool
  | .Tuple _ _ _ => false
  | _ => true
theorem swaps_tgt {v : Expr} {l : Nat} {env : Env} : (∀ es k p, swapsWith v (some (.Tuple es k p)) l env = pure false) ∧ ∀ o b p, swapsWith v (some (.Subscript o b p)) l env = pure false := by
  constructor
  · intro es k p; cases v <;> rfl
  · intro o b p; cases v <;> rfl
theorem stores_sub {o b e : Expr} {p : Pos} {env : Env} : swappedStores [.Subscript o b p] e env = pure none := by
  cases e <;> rfl
theorem stores_val {es : List Expr} {k : Nat} {p : Pos} {e : Expr} {env : Env} (h : noTup e = true) : swappedStores [.Tuple es k p] e env = pure none := by
  cases e <;> first | rfl | cases h
def starred : Expr → Bool
  | .Starred _ _ => true
  | _ => false
def locName (c : Ctx) (line : Nat) : Expr → Option Str
  | .Name x p => if decide (c.sc.names.lookup x = some .local) && (p.line == line) then some x else none
  | _ => none
/-- the pairs that are stored in turn from the right -/
def swapN (c : Ctx) (ts vs : List Expr) : Bool :=
  !(!(ts.length == 2 || ts.length == 3) || vs.length != ts.length) && !(vs.any starred) && !(vs.all (foldedForSure 8)) && !(vs.all (constantsAlone 8))
theorem kind_fn {X : Cx} {c : Ctx} (g : Good X c) : X.env.blockKind = .function := by
  unfold Env.blockKind
  rw [g.sc, g.kind]; rfl
def nmOf (env : Env) (line : Nat) : Expr → Option Str
  | .Name id pos => if env.kindOf id == some .local && pos.line == line then some id else none
  | _ => none
def nms (env : Env) (ts : List Expr) : List Str := ts.filterMap (nmOf env ((ts.head?.map (·.pos.line)).getD 0))
theorem swap_eq {ts vs : List Expr} {k k2 : Nat} {p p2 : Pos} {env : Env} : swappedStores [.Tuple ts k p] (.Tuple vs k2 p2) env =
    (if (!(ts.length == 2 || ts.length == 3) || vs.length != ts.length || env.blockKind != .function) = true then pure none else if vs.any starred = true then pure none
      else if ((nms env ts).length != ts.length || (nms env ts).eraseDups.length != (nms env ts).length) = true then pure none
      else if vs.all (foldedForSure 8) = true then pure none
      else if vs.all (constantsAlone 8) = true then (do unsupported "assign.tuple-of-constant-expressions:order-of-the-stores"; pure (some (nms env ts))) else pure (some (nms env ts))) := rfl
theorem stores_fold0 {X : Cx} {c : Ctx} (g : Good X c) {ts vs : List Expr} {k k2 : Nat} {p p2 : Pos} (h : (!(ts.length == 2 || ts.length == 3) || vs.all (foldedForSure 8)) = true) (hs : vs.any starred = false) : swappedStores [.Tuple ts k p] (.Tuple vs k2 p2) X.env = pure none := by
  rw [swap_eq]
  split
  · rfl
  · rename_i h1
    split
    · rfl
    · split
      · rfl
      · split
        · rfl
        · rename_i h2
          rcases Bool.or_eq_true_iff.mp h with h | h
          · exact absurd (by rw [h, Bool.true_or, Bool.true_or]) h1
          · exact absurd h h2
def nmC (c : Ctx) (line : Nat) : Expr → Option Str
  | .Name id pos => if c.sc.names.lookup id == some .local && pos.line == line then some id else none
  | _ => none
def nmsC (c : Ctx) (ts : List Expr) : List Str := ts.filterMap (nmC c ((ts.head?.map (·.pos.line)).getD 0))
theorem nms_eq {X : Cx} {c : Ctx} (g : Good X c) (ts : List Expr) : nms X.env ts = nmsC c ts := by
  unfold nms nmsC
  congr 1
  funext e
  cases e <;> first | rfl | skip
  rename_i x p
  show (if (X.env.scope.names.lookup x == some .local && p.line == _) = true then some x else none) = (if (c.sc.names.lookup x == some .local && p.line == _) = true then some x else none)
  rw [g.sc]
def mixC (c : Ctx) (ts : List Expr) : Bool := ((nmsC c ts).length != ts.length || (nmsC c ts).eraseDups.length != (nmsC c ts).length)
theorem kindOf_loc {X : Cx} {c : Ctx} (g : Good X c) {x : Str} (hx : c.sc.names.lookup x = some .local) : X.env.kindOf x = some .local := by
  show X.env.scope.names.lookup x = _; rw [g.sc]; exact hx
theorem stores_fold {X : Cx} {c : Ctx} (g : Good X c) {ts vs : List Expr} {k k2 : Nat} {p p2 : Pos} (h : (!(ts.length == 2 || ts.length == 3) || vs.all (foldedForSure 8) || mixC c ts) = true) (hs : vs.any starred = false) : swappedStores [.Tuple ts k p] (.Tuple vs k2 p2) X.env = pure none := by
  rcases Bool.or_eq_true_iff.mp h with h | h
  · exact stores_fold0 g h hs
  · rw [swap_eq, nms_eq g]
    have h : ((nmsC c ts).length != ts.length || (nmsC c ts).eraseDups.length != (nmsC c ts).length) = true := h
    split
    · rfl
    · split
      · rfl
      · first
          | rfl
          | (split
             · rfl
             · rename_i h3; exact absurd h h3)
theorem nmOf_ok {X : Cx} {c : Ctx} (g : Good X c) {x : Str} {p : Pos} {l : Nat} (hx : c.sc.names.lookup x = some .local) (hl : (p.line == l) = true) : nmOf X.env l (.Name x p) = some x := by
  show (if (X.env.kindOf x == some .local && p.line == l) = true then some x else none) = some x
  rw [kindOf_loc g hx, hl]
  rfl
theorem stores_par2 {X : Cx} {c : Ctx} (g : Good X c) {x y : Str} {px py : Pos} {a b : Expr} {k k2 : Nat} {p p2 : Pos} (hx : c.sc.names.lookup x = some .local) (hy : c.sc.names.lookup y = some .local) (hl : (py.line == px.line) = true) (hxy : x ≠ y)
    (hs : [a, b].any starred = false) (h1 : [a, b].all (foldedForSure 8) = false) (h2 : [a, b].all (constantsAlone 8) = false) : swappedStores [.Tuple [.Name x px, .Name y py] k p] (.Tuple [a, b] k2 p2) X.env = pure (some [x, y]) := by
  have e2 : nms X.env [Expr.Name x px, Expr.Name y py] = [x, y] := by
    show [Expr.Name x px, Expr.Name y py].filterMap (nmOf X.env px.line) = _
    rw [List.filterMap_cons, nmOf_ok g hx (by simp)]
    dsimp only
    rw [List.filterMap_cons, nmOf_ok g hy hl]
    rfl
  have e3 : [x, y].eraseDups.length = 2 := by
    simp [List.eraseDups_cons, Ne.symm hxy, hxy]
  rw [swap_eq, hs, kind_fn g, h1, h2, e2, e3]
  rfl
theorem stores_par3 {X : Cx} {c : Ctx} (g : Good X c) {x y z : Str} {px py pz : Pos} {a b d : Expr} {k k2 : Nat} {p p2 : Pos} (hx : c.sc.names.lookup x = some .local) (hy : c.sc.names.lookup y = some .local) (hz : c.sc.names.lookup z = some .local) (hl : (py.line == px.line) = true) (hl2 : (pz.line == px.line) = true) (hxy : x ≠ y) (hxz : x ≠ z) (hyz : y ≠ z)
    (hs : [a, b, d].any starred = false) (h1 : [a, b, d].all (foldedForSure 8) = false) (h2 : [a, b, d].all (constantsAlone 8) = false) : swappedStores [.Tuple [.Name x px, .Name y py, .Name z pz] k p] (.Tuple [a, b, d] k2 p2) X.env = pure (some [x, y, z]) := by
  have e2 : nms X.env [Expr.Name x px, Expr.Name y py, Expr.Name z pz] = [x, y, z] := by
    show [Expr.Name x px, Expr.Name y py, Expr.Name z pz].filterMap (nmOf X.env px.line) = _
    rw [List.filterMap_cons, nmOf_ok g hx (by simp)]
    dsimp only
    rw [List.filterMap_cons, nmOf_ok g hy hl]
    dsimp only
    rw [List.filterMap_cons, nmOf_ok g hz hl2]
    rfl
  have e3 : [x, y, z].eraseDups.length = 3 := by
    simp [List.eraseDups_cons, Ne.symm hxy, hxy, Ne.symm hxz, hxz, Ne.symm hyz, hyz]
  rw [swap_eq, hs, kind_fn g, h1, h2, e2, e3]
  rfl
def compSwap (c : Ctx) (x : Str) (pt : Pos) (scope : Scope) (p2 : Pos) : Bool := (c.sc.names.lookup x == some .local) && (pt.line == p2.line) && !(scope.names.any fun y => y.1 == x && (y.2 == .local || y.2 == .cell))
theorem compSwap_eq {X : Cx} {c : Ctx} (g : Good X c) {x : Str} {pt p2 : Pos} {elt : Expr} {gens : List Comprehension} {scope : Scope} {l : Nat} : swapsWith (.ListComp elt gens scope p2) (some (.Name x pt)) l X.env = pure (compSwap c x pt scope p2) := by
  show (pure (X.env.blockKind == .function && X.env.scope.names.lookup x == some .local && pt.line == (Expr.ListComp elt gens scope p2).pos.line && !(scope.names.any fun (n, k) => n == x && (k == .local || k == .cell))) : Sem Bool) = _
  rw [kind_fn g, g.sc]
  rfl
theorem compSwap_ok {X : Cx} {c : Ctx} (g : Good X c) {x : Str} {pt p2 : Pos} {elt : Expr} {gens : List Comprehension} {scope : Scope} {l : Nat} (h : compSwap c x pt scope p2 = true) : swapsWith (.ListComp elt gens scope p2) (some (.Name x pt)) l X.env = pure true := by
  rw [compSwap_eq g, h]
section
variable (E : Ctx → Expr → Option (M Op)) (T : Ctx → Expr → Option (M Bool))
def kGen (c : Ctx) (tg e : Expr) : Option MS := match kTg E c tg, E c e with
  | some f, some fe => some (cAssign f fe)
  | _, _ => none
def kPar (c : Ctx) (ts vs : List Expr) : Option MS := match ts, vs with
  | [.Name x px, .Name y py], [a, b] => if decide (c.sc.names.lookup x = some .local) && decide (c.sc.names.lookup y = some .local) && (py.line == px.line) && decide (x ≠ y) then
      (if isNilL a && isNilL b then (match stOf c x, stOf c y with
        | some i, some j => if decide (i ≠ j) then some (cParE i j) else none
        | _, _ => none)
      else match stOf c x, stOf c y, kDA E c [a, b] with
      | some i, some j, some f => if decide (i ≠ j) then some (cPar [i, j] f) else none
      | _, _, _ => none) else none
  | [.Name x px, .Name y py, .Name z pz], [a, b, d] => if decide (c.sc.names.lookup x = some .local) && decide (c.sc.names.lookup y = some .local) && decide (c.sc.names.lookup z = some .local) && (py.line == px.line) && (pz.line == px.line) && decide (x ≠ y) && decide (x ≠ z) && decide (y ≠ z) then
      (match stOf c x, stOf c y, stOf c z, kDA E c [a, b, d] with
      | some i, some j, some l, some f => if decide (i ≠ j) && decide (i ≠ l) && decide (j ≠ l) then some (cPar [i, j, l] f) else none
      | _, _, _, _ => none) else none
  | _, _ => none
def kAsg (c : Ctx) (tg e : Expr) : Option MS := match tg with
  | .Name x pt => (match stOf c x with
    | none => none
    | some i => (match e with
      | .ListComp elt gens scope p2 => (kComp E T c elt gens scope).map (cAsg i)
      | _ => if notComp e then (E c e).map (cAsg i) else none))
  | .Tuple ts k pt => (match e with
    | .Tuple vs k2 p2 => if vs.any starred then none else if !(ts.length == 2 || ts.length == 3) || vs.all (foldedForSure 8) || mixC c ts then kGen E c (.Tuple ts k pt) (.Tuple vs k2 p2) else if vs.all (constantsAlone 8) then none else kPar E c ts vs
    | _ => if noTup e then kGen E c (.Tuple ts k pt) e else none)
  | .Subscript o b p => kGen E c (.Subscript o b p) e
  | _ => none
end
section
variable {E : Ctx → Expr → Option (M Op)} {T : Ctx → Expr → Option (M Bool)} {X : Cx} {c : Ctx}
theorem kGen_ok (g : Good X c) (h : EOk E X c) {tg e : Expr} {f : MS} {pos : Pos} (q : kGen E c tg e = some f) (hs : swapsWithSole [tg] e pos.line X.env = pure false) (hw : swappedStores [tg] e X.env = pure none) (h1 : notStar tg = true) : DS X (.Assign [tg] e pos) f := by
  unfold kGen at q
  split at q
  · rename_i f1 fe e1 e2
    cases q
    exact ds_asg (kTg_ok g h e1) (h _ _ e2) hs hw h1
  · cases q
theorem kPar_ok (g : Good X c) (h : EOk E X c) {ts vs : List Expr} {k k2 : Nat} {p p2 pos : Pos} {f : MS} (q : kPar E c ts vs = some f) (hs : vs.any starred = false) (h1 : vs.all (foldedForSure 8) = false) (h2 : vs.all (constantsAlone 8) = false) : DS X (.Assign [.Tuple ts k p] (.Tuple vs k2 p2) pos) f := by
  unfold kPar at q
  split at q
  · rename_i x px y py a b
    split at q
    · rename_i cc
      simp only [Bool.and_eq_true] at cc
      obtain ⟨⟨⟨c1, c2⟩, c3⟩, c4⟩ := cc
      have c1 := of_decide_eq_true c1
      have c2 := of_decide_eq_true c2
      have c4 := of_decide_eq_true c4
      split at q
      · rename_i hnil
        obtain ⟨n1, n2⟩ := Bool.and_eq_true_iff.mp hnil
        split at q
        · rename_i i j e1 e2
          split at q
          · rename_i hij
            cases q
            exact Ev.ds_parE g.calm g.nd (stOf_ok g e1).1 (stOf_ok g e2).1 (of_decide_eq_true hij) (by rw [g.sc]; exact c1) (by rw [g.sc]; exact c2) n1 n2 (stores_par2 g c1 c2 c3 c4 hs h1 h2) rfl
          · cases q
        · cases q
      split at q
      · rename_i i j f1 e1 e2 e3
        split at q
        · rename_i hij
          cases q
          exact Ev.ds_par g.calm g.nd (stOf_ok g e1).1 (stOf_ok g e2).1 (of_decide_eq_true hij) (by rw [g.sc]; exact c1) (by rw [g.sc]; exact c2) (kDA_ok h e3) (stores_par2 g c1 c2 c3 c4 hs h1 h2) rfl
        · cases q
      · cases q
    · cases q
  · rename_i x px y py z pz a b d
    split at q
    · rename_i cc
      simp only [Bool.and_eq_true] at cc
      obtain ⟨⟨⟨⟨⟨⟨⟨c1, c2⟩, c3⟩, c4⟩, c5⟩, c6⟩, c7⟩, c8⟩ := cc
      have c1 := of_decide_eq_true c1
      have c2 := of_decide_eq_true c2
      have c3 := of_decide_eq_true c3
      have c6 := of_decide_eq_true c6
      have c7 := of_decide_eq_true c7
      have c8 := of_decide_eq_true c8
      split at q
      · rename_i i j l f1 e1 e2 e4 e3
        split at q
        · rename_i hij
          simp only [Bool.and_eq_true] at hij
          cases q
          exact Ev.ds_par3 g.calm g.nd (stOf_ok g e1).1 (stOf_ok g e2).1 (stOf_ok g e4).1 (of_decide_eq_true hij.1.1) (of_decide_eq_true hij.1.2) (of_decide_eq_true hij.2) (by rw [g.sc]; exact c1) (by rw [g.sc]; exact c2) (by rw [g.sc]; exact c3) (kDA_ok h e3) (stores_par3 g c1 c2 c3 c4 c5 c6 c7 c8 hs h1 h2) rfl
        · cases q
      · cases q
    · cases q
  · cases q
theorem kAsg_ok (g : Good X c) (hE : ∀ X c, Good X c → EOk E X c) (hT : ∀ X c, Good X c → TOk T X c) {tg e : Expr} {f : MS} {pos : Pos} (q : kAsg E T c tg e = some f) : DS X (.Assign [tg] e pos) f := by
  have h := hE X c g
  unfold kAsg at q
  split at q
  · rename_i x pt
    split at q
    · cases q
    · rename_i i e1
      obtain ⟨a, b, d⟩ := stOf_ok g e1
      split at q
      · rename_i elt gens scope p2
        cases e2 : kComp E T c elt gens scope with
        | none => rw [e2] at q; cases q
        | some f1 =>
          rw [e2] at q; cases q
          cases hsw : compSwap c x pt scope p2 with
          | true =>
            have hloc : X.env.scope.names.lookup x = some .local := by
              unfold compSwap at hsw
              rw [Bool.and_eq_true, Bool.and_eq_true] at hsw
              rw [g.sc]
              exact eq_of_beq hsw.1.1
            exact (kComp_ok g hE hT e2).2 a hloc (compSwap_ok g hsw)
          | false => exact Ev.ds_set g.nd a b (kComp_ok g hE hT e2).1 (by rw [compSwap_eq g, hsw]) d
      · split at q
        · rename_i hn
          cases e2 : E c e with
          | none => rw [e2] at q; cases q
          | some f1 => rw [e2] at q; cases q; exact Ev.ds_set g.nd a b (h _ _ e2) (swaps_no hn) d
        · cases q
  · rename_i ts k pt
    split at q
    · rename_i vs k2 p2
      split at q
      · cases q
      · rename_i hs
        have hs : vs.any starred = false := by simpa using hs
        split at q
        · rename_i hf
          exact kGen_ok g h q rfl (stores_fold g hf hs) rfl
        · rename_i hf
          split at q
          · cases q
          · rename_i hc
            have hc : vs.all (constantsAlone 8) = false := by simpa using hc
            have hf : vs.all (foldedForSure 8) = false := by
              cases e1 : vs.all (foldedForSure 8) with
              | false => rfl
              | true => rw [e1, Bool.or_true, Bool.true_or] at hf; exact absurd rfl hf
            exact kPar_ok g h q hs hf hc
    · split at q
      · rename_i hn
        exact kGen_ok g h q (show swapsWith e (some (.Tuple ts k pt)) pos.line X.env = pure false from swaps_tgt.1 _ _ _) (stores_val hn) rfl
      · cases q
  · rename_i o b p
    exact kGen_ok g h q (show swapsWith e (some (.Subscript o b p)) pos.line X.env = pure false from swaps_tgt.2 _ _ _) stores_sub rfl
  · cases q
end
/-! ### statements -/
section
variable (E : Ctx → Expr → Option (M Op)) (T : Ctx → Expr → Option (M Bool)) (S : Ctx → List Stmt → Option MS)
def kRaise (c : Ctx) (e : Expr) : Option MS := match e with
  | .Call (.Name x _) [a] [] _ => if glB c.sc x && okB x && notStar a then (match c.xt.find? fun p => decide (p.1 = x) with
    | some p => (kDA E c [a]).map (cRaise p.1 p.2)
    | none => none) else none
  | _ => none
def stepS (c : Ctx) (st : Stmt) : Option MS := match st with
  | .Expr e _ => if notComp e then (E c e).map cDrop else none
  | .Assign tgs e _ => (match tgs with
    | [tg] => kAsg E T c tg e
    | _ => none)
  | .Return v _ => (match v with
    | none => some cRetN
    | some e => (E c e).map cRet)
  | .If t a b _ => (match T c t, S c a, S c b with
    | some ft, some fa, some fb => some (cIfS ft fa fb)
    | _, _, _ => none)
  | .While t body els _ => (match els with
    | [] => if !c.blk then (match T c t, S c body with
      | some ft, some fb => some (cWhile c.wh ft fb)
      | _, _ => none) else none
    | _ => none)
  | .For tg iter body els _ => (match els with
    | [] => if !c.blk && notSet iter then (match kIter E c tg iter, kTgt c tg, S c body with
      | some fi, some Tg, some fb => some (cFor Tg fi fb)
      | _, _, _ => none) else none
    | _ => none)
  | .Pass _ => some cNext
  | .Break _ => some cBreak
  | .Continue _ => some cCont
  | .Raise e b _ => (match e, b with
    | some e, none => (match kRaise E c e with
      | some f => some f
      | none => some cBad)
    | _, _ => some cBad)
  | .Try body hs els fin _ => (match hs, els, fin with
    | [.ExceptHandler (some (.Name y _)) (some n) sus _], [], [] => if !c.blk && glB c.sc y && okB y && ownB c y && !c.xt.isEmpty && decide (c.sc.names.lookup n = some .local) then
        (match slotOf c n, S c body with
        | some i, some fb => (match sus with
          | [] => none
          | s1 :: s2 :: r => (kSu c n i (s1 :: s2 :: r)).map fun l => cTry fb c.xt (fun x => decide (x = y) || decide (y = c.top)) i (suW i (suSeq l))
          | [su] => (match su with
            | .Assign [.Name t _] e _ => if notComp e then (match stOf c t, kX c n 12 e with
              | some j, some val => if decide (i = j) then none else some (cTry fb c.xt (fun x => decide (x = y) || decide (y = c.top)) i (suSet j val))
              | _, _ => none) else none
            | .Return (some e) _ => (kX c n 12 e).map fun val => cTry fb c.xt (fun x => decide (x = y) || decide (y = c.top)) i (suRet val)
            | _ => none))
        | _, _ => none) else none
    | _, _, _ => none)
  | _ => none
def kSts (c : Ctx) : List Stmt → Option MS
  | [] => some cNext
  | s :: ss => match stepS E T S c s, kSts c ss with
    | some f, some g => some (cSeq f g)
    | _, _ => none
end
section
variable {E : Ctx → Expr → Option (M Op)} {T : Ctx → Expr → Option (M Bool)} {S : Ctx → List Stmt → Option MS} {X : Cx} {c : Ctx}
def SOk (S : Ctx → List Stmt → Option MS) (X : Cx) (c : Ctx) : Prop := ∀ e f, S c e = some f → DSs X e f
theorem stepS_ok (g : Good X c) (hE : ∀ X c, Good X c → EOk E X c) (hT : ∀ X c, Good X c → TOk T X c) (hS : ∀ X c, Good X c → SOk S X c) {st : Stmt} {f : MS} (q : stepS E T S c st = some f) : DS X st f := by
  have h := hE X c g
  unfold stepS at q
  split at q
  · rename_i e p
    split at q
    · rename_i hn
      cases e1 : E c e with
      | none => rw [e1] at q; cases q
      | some f1 => rw [e1] at q; cases q; exact ds_expr (h _ _ e1) hn
    · cases q
  · split at q
    · exact kAsg_ok g hE hT q
    · cases q
  · split at q
    · cases q; exact ds_retN
    · rename_i e
      cases e1 : E c e with
      | none => rw [e1] at q; cases q
      | some f1 => rw [e1] at q; cases q; exact ds_ret (h _ _ e1)
  · split at q
    · rename_i ft fa fb e1 e2 e3
      cases q
      exact ds_if (hT X c g _ _ e1) (hS X c g _ _ e2) (hS X c g _ _ e3)
    · cases q
  · split at q
    · split at q
      · rename_i hb
        split at q
        · rename_i ft fb e1 e2
          cases q
          exact ds_while _ (g.pass (bnot_eq hb)) (hT X c g _ _ e1) (hS X c g _ _ e2)
        · cases q
      · cases q
    · cases q
  · split at q
    · split at q
      · rename_i hb
        rw [Bool.and_eq_true] at hb
        split at q
        · rename_i fi Tg fb e1 e2 e3
          cases q
          exact ds_for (g.pass (bnot_eq hb.1)) g.calm (kIter_ok g h e1) (kTgt_ok g e2) (hS X c g _ _ e3) (notSet_ok hb.2 _)
        · cases q
      · cases q
    · cases q
  · cases q; exact ds_pass
  · cases q; exact ds_break
  · cases q; exact ds_cont
  · split at q
    · rename_i e b p e'
      cases e1 : kRaise E c e' with
      | none => rw [e1] at q; cases q; exact ds_never
      | some f1 =>
        rw [e1] at q
        cases q
        unfold kRaise at e1
        split at e1
        · split at e1
          · rename_i cc
            simp only [Bool.and_eq_true] at cc
            split at e1
            · rename_i a p2 ep
              cases e2 : kDA E c [_] with
              | none => rw [e2] at e1; cases e1
              | some f2 =>
                rw [e2] at e1
                cases e1
                have m := List.mem_of_find?_eq_some ep
                have n' := List.find?_some ep
                have n' := of_decide_eq_true n'
                obtain ⟨x', g'⟩ := p2
                dsimp only at n'
                subst n'
                obtain ⟨fI, T⟩ := g.xf.tx _ _ m
                obtain ⟨k, hr⟩ := g.rm
                exact ds_raise g.calm T hr (kDA_ok h e2) (glB_ok g cc.1.1) (okB_ok cc.1.2).1 cc.2
            · cases e1
          · cases e1
        · cases e1
    · cases q; exact ds_never
  · rename_i body hs els fin p
    split at q
    · rename_i y np n sus p'
      split at q
      · rename_i cc
        simp only [Bool.and_eq_true] at cc
        obtain ⟨⟨⟨⟨⟨c1, c2⟩, c3⟩, c4⟩, c5⟩, c6⟩ := cc
        have c6 := of_decide_eq_true c6
        have hb := bnot_eq c1
        have hne : c.xt ≠ [] := fun z => by rw [z] at c5; cases c5
        have o := own_of c4
        have gt : ∀ pn xe, PassesOwn (model X.prog X.w) X.A X.env xe → Good (X.tr pn xe) c := fun pn xe po => ⟨g.N, g.nd, g.calm, g.sc, g.un, g.kind, g.fnb, g.fnc, fun _ => po, g.free, g.cst, fun x fi h => ⟨(g.F x fi h).ex, (g.F x fi h).np⟩, g.xf, g.rm, g.st⟩
        split at q
        · rename_i i fb e1 e2
          obtain ⟨h1, h2, h3, h4⟩ := slotOf_ok g e1
          split at q
          · cases q
          · rename_i s1 s2 r
            cases e3 : kSu c n i (s1 :: s2 :: r) with
            | none => rw [e3] at q; cases q
            | some l =>
              rw [e3] at q
              cases q
              exact ds_trySeq (g.st hb).1 (g.st hb).2 g.nd h1 (by show X.env.scope.names.lookup n = _; rw [g.sc]; exact c6) (glB_ok g c2) (okB_ok c3).1 (g.xf.mg _ o hne) (fun x g' m => g.xf.ex x g' m _ o) (fun pn xe po => hS _ _ (gt pn xe po) _ _ e2) (kSu_ok g h1 h2 h3 h4 _ l e3)
          · rename_i su
            split at q
            · rename_i t tp e ap
              split at q
              · rename_i hn
                split at q
                · rename_i j val e3 e4
                  split at q
                  · cases q
                  · rename_i hij
                    cases q
                    obtain ⟨a, b, d⟩ := stOf_ok g e3
                    exact ds_trySet (g.st hb).1 (g.st hb).2 g.nd h1 (by show X.env.scope.names.lookup n = _; rw [g.sc]; exact c6) (glB_ok g c2) (okB_ok c3).1 (g.xf.mg _ o hne) (fun x g' m => g.xf.ex x g' m _ o) (fun pn xe po => hS _ _ (gt pn xe po) _ _ e2) a b d (by simpa using hij) (swaps_no hn) (kX_ok g h1 h2 h3 h4 12 e val e4)
                · cases q
              · cases q
            · rename_i e ap
              cases e4 : kX c n 12 e with
              | none => rw [e4] at q; cases q
              | some val =>
                rw [e4] at q
                cases q
                exact ds_tryRet (g.st hb).1 (g.st hb).2 g.nd h1 (by show X.env.scope.names.lookup n = _; rw [g.sc]; exact c6) (glB_ok g c2) (okB_ok c3).1 (g.xf.mg _ o hne) (fun x g' m => g.xf.ex x g' m _ o) (fun pn xe po => hS _ _ (gt pn xe po) _ _ e2) (kX_ok g h1 h2 h3 h4 12 e val e4)
            · cases q
        · cases q
      · cases q
    · cases q
  · cases q
theorem kSts_ok (g : Good X c) (hE : ∀ X c, Good X c → EOk E X c) (hT : ∀ X c, Good X c → TOk T X c) (hS : ∀ X c, Good X c → SOk S X c) : ∀ {ss : List Stmt} {f : MS}, kSts E T S c ss = some f → DSs X ss f
  | [], f, q => by cases q; exact dss_nil
  | s :: ss, f, q => by
    unfold kSts at q
    split at q
    · rename_i f1 g1 e1 e2
      cases q
      exact dss_cons (stepS_ok g hE hT hS e1) (kSts_ok g hE hT hS e2)
    · cases q
end
def compS : Nat → Ctx → List Stmt → Option MS
  | 0 => fun _ _ => none
  | n + 1 => kSts (comp 24).1 (comp 24).2 (compS n)
theorem compS_ok : ∀ (n : Nat) (X : Cx) (c : Ctx), Good X c → SOk (compS n) X c
  | 0, _, _, _ => fun _ _ h => (nomatch h)
  | n + 1, X, c, g => fun _ _ h => kSts_ok g (comp_ok 24).1 (comp_ok 24).2 (compS_ok n) h
end Ev
set_option Elab.async false
set_option linter.all false
set_option autoImplicit false
set_option maxRecDepth 100000
set_option maxHeartbeats 4000000
namespace Ev
open PySem PySem.Spec L2
open PyProof.Rows hiding St
/-! ### a law's defs -/
structure DF where
  name : Str
  ps : List Str
  N : List Str
  ios : List Bool
  kws : List (List Str × Nat × List Nat)
  hint : Nat → Bool
  st : Stmt
  cb : (Str → M Op) → MS
def findD (tab : List DF) (x : Str) : Option DF := tab.find? fun d => decide (d.name = x)
def tabF (tab : List DF) (C : Str → M Op) : Str → Option FI := fun x => (findD tab x).map fun d => ⟨d.ps, d.ios, d.kws, C x⟩
/-- an own error: its class, its field is given (else index), the def of its __init__, that one's qualified name -/
structure XC where
  x : Str
  g : Bool
  st : Stmt
  qn : Str
structure Lw where
  free : List Str
  cst : List (Str × D)
  wh : Nat
  xc : List XC := []
  top : Str := "LampError"
def Lw.xt (w : Lw) : List (Str × Bool) := w.xc.map fun p => (p.x, p.g)
def DF.ctx (w : Lw) (tab : List DF) (C : Str → M Op) (d : DF) : Ctx := ⟨d.N, defScope d.st, false, [], d.hint, w.wh, tabF tab C, w.free, w.cst, w.xt, w.top⟩
def callN (tab : List DF) : Nat → Str → M Op
  | 0, _ => mBad
  | n + 1, x => match findD tab x with
    | some d => runF d.N.length (d.cb (callN tab n))
    | none => mBad
structure DOk (w : Lw) (tab : List DF) (d : DF) : Prop where
  sc : FnScope d.N d.ps (defScope d.st)
  bind : ∀ (kV doc pm : Value) (an : Option Addr) (cdv ct : Value) (us : List Value), us.length = d.ps.length → bindArgs (PySem.W.fnOf d.name d.name (defArgs d.st) (defBody d.st) (defScope d.st) .none kV doc pm an cdv ct) ⟨us, []⟩ = pure (d.ps.zip us)
  kw : ∀ p ∈ d.kws, d.ps.length ≠ 0 ∧ ∀ (kV doc pm : Value) (an : Option Addr) (cdv ct : Value) (us ws : List Value), us.length = p.2.1 → ws.length = p.1.length → bindArgs (PySem.W.fnOf d.name d.name (defArgs d.st) (defBody d.st) (defScope d.st) .none kV doc pm an cdv ct) ⟨us, p.1.zip ws⟩ = pure (d.ps.zip (perm p.2.2 (us ++ ws)))
  cp : ∀ C : Str → M Op, compS 12 (d.ctx w tab C) (defBody d.st) = some (d.cb C)
abbrev DFun (K : PySem.W.Frag) (d : DF) (fd : FuncData) : Prop := FunD K d.name d.name (defArgs d.st) (defBody d.st) (defScope d.st) [] [] (He.ga K d.name) fd
theorem callN_np (tab : List DF) : ∀ (n : Nat) (x : Str) (sl : List Slot) (o : Op) (sl' : List Slot), callN tab n x sl = .ok o sl' → notPlace o = true
  | 0, x, sl, o, sl', h => by cases h
  | n + 1, x, sl, o, sl', h => by
    have h : (match findD tab x with | some d => runF d.N.length (d.cb (callN tab n)) | none => mBad) sl = .ok o sl' := h
    cases e : findD tab x with
    | none => rw [e] at h; cases h
    | some d => rw [e] at h; exact runF_np _ _ _ _ _ h
theorem link {P : Program} {w : World} {K : PySem.W.Frag} {mg : Str → Option Value} {base : Heap} {tab : List DF} {lw : Lw} (hd : ∀ d ∈ tab, ∃ fd, DFun K d fd) (hm : ∀ d ∈ tab, mg d.name = some (.ref (He.ga K d.name))) (hf : ∀ x ∈ lw.free, mg x = none)
    (hc : ∀ p ∈ lw.cst, ∃ u v, mg p.1 = some u ∧ RelV v u ∧ ∀ F, Rep K F p.2 v) (hx : XFacts K mg lw.xt lw.top) (ok : ∀ d ∈ tab, DOk lw tab d) :
    ∀ (n : Nat) (d : DF) (fd : FuncData), d ∈ tab → findD tab d.name = some d → DFun K d fd → FnOk P w K mg base (L2.CX P w) n (He.ga K d.name) fd d.ps (SpF K d.ps.length (callN tab n d.name))
  | 0, d, fd, _, _, _ => ⟨fun vs H Q E h => h.1, fun A outer s H args us vs Q E _ _ _ _ h => by obtain ⟨_, G, F, sl, _, h⟩ := h; exact h.elim⟩
  | n + 1, d, fd, m, fnd, Fd => by
    have dk := ok d m
    have e : callN tab (n + 1) d.name = runF d.N.length (d.cb (callN tab n)) := by
      show (match findD tab d.name with | some d => runF d.N.length (d.cb (callN tab n)) | none => mBad) = _
      rw [fnd]
    rw [e]
    refine fn_data Fd dk.sc fun cdv A outer s H E hr => ?_
    refine compS_ok 12 _ (d.ctx lw tab (callN tab n)) ?_ _ _ (dk.cp (callN tab n))
    refine ⟨rfl, dk.sc.nd, rfl, rfl, ?_, dk.sc.kind, fun _ _ => rfl, fun _ hx => (nomatch hx), fun _ => passes_of rfl, hf, hc, (fun x fi h => ?_), hx, ⟨_, hr⟩, fun _ => ⟨rfl, rfl⟩⟩
    · have := hr.un
      show (A.deeper _).units + 65 < cLine
      omega
    · have h : (findD tab x).map (fun d => (⟨d.ps, d.ios, d.kws, callN tab n x⟩ : FI)) = some fi := h
      cases e1 : findD tab x with
      | none => rw [e1] at h; cases h
      | some d' =>
        rw [e1] at h; cases h
        have m' : d' ∈ tab := List.mem_of_find?_eq_some e1
        have n' : d'.name = x := by have := List.find?_some e1; exact of_decide_eq_true this
        subst n'
        obtain ⟨fd', Fd'⟩ := hd d' m'
        have dk' := ok d' m'
        refine ⟨⟨n, He.ga K d'.name, fd', link hd hm hf hc hx ok n d' fd' m' e1 Fd', hr, hm d' m', Fd'.kp, Fd'.bindsN dk'.bind, fun p hp => ?_⟩, callN_np tab n d'.name⟩
        obtain ⟨k1, k2⟩ := dk'.kw p hp
        exact kbinds_of Fd' p.2.1 p.1.length p.2.2 k1 k2
/-! ### the end -/
def DF.defD (d : DF) : He.DefD := ⟨(d.name, none), d.name, d.name, defArgs d.st, defBody d.st, defScope d.st, [], []⟩
def cstFa : Str × D → He.Fa
  | (x, .int i) => .int x i
  | (x, .str s) => .str x ⟨s.toArray⟩
  | (x, _) => .glo x
def cstOk : Str × D → Bool
  | (_, .int _) => true
  | (_, .str _) => true
  | _ => false
def facts (lw : Lw) (tab : List DF) : List He.Fa := tab.map (fun d => He.Fa.glo d.name) ++ (lw.free.map He.Fa.free ++ lw.cst.map cstFa)
theorem SaysD.mem {fa : List He.Fa} {fn : List He.DefD} {K : PySem.W.Frag} (c : He.SaysD fa fn K) {f : He.Fa} (h : f ∈ fa) : f.ok K = true := by
  obtain ⟨i, hi, e⟩ := List.mem_iff_getElem.mp h
  exact c.fact i (by rw [List.getElem?_eq_getElem hi, e])
theorem SaysD.defm {fa : List He.Fa} {tab : List DF} {K : PySem.W.Frag} (c : He.SaysD fa (tab.map DF.defD) K) {d : DF} (h : d ∈ tab) : ∃ fd, DFun K d fd := by
  obtain ⟨i, hi, e⟩ := List.mem_iff_getElem.mp h
  exact c.def_ i (d := d.defD) (by rw [List.getElem?_map, List.getElem?_eq_getElem hi, e]; rfl)
theorem walk_ofW {l : PySem.W.OpenLaw} {n k : Nat} {q : Program} {loose : List Str} {XP : (Str → Option Value) → Heap → Prop} {YP : World → Heap → Prop} {d : DefRec} {CX : World → CXT} {x : Str}
    (hn : l.most = some n) (hn2 : n ≤ sizeLine) (hdf : d.params.defaults = []) (hr : Room k callerA)
    (F : ∀ (w : World) (mg : Str → Option Value) (fa : Addr) (h : Heap), YP w h → h.Ns mainGlobals mg → mg d.name = some (.ref fa) →
      ∃ (K : PySem.W.Frag) (fd : FuncData) (sp : Sp), K.In h ∧ (∀ (s : Shared) (u : Value), BindsTo s fd ⟨[u], []⟩ [(x, u)]) ∧
        (∀ (H : Hp) (a : Addr) (ns : List Int), ns.length ≤ n → Only H → SqL K H a (ns.map V.int) → sp [.ref a] H (fun v _ => v = .bl true) fun _ _ _ => False) ∧
        ∀ base : Heap, K.In base → base.Ns mainGlobals mg → FnOk l.prog w K mg base (CX w) k fa fd [x] sp)
    (hCX : ∀ (w : World) (H : Hp) (s : Shared) (e : Value) (s' : Shared), CX w [] H s (fun _ _ _ => False) e s' → False) :
    PySem.W.WalkO q loose XP YP l.row.toRowW d [] (fun f vs => PySem.call f vs) := by
  refine Att.attach_call hn hdf fun w s₀ s₁ mg mb fa o pm cd doc a vs ns G Y ho hd hcd hmg hobj hints hlen hg => ?_
  obtain ⟨K, fd, sp, KX, hb, hsp, hF⟩ := F w mg fa _ Y G.T.g hmg
  exact law_call KX G.T.g G.T.b G.T.builtins G.T.nolimit hg hobj hints (Nat.le_trans hlen hn2) hr hF hb (fun H hO hS => hsp H a ns hlen hO hS) fun H e s' => hCX w H s₁ e s'
theorem repl_ints {K : PySem.W.Frag} {F : Hp} : ∀ ns : List Int, RepL K F (ns.map D.int) (ns.map V.int)
  | [] => .nil
  | n :: ns => .cons (rep_int n) (repl_ints ns)
theorem law_sp {K : PySem.W.Frag} {fn : M Op} {H : Hp} {a : Addr} {ns : List Int} (hS : SqL K H a (ns.map V.int)) (h : ∃ sl', fn [.val (.ext (ns.map D.int))] = .ok (.val (.bl true)) sl') :
    SpF K 1 fn [.ref a] H (fun v _ => v = .bl true) fun _ _ _ => False := by
  obtain ⟨sl', e⟩ := h
  refine ⟨rfl, ⟨fun _ => none, fun _ => none⟩, H, [.val (.ext (ns.map D.int))], ?_, ?_⟩
  · refine ⟨.refl, fun a o z => (nomatch z), fun a o z => (nomatch z), fun i s h => ?_, fun i j s t a h1 o1 h2 o2 p1 p2 => ?_, rfl, fun i d h => ?_⟩
    · cases i with
      | zero =>
        cases h
        exact ⟨_, rfl, by unfold Rep; exact ⟨a, _, rfl, hS, repl_ints ns⟩⟩
      | succ i => cases h
    · cases i with
      | zero => cases h1; cases o1
      | succ i => cases h1
    · cases i with
      | zero => cases h
      | succ i => cases h
  · rw [e]
    refine ⟨rfl, fun v F' H' s r q => ?_⟩
    have q : Rep K F' (.bl true) v := q
    unfold Rep at q
    exact q
/-! ### own errors: what the top has written of their classes -/
def clsB (K : PySem.W.Frag) (C : Addr) : Bool := match K.lookup C with
  | some ⟨.type "type", _, .cls cd, sl⟩ => (match cd.mro, sl.toList with
    | .ref C' :: bm, [_, _, _, _, some (.builtin n), _] => decide (C' = C) && (decide (n = "ValueError.__new__") && (cd.hasDict && (!cd.hasDel && PySem.HandSPX.refsVE bm)))
    | _, _ => false)
  | _ => false
theorem clsB_ok {K : PySem.W.Frag} {C : Addr} (h : clsB K C = true) : ∃ nm q N bs bm sn sub ab col dd k0 k1 k2 k3 k5, K.lookup C = some (excClassObj nm q C N bs bm true sn sub ab col dd k0 k1 k2 k3 k5 "ValueError.__new__") ∧ PySem.HandSPX.refsVE bm = true := by
  unfold clsB at h
  split at h
  · rename_i dd cd sl e
    split at h
    · rename_i C' bm k0 k1 k2 k3 n k5 e1 e2
      simp only [Bool.and_eq_true, Bool.not_eq_true'] at h
      obtain ⟨h1, h2, h3, h4, h5⟩ := h
      have h1 := of_decide_eq_true h1
      have h2 := of_decide_eq_true h2
      subst h1 h2
      obtain ⟨nm, bs, mro, N, q, hd, sn, sub, ab, col, del⟩ := cd
      obtain ⟨sl⟩ := sl
      dsimp only at e1 e2 h3 h4
      subst e1 e2 h3 h4
      exact ⟨nm, q, N, bs, bm, sn, sub, ab, col, dd, k0, k1, k2, k3, k5, e, h5⟩
    · cases h
  · cases h
def xcB (K : PySem.W.Frag) (x : Str) (g : Bool) : Bool :=
  clsB K (He.ga K x) && (He.eqO (PySem.W.findIn K (.ref (He.ga K x)) "__setattr__") (some (some (.builtin "object.__setattr__"))) && (He.eqO (PySem.W.findIn K (.ref (He.ga K x)) "__getattribute__") (some (some (.builtin "BaseException.__getattribute__"))) &&
  (He.eqO (PySem.W.findIn K (.ref (He.ga K x)) "__getattr__") (some none) && (He.eqO (PySem.W.findIn K (.ref (He.ga K x)) (PySem.EvX.fl g)) (some none) && (He.eqO (PySem.W.findIn K (.ref (He.ga K x)) "__init__") (some (some (.ref (He.ma K (He.ga K x) "__init__")))) &&
  (decide (PySem.W.typeIn K (.ref (He.ma K (He.ga K x) "__init__")) = some (.type "function")) && (PySem.W.keepIn K (.ref (He.ga K x)) && (decide (PySem.W.subIn K (.ref (He.ga K x)) (.type "BaseException") = some true) && (decide (PySem.W.typeIn K (.ref (He.ga K x)) = some (.type "type")) &&
  (PySem.W.hasDictIn K (He.ga K x) && (He.eqO (PySem.W.findIn K (.ref (He.ga K x)) "__class__") (some (some (.builtin "object.__class__"))) && (He.eqO (PySem.W.specialIn K (.builtin "object.__class__") "__get__") (some (some (.builtin "getset_descriptor.__get__"))) &&
  (decide (PySem.W.takesIn K (.builtin "object.__class__") = some true) && decide (PySem.W.mroIn K (He.ga K x) (.type "object") = some true))))))))))))))
def xAllB (xt : List (Str × Bool)) (top : Str) (K : PySem.W.Frag) : Bool := xt.all fun p => xcB K p.1 p.2 && (top :: xt.map (·.1)).all fun y =>
  decide (PySem.W.exmOne K (.ref (He.ga K p.1)) (.ref (He.ga K y)) = some (decide (p.1 = y) || decide (y = top))) && decide (PySem.W.kitOne K (.ref (He.ga K p.1)) (.ref (He.ga K y)) = some (decide (p.1 = y) || decide (y = top)))
def hookX (n : Nat) (fa : List He.Fa) (fn : List He.DefD) (xt : List (Str × Bool)) (top : Str) : PySem.W.Hook where
  α := He.AlD × Bool
  obs := fun s => (He.obsDG n fa fn s.heap.get?, xAllB xt top (He.frG s.heap.get? (He.asD s.heap.get? n)))
  val := fun _ => (He.valD fn, true)
  says := fun _ h => ∃ K : PySem.W.Frag, K.In h ∧ He.SaysD fa fn K ∧ xAllB xt top K = true
  of := fun _ _ e => ⟨_, He.frG_in, congrArg Prod.fst e, congrArg Prod.snd e⟩
  keeps := fun _ _ _ ⟨K, hK, c⟩ k => ⟨K, PySem.W.Frag.In.keeps hK k, c⟩
theorem obX_eq {n : Nat} {fa : List He.Fa} {fn : List He.DefD} {xt : List (Str × Bool)} {top : Str} {g : Addr → Option Obj} {s : Shared} (h : ∀ a, g a = s.heap.get? a) : ((He.obsDG n fa fn g, xAllB xt top (He.frG g (He.asD g n))) : He.AlD × Bool) = (hookX n fa fn xt top).obs s := by
  have e : g = s.heap.get? := funext h
  rw [e] <;> rfl
/-- the __init__ of an own error is the plain one -/
def XC.plain (p : XC) : Prop := ∃ p1 p2 q1 q2 q3 q4, defArgs p.st = PySem.EvX.iA p.g p1 p2 ∧ defBody p.st = PySem.EvX.iB p.g q1 q2 q3 q4 ∧ defScope p.st = PySem.EvX.iS p.g
def XC.defD (p : XC) : He.DefD := ⟨(p.x, some "__init__"), "__init__", p.qn, defArgs p.st, defBody p.st, defScope p.st, [], []⟩
def factsX (lw : Lw) (tab : List DF) : List He.Fa := facts lw tab ++ (if lw.xc.isEmpty then [] else He.Fa.glo lw.top :: lw.xc.map fun p => He.Fa.glo p.x)
def fnX (lw : Lw) (tab : List DF) : List He.DefD := tab.map DF.defD ++ lw.xc.map XC.defD
theorem xc_ok {K : PySem.W.Frag} {x : Str} {g : Bool} (h : xcB K x g = true) : clsB K (He.ga K x) = true ∧ PySem.W.findIn K (.ref (He.ga K x)) "__setattr__" = some (some (.builtin "object.__setattr__")) ∧ PySem.W.findIn K (.ref (He.ga K x)) "__getattribute__" = some (some (.builtin "BaseException.__getattribute__")) ∧
    PySem.W.findIn K (.ref (He.ga K x)) "__getattr__" = some none ∧ PySem.W.findIn K (.ref (He.ga K x)) (PySem.EvX.fl g) = some none ∧ PySem.W.findIn K (.ref (He.ga K x)) "__init__" = some (some (.ref (He.ma K (He.ga K x) "__init__"))) ∧
    PySem.W.typeIn K (.ref (He.ma K (He.ga K x) "__init__")) = some (.type "function") ∧ PySem.W.keepIn K (.ref (He.ga K x)) = true ∧ PySem.W.subIn K (.ref (He.ga K x)) (.type "BaseException") = some true ∧ PySem.W.typeIn K (.ref (He.ga K x)) = some (.type "type") ∧
    PySem.W.hasDictIn K (He.ga K x) = true ∧ PySem.W.findIn K (.ref (He.ga K x)) "__class__" = some (some (.builtin "object.__class__")) ∧ PySem.W.specialIn K (.builtin "object.__class__") "__get__" = some (some (.builtin "getset_descriptor.__get__")) ∧
    PySem.W.takesIn K (.builtin "object.__class__") = some true ∧ PySem.W.mroIn K (He.ga K x) (.type "object") = some true := by
  unfold xcB at h
  simp only [Bool.and_eq_true] at h
  obtain ⟨a1, a2, a3, a4, a5, a6, a7, a8, a9, a10, a11, a12, a13, a14, a15⟩ := h
  exact ⟨a1, He.eqO_ok a2, He.eqO_ok a3, He.eqO_ok a4, He.eqO_ok a5, He.eqO_ok a6, of_decide_eq_true a7, a8, of_decide_eq_true a9, of_decide_eq_true a10, a11, He.eqO_ok a12, He.eqO_ok a13, of_decide_eq_true a14, of_decide_eq_true a15⟩
theorem xfacts_of {K : PySem.W.Frag} {h : Heap} {mg : Str → Option Value} {lw : Lw} {tab : List DF} (KX : K.In h) (G : h.Ns mainGlobals mg) (c : He.SaysD (factsX lw tab) (fnX lw tab) K) (cx : xAllB lw.xt lw.top K = true) (hp : ∀ p ∈ lw.xc, p.plain) : XFacts K mg lw.xt lw.top := by
  have gl : ∀ y, (y = lw.top ∨ ∃ g, (y, g) ∈ lw.xt) → lw.xt ≠ [] → mg y = some (.ref (He.ga K y)) := fun y hy hne => by
    have hne2 : lw.xc.isEmpty = false := by
      cases e : lw.xc with
      | nil => exact absurd (by unfold Lw.xt; rw [e]; rfl) hne
      | cons a l => rfl
    refine He.glo_ok KX G (SaysD.mem c (List.mem_append_right _ ?_))
    rw [hne2]
    rcases hy with rfl | ⟨g, m⟩
    · exact List.mem_cons_self
    · obtain ⟨p, m2, e⟩ := List.mem_map.mp m
      cases e
      exact List.mem_cons_of_mem _ (List.mem_map_of_mem (f := fun p : XC => He.Fa.glo p.x) m2)
  have al : ∀ x g, (x, g) ∈ lw.xt → xcB K x g = true ∧ ∀ y, (y = lw.top ∨ ∃ g, (y, g) ∈ lw.xt) → PySem.W.exmOne K (.ref (He.ga K x)) (.ref (He.ga K y)) = some (decide (x = y) || decide (y = lw.top)) ∧ PySem.W.kitOne K (.ref (He.ga K x)) (.ref (He.ga K y)) = some (decide (x = y) || decide (y = lw.top)) := fun x g m => by
    have h1 := List.all_eq_true.mp cx (x, g) m
    rw [Bool.and_eq_true] at h1
    refine ⟨h1.1, fun y hy => ?_⟩
    have hm : y ∈ lw.top :: lw.xt.map (·.1) := by
      rcases hy with rfl | ⟨g', m'⟩
      · exact List.mem_cons_self
      · exact List.mem_cons_of_mem _ (List.mem_map.mpr ⟨(y, g'), m', rfl⟩)
    have h2 := List.all_eq_true.mp h1.2 y hm
    rw [Bool.and_eq_true] at h2
    exact ⟨of_decide_eq_true h2.1, of_decide_eq_true h2.2⟩
  have ne : ∀ {x g}, (x, g) ∈ lw.xt → lw.xt ≠ [] := fun m z => by rw [z] at m; cases m
  refine ⟨fun x g m => ?_, fun x g m => ?_, gl, fun x g m y hy => ((al x g m).2 y hy).1, fun x g m y hy => ((al x g m).2 y hy).2⟩
  · obtain ⟨a1, a2, a3, a4, a5, a6, a7, a8, a9, a10, a11, a12, a13, a14, a15⟩ := xc_ok (al x g m).1
    obtain ⟨p, m2, e⟩ := List.mem_map.mp m
    cases e
    have md : p.defD ∈ fnX lw tab := List.mem_append_right _ (List.mem_map_of_mem (f := XC.defD) m2)
    obtain ⟨i, hi, ei⟩ := List.mem_iff_getElem.mp md
    obtain ⟨fd, Fd⟩ := c.def_ i (d := p.defD) (by rw [List.getElem?_eq_getElem hi, ei])
    obtain ⟨oc, od, dV, kV, doc, pm, an, cdv, ct, osl, rfl, lk, hcd, dv, _⟩ := Fd.ex
    have hdv : dV = .none := dv.elim (fun z => z.2) fun z => absurd rfl z.1
    subst hdv
    obtain ⟨p1, p2, q1, q2, q3, q4, e1, e2, e3⟩ := hp p m2
    have lk2 : K.lookup (He.ma K (He.ga K p.x) "__init__") = some ⟨oc, od, .func (PySem.W.fnOf "__init__" p.qn (defArgs p.st) (defBody p.st) (defScope p.st) .none kV doc pm an cdv ct), osl⟩ := lk
    rw [e1, e2, e3] at lk2
    exact ⟨_, { gC := gl _ (.inr ⟨_, m⟩) (ne m), cls := clsB_ok a1, sa := a2, ga := a3, gg := a4, noN := a5, iC := a6, tC := a7, kC := a8, exC := a9, tyC := a10, hdC := a11, te := by have := ((al _ _ m).2 _ (.inr ⟨_, m⟩)).1; simpa using this, fn := ⟨p.qn, oc, od, kV, doc, pm, an, cdv, ct, osl, p1, p2, q1, q2, q3, q4, lk2, hcd⟩ }⟩
  · obtain ⟨a1, a2, a3, a4, a5, a6, a7, a8, a9, a10, a11, a12, a13, a14, a15⟩ := xc_ok (al x g m).1
    exact ⟨a3, a4, a9, a11, a12, a13, a14, a15⟩
theorem defmX {K : PySem.W.Frag} {lw : Lw} {tab : List DF} (c : He.SaysD (factsX lw tab) (fnX lw tab) K) {d : DF} (h : d ∈ tab) : ∃ fd, DFun K d fd := by
  have md : d.defD ∈ fnX lw tab := List.mem_append_left _ (List.mem_map_of_mem (f := DF.defD) h)
  obtain ⟨i, hi, ei⟩ := List.mem_iff_getElem.mp md
  exact c.def_ i (d := d.defD) (by rw [List.getElem?_eq_getElem hi, ei])
theorem law_end {l : PySem.W.OpenLaw} {n k : Nat} {q : Program} {loose : List Str} {XP : (Str → Option Value) → Heap → Prop} {d : DefRec} {lw : Lw} {tab : List DF} {dl : DF} {x : Str} (hn : l.most = some n) (hn2 : n ≤ sizeLine) (hdf : d.params.defaults = []) (hr : Room k callerA)
    (hname : d.name = dl.name) (hx : dl.ps = [x]) (hm : findD tab dl.name = some dl) (ok : ∀ d ∈ tab, DOk lw tab d) (hcst : lw.cst.all cstOk = true)
    (hp : ∀ p ∈ lw.xc, p.plain)
    (hrun : ∀ ns : List Int, ns.length ≤ n → ∃ sl', callN tab k dl.name [.val (.ext (ns.map D.int))] = .ok (.val (.bl true)) sl') :
    PySem.W.WalkO q loose XP (hookX 4 (factsX lw tab) (fnX lw tab) lw.xt lw.top).says l.row.toRowW d [] (fun f vs => PySem.call f vs) := by
  refine walk_ofW (l := l) (n := n) (k := k) (x := x) (CX := fun w => L2.CX l.prog w) hn hn2 hdf hr (fun w mg fa h Y G hmg0 => ?_) fun w H s e s' z => ?_
  · obtain ⟨K, KX, c, cx⟩ := Y
    have hxf := xfacts_of KX G c cx hp
    have md : dl ∈ tab := List.mem_of_find?_eq_some hm
    have gl : ∀ d ∈ tab, mg d.name = some (.ref (He.ga K d.name)) := fun d hd => He.glo_ok KX G (SaysD.mem c (List.mem_append_left _ (List.mem_append_left _ (List.mem_map_of_mem (f := fun d : DF => He.Fa.glo d.name) hd))))
    have fr : ∀ x ∈ lw.free, mg x = none := fun x hx => He.free_ok KX G (SaysD.mem c (List.mem_append_left _ (List.mem_append_right _ (List.mem_append_left _ (List.mem_map_of_mem (f := He.Fa.free) hx)))))
    have cs : ∀ p ∈ lw.cst, ∃ u v, mg p.1 = some u ∧ RelV v u ∧ ∀ F, Rep K F p.2 v := fun p hp => by
      have ok1 := SaysD.mem c (List.mem_append_left _ (List.mem_append_right _ (List.mem_append_right _ (List.mem_map_of_mem (f := cstFa) hp))))
      have ok2 := List.all_eq_true.mp hcst p hp
      obtain ⟨y, dd⟩ := p
      cases dd with
      | int i =>
        obtain ⟨t, e⟩ := He.int_ok KX G ok1
        exact ⟨_, .int i, e, ⟨t, rfl⟩, fun F => rep_int i⟩
      | str z =>
        obtain ⟨t, e⟩ := He.str_ok KX G ok1
        exact ⟨_, .str ⟨z.toArray⟩, e, ⟨t, rfl⟩, fun F => rep_str z⟩
      | _ => cases ok2
    obtain ⟨fd, Fd⟩ := defmX c md
    have e1 := (hname ▸ hmg0 : mg dl.name = some (.ref fa)).symm.trans (gl dl md)
    cases e1
    have dk := ok dl md
    refine ⟨K, fd, SpF K 1 (callN tab k dl.name), KX, fun s u => ?_, fun H a ns hl _ hS => law_sp hS (hrun ns hl), fun base KB nb => ?_⟩
    · have := Fd.bindsA dk.bind s [u] (by rw [hx]; rfl)
      rw [hx] at this
      exact this
    · have := link (P := l.prog) (w := w) (base := base) (fun d hd => defmX c hd) gl fr cs hxf ok k dl fd md hm Fd
      rw [hx] at this
      exact this
  · obtain ⟨a, B, H', cls, d, _, _, _, _, _, _, _, z⟩ := z
    exact z
theorem isi_str_str (s : List Nat) : gIsi [.str s, .ty "str"] = some (.val (.bl true)) := rfl
theorem isi_str_int (s : List Nat) : gIsi [.str s, .ty "int"] = some (.val (.bl false)) := rfl
theorem isi_str_bool (s : List Nat) : gIsi [.str s, .ty "bool"] = some (.val (.bl false)) := rfl
theorem isi_str_list (s : List Nat) : gIsi [.str s, .ty "list"] = some (.val (.bl false)) := rfl
theorem isi_str_tuple (s : List Nat) : gIsi [.str s, .ty "tuple"] = some (.val (.bl false)) := rfl
theorem isi_str_dict (s : List Nat) : gIsi [.str s, .ty "dict"] = some (.val (.bl false)) := rfl
theorem isi_int_str (i : Int) : gIsi [.int i, .ty "str"] = some (.val (.bl false)) := rfl
theorem isi_int_int (i : Int) : gIsi [.int i, .ty "int"] = some (.val (.bl true)) := rfl
theorem isi_int_bool (i : Int) : gIsi [.int i, .ty "bool"] = some (.val (.bl false)) := rfl
theorem isi_int_list (i : Int) : gIsi [.int i, .ty "list"] = some (.val (.bl false)) := rfl
theorem isi_int_tuple (i : Int) : gIsi [.int i, .ty "tuple"] = some (.val (.bl false)) := rfl
theorem isi_int_dict (i : Int) : gIsi [.int i, .ty "dict"] = some (.val (.bl false)) := rfl
theorem isi_bl_str (b : Bool) : gIsi [.bl b, .ty "str"] = some (.val (.bl false)) := rfl
theorem isi_bl_int (b : Bool) : gIsi [.bl b, .ty "int"] = some (.val (.bl true)) := rfl
theorem isi_bl_bool (b : Bool) : gIsi [.bl b, .ty "bool"] = some (.val (.bl true)) := rfl
theorem isi_bl_list (b : Bool) : gIsi [.bl b, .ty "list"] = some (.val (.bl false)) := rfl
theorem isi_bl_tuple (b : Bool) : gIsi [.bl b, .ty "tuple"] = some (.val (.bl false)) := rfl
theorem isi_bl_dict (b : Bool) : gIsi [.bl b, .ty "dict"] = some (.val (.bl false)) := rfl
theorem isi_lst_str (xs : List D) : gIsi [.lst xs, .ty "str"] = some (.val (.bl false)) := rfl
theorem isi_lst_int (xs : List D) : gIsi [.lst xs, .ty "int"] = some (.val (.bl false)) := rfl
theorem isi_lst_bool (xs : List D) : gIsi [.lst xs, .ty "bool"] = some (.val (.bl false)) := rfl
theorem isi_lst_list (xs : List D) : gIsi [.lst xs, .ty "list"] = some (.val (.bl true)) := rfl
theorem isi_lst_tuple (xs : List D) : gIsi [.lst xs, .ty "tuple"] = some (.val (.bl false)) := rfl
theorem isi_lst_dict (xs : List D) : gIsi [.lst xs, .ty "dict"] = some (.val (.bl false)) := rfl
theorem isi_tup_str (xs : List D) : gIsi [.tup xs, .ty "str"] = some (.val (.bl false)) := rfl
theorem isi_tup_int (xs : List D) : gIsi [.tup xs, .ty "int"] = some (.val (.bl false)) := rfl
theorem isi_tup_bool (xs : List D) : gIsi [.tup xs, .ty "bool"] = some (.val (.bl false)) := rfl
theorem isi_tup_list (xs : List D) : gIsi [.tup xs, .ty "list"] = some (.val (.bl false)) := rfl
theorem isi_tup_tuple (xs : List D) : gIsi [.tup xs, .ty "tuple"] = some (.val (.bl true)) := rfl
theorem isi_tup_dict (xs : List D) : gIsi [.tup xs, .ty "dict"] = some (.val (.bl false)) := rfl
theorem isi_non_str  : gIsi [.non, .ty "str"] = some (.val (.bl false)) := rfl
theorem isi_non_int  : gIsi [.non, .ty "int"] = some (.val (.bl false)) := rfl
theorem isi_non_bool  : gIsi [.non, .ty "bool"] = some (.val (.bl false)) := rfl
theorem isi_non_list  : gIsi [.non, .ty "list"] = some (.val (.bl false)) := rfl
theorem isi_non_tuple  : gIsi [.non, .ty "tuple"] = some (.val (.bl false)) := rfl
theorem isi_dic_str (t : Bool) (ks vs : List D) : gIsi [.dic t ks vs, .ty "str"] = some (.val (.bl false)) := rfl
theorem isi_dic_int (t : Bool) (ks vs : List D) : gIsi [.dic t ks vs, .ty "int"] = some (.val (.bl false)) := rfl
theorem isi_dic_bool (t : Bool) (ks vs : List D) : gIsi [.dic t ks vs, .ty "bool"] = some (.val (.bl false)) := rfl
theorem isi_dic_list (t : Bool) (ks vs : List D) : gIsi [.dic t ks vs, .ty "list"] = some (.val (.bl false)) := rfl
theorem isi_dic_tuple (t : Bool) (ks vs : List D) : gIsi [.dic t ks vs, .ty "tuple"] = some (.val (.bl false)) := rfl
theorem isi_dic_dict (t : Bool) (ks vs : List D) : gIsi [.dic t ks vs, .ty "dict"] = some (.val (.bl true)) := rfl
theorem isi_non_dict  : gIsi [.non, .ty "dict"] = some (.val (.bl false)) := rfl
end Ev
set_option Elab.async false
set_option linter.all false
set_option autoImplicit false
set_option maxRecDepth 100000
set_option maxHeartbeats 4000000
namespace La
open PySem PySem.Spec L2 Ev
open PyProof.Rows hiding St
def top (i : Nat) : Stmt := PySem.Challenge.pw_lamptables_k58_gates_of_nets.main.body.getD i (.Pass ⟨0, 0, 0, 0⟩)
def ini (i : Nat) : Stmt := match top i with
  | .ClassDef _ _ _ b _ _ _ _ _ _ _ => b.getD 0 (.Pass ⟨0, 0, 0, 0⟩)
  | s => s
def xt0 : List (Str × Bool) := []
def cb_close_turned (C : Str → M Op) : MS := cSeq (cWhile 80 (cAndT (cCmpT gGt (cCall gLen (cConsO (cVar 0) (cNilO))) (cC (.int 1))) (cCmpT gEq (cBin gIx (cBin gIx (cVar 0) (cUn gNeg (cC (.int 2)))) (cC (.int 0))) (cC (.str [33])))) (cSeq (cDrop (cMethO "list" 1 gAppend (cCons (cTup (cCons (cBin gIx (cBin gIx (cVar 0) (cUn gNeg (cC (.int 2)))) (cC (.int 1))) (cCons (cC (.str [33])) (cNil)))) (cNil)))) (cSeq (cAssign (tgSl 0 (cPart (some (cUn gNeg (cC (.int 2))))) (cPart none)) (cLst (cCons (cTup (cCons (cC (.str [119, 104, 111, 108, 101])) (cCons (cC .non) (cNil)))) (cNil)))) (cNext)))) (cNext)
def d_close_turned : DF := ⟨"close_turned", ["waiting", "steps"], ["waiting", "steps"], [true, true], [], fun _ => false, top 12, cb_close_turned⟩
def cb_is_closed_pair (C : Str → M Op) : MS := cSeq (cAsg 1 (cLc [2, 3] (.many [2, 3]) (cItV (cSl (cVar 0) (cPart (some (cUn gNeg (cC (.int 4))))) (cPart none))) (mOk true) (cVar 2))) (cSeq (cRet (cAnd (cCmp gEq (cCall gLen (cConsO (cVar 1) (cNilO))) (cC (.int 4))) (cAnd (cCmp gEq (cBin gIx (cVar 1) (cC (.int 0))) (cC (.str [40]))) (cAnd (cCmp gIn (cBin gIx (cVar 1) (cC (.int 2))) (cSl (cC (.str [33, 38, 124, 94])) (cPart (some (cC (.int 1)))) (cPart none))) (cChain gEq gEq (cBin gIx (cVar 1) (cC (.int 1))) (cBin gIx (cVar 1) (cC (.int 3))) (cC (.str [119, 104, 111, 108, 101]))))))) (cNext))
def d_is_closed_pair : DF := ⟨"is_closed_pair", ["waiting"], ["waiting", "signs", "sign", "place"], [true], [], fun _ => false, top 13, cb_is_closed_pair⟩
def cb_steps_of (C : Str → M Op) : MS := cSeq (cIfS (cOrT (cNotT (cTru (cCall gIsi (cConsO (cVar 0) (cConsO (cC (.ty "str")) (cNilO)))))) (cCmpT gGt (cCall gLen (cConsO (cVar 0) (cNilO))) (cC (.int 60)))) (cSeq (cRet (cC .non)) (cNext)) (cNext)) (cSeq (cParE 1 2) (cSeq (cFor (.many [3, 4]) (cRng enumD (cCons (cVar 0) (cNil))) (cSeq (cIfS (cCmpT gIn (cVar 4) (cC (.str [48, 49, 50, 51]))) (cSeq (cDrop (cMethO "list" 2 gAppend (cCons (cTup (cCons (cVar 3) (cCons (cVar 4) (cNil)))) (cNil)))) (cSeq (cDrop (cMethO "list" 1 gAppend (cCons (cTup (cCons (cC (.str [119, 104, 111, 108, 101])) (cCons (cC .non) (cNil)))) (cNil)))) (cNext))) (cSeq (cIfS (cAndT (cCmpT gEq (cVar 4) (cC (.str [41]))) (cTru (cCallF (C "is_closed_pair") (takesN 1 (cAIo 1 (cANil)))))) (cSeq (cDrop (cMethO "list" 2 gAppend (cCons (cTup (cCons (cBin gIx (cBin gIx (cVar 1) (cUn gNeg (cC (.int 2)))) (cC (.int 1))) (cCons (cBin gIx (cBin gIx (cVar 1) (cUn gNeg (cC (.int 2)))) (cC (.int 0))) (cNil)))) (cNil)))) (cSeq (cAssign (tgSl 1 (cPart (some (cUn gNeg (cC (.int 4))))) (cPart none)) (cLst (cCons (cTup (cCons (cC (.str [119, 104, 111, 108, 101])) (cCons (cC .non) (cNil)))) (cNil)))) (cNext))) (cSeq (cIfS (cCmpT gIn (cVar 4) (cBin gAdd (cC (.str [33, 38, 124, 94])) (cC (.str [40])))) (cSeq (cDrop (cMethO "list" 1 gAppend (cCons (cTup (cCons (cVar 4) (cCons (cVar 3) (cNil)))) (cNil)))) (cNext)) (cSeq (cRet (cC .non)) (cNext))) (cNext))) (cNext))) (cSeq (cIfS (cCmpT gEq (cBin gIx (cBin gIx (cVar 1) (cUn gNeg (cC (.int 1)))) (cC (.int 0))) (cC (.str [119, 104, 111, 108, 101]))) (cSeq (cDrop (cCallF (C "close_turned") (takesN 2 (cAIo 1 (cAIo 2 (cANil)))))) (cNext)) (cNext)) (cNext)))) (cSeq (cRet (cIf (cCmpT gEq (cVar 1) (cLst (cCons (cTup (cCons (cC (.str [119, 104, 111, 108, 101])) (cCons (cC .non) (cNil)))) (cNil)))) (cVar 2) (cC .non))) (cNext))))
def d_steps_of : DF := ⟨"steps_of", ["value"], ["value", "waiting", "steps", "place", "sign"], [false], [], fun _ => false, top 14, cb_steps_of⟩
def cb_is_net_of (C : Str → M Op) : MS := cSeq (cAsg 2 (cCallF (C "steps_of") (takesN 1 (cAV (cVar 1) (cANil))))) (cSeq (cRet (cAnd (cCmp gIsNot (cVar 2) (cC .non)) (cCall gAll (cConsO (cLc [3, 4] (.many [3, 4]) (cItV (cVar 2)) (mOk true) (cCmp gNotIn (cVar 4) (cSl (cC (.str [48, 49, 50, 51])) (cPart (some (cVar 0))) (cPart none)))) (cNilO))))) (cNext))
def d_is_net_of : DF := ⟨"is_net_of", ["number", "value"], ["number", "value", "steps", "place", "sign"], [false, false], [], fun _ => false, top 15, cb_is_net_of⟩
def cb_is_any_net (C : Str → M Op) : MS := cSeq (cRet (cCallF (C "is_net_of") (takesN 2 (cAV (cC (.int 4)) (cAV (cVar 0) (cANil)))))) (cNext)
def d_is_any_net : DF := ⟨"is_any_net", ["value"], ["value"], [false], [], fun _ => false, top 16, cb_is_any_net⟩
def cb_sign_counts (C : Str → M Op) : MS := cSeq (cRet (cLc [1] (.one 1) (cItV (cC (.str [33, 38, 124, 94]))) (mOk true) (cMeth "str" gCountS (cVar 0) (cConsO (cVar 1) (cNilO))))) (cNext)
def d_sign_counts : DF := ⟨"sign_counts", ["net"], ["net", "gate"], [false], [], fun _ => false, top 17, cb_sign_counts⟩
def cb_net_depth_by (C : Str → M Op) : MS := cSeq (cAsg 1 (cLst (cNil))) (cSeq (cFor (.many [2, 3]) (cItV (cCallF (C "steps_of") (takesN 1 (cAV (cVar 0) (cANil))))) (cSeq (cIfS (cCmpT gIn (cVar 3) (cC (.str [48, 49, 50, 51]))) (cSeq (cDrop (cMethO "list" 1 gAppend (cCons (cC (.int 0)) (cNil)))) (cNext)) (cSeq (cIfS (cCmpT gEq (cVar 3) (cC (.str [33]))) (cSeq (cDrop (cMethO "list" 1 gAppend (cCons (cBin gAdd (cMethO "list" 1 gPop (cNil)) (cC (.int 1))) (cNil)))) (cNext)) (cSeq (cDrop (cMethO "list" 1 gAppend (cCons (cBin gAdd (cCall gMax2 (cConsO (cMethO "list" 1 gPop (cNil)) (cConsO (cMethO "list" 1 gPop (cNil)) (cNilO)))) (cC (.int 1))) (cNil)))) (cNext))) (cNext))) (cNext))) (cSeq (cRet (cBin gIx (cVar 1) (cC (.int 0)))) (cNext)))
def d_net_depth_by : DF := ⟨"net_depth_by", ["net"], ["net", "waiting", "place", "sign"], [false], [], fun _ => false, top 18, cb_net_depth_by⟩
def cb_check_any_net (C : Str → M Op) : MS := cSeq (cIfS (cNotT (cTru (cCallF (C "is_any_net") (takesN 1 (cAV (cVar 0) (cANil)))))) (cSeq (cBad) (cNext)) (cNext)) (cNext)
def d_check_any_net : DF := ⟨"check_any_net", ["net"], ["net"], [false], [], fun _ => false, top 20, cb_check_any_net⟩
def cb_gate_count (C : Str → M Op) : MS := cSeq (cDrop (cCallF (C "check_any_net") (takesN 1 (cAV (cVar 0) (cANil))))) (cSeq (cRet (cCall gSum (cConsO (cCallF (C "sign_counts") (takesN 1 (cAV (cVar 0) (cANil)))) (cNilO)))) (cNext))
def d_gate_count : DF := ⟨"gate_count", ["net"], ["net"], [false], [(["net"], 0, [0])], fun _ => false, top 21, cb_gate_count⟩
def cb_net_depth (C : Str → M Op) : MS := cSeq (cDrop (cCallF (C "check_any_net") (takesN 1 (cAV (cVar 0) (cANil))))) (cSeq (cRet (cCallF (C "net_depth_by") (takesN 1 (cAV (cVar 0) (cANil))))) (cNext))
def d_net_depth : DF := ⟨"net_depth", ["net"], ["net"], [false], [(["net"], 0, [0])], fun _ => false, top 22, cb_net_depth⟩
def cb_signs_of (C : Str → M Op) : MS := cSeq (cDrop (cCallF (C "check_any_net") (takesN 1 (cAV (cVar 0) (cANil))))) (cSeq (cRet (cCall (orG gTupC gTupT) (cConsO (cCallF (C "sign_counts") (takesN 1 (cAV (cVar 0) (cANil)))) (cNilO)))) (cNext))
def d_signs_of : DF := ⟨"signs_of", ["net"], ["net"], [false], [(["net"], 0, [0])], fun _ => false, top 23, cb_signs_of⟩
def cb_law_well (C : Str → M Op) : MS := cSeq (cAsg 2 (cIf (cCmpT gLt (cVar 1) (cCall gLen (cConsO (cVar 0) (cNilO)))) (cCall gIntC (cConsO (cBin gIx (cVar 0) (cVar 1)) (cNilO))) (cBin gAdd (cBin gAdd (cBin gMul (cC (.int 7919)) (cVar 1)) (cBin gMod (cCall gIntC (cConsO (cCall gSum (cConsO (cSl (cVar 0) (cPart none) (cPart (some (cC (.int 3))))) (cNilO))) (cNilO))) (cC (.int 1000003)))) (cC (.int 29))))) (cSeq (cAsg 3 (cBin gAdd (cC (.int 40127)) (cBin gMul (cC (.int 977)) (cVar 1)))) (cSeq (cFor (.one 4) (cItV (cBin gAdd (cSl (cVar 0) (cPart none) (cPart (some (cC (.int 6))))) (cLst (cCons (cVar 2) (cNil))))) (cSeq (cAsg 3 (cBin gMod (cCall gIntC (cConsO (cBin gAdd (cBin gAdd (cBin gMul (cVar 3) (cC (.int 48271))) (cBin gMod (cCall gIntC (cConsO (cVar 4) (cNilO))) (cC (.int 2147483399)))) (cC (.int 53))) (cNilO))) (cC (.int 2147483563)))) (cNext))) (cSeq (cRet (cLst (cCons (cIf (cOrT (cCmpT gLt (cVar 2) (cC (.int 0))) (cCmpT gGe (cVar 2) (cBin gPow (cC (.int 10)) (cC (.int 17))))) (cCall gAbs (cConsO (cVar 2) (cNilO))) (cC (.int 0))) (cCons (cVar 3) (cCons (cC (.int 0)) (cNil)))))) (cNext))))
def d_law_well : DF := ⟨"_law_well", ["script", "turn"], ["script", "turn", "own", "stir", "cell"], [false, false], [], fun _ => false, top 25, cb_law_well⟩
def cb_law_take (C : Str → M Op) : MS := cSeq (cIfS (cCmpT gGt (cBin gIx (cVar 0) (cC (.int 0))) (cC (.int 0))) (cSeq (cAssign (tgTup 2 (tgCons (tgIx 0 (cC (.int 0))) (tgCons (tgName 2) (tgNil)))) (cCall gDivmod (cConsO (cBin gIx (cVar 0) (cC (.int 0))) (cConsO (cVar 1) (cNilO))))) (cSeq (cRet (cVar 2)) (cNext))) (cNext)) (cSeq (cAssign (tgIx 0 (cC (.int 2))) (cBin gAdd (cBin gIx (cVar 0) (cC (.int 2))) (cC (.int 1)))) (cSeq (cAsg 3 (cBin gAdd (cBin gMod (cCall gIntC (cConsO (cBin gIx (cVar 0) (cC (.int 1))) (cNilO))) (cC (.int 28657))) (cC (.int 40009)))) (cSeq (cAssign (tgIx 0 (cC (.int 1))) (cBin gMod (cCall gIntC (cConsO (cBin gAdd (cBin gAdd (cBin gMul (cBin gIx (cVar 0) (cC (.int 1))) (cVar 3)) (cBin gMul (cC (.int 50023)) (cBin gIx (cVar 0) (cC (.int 2))))) (cC (.int 17))) (cNilO))) (cC (.int 2147483563)))) (cSeq (cRet (cBin gMod (cCall gIntC (cConsO (cBin gDiv (cBin gIx (cVar 0) (cC (.int 1))) (cC (.int 83))) (cNilO))) (cVar 1))) (cNext)))))
def d_law_take : DF := ⟨"_law_take", ["well", "many"], ["well", "many", "figure", "by"], [true, false], [], fun _ => false, top 26, cb_law_take⟩
def cb_law_pick (C : Str → M Op) : MS := cSeq (cRet (cBin gIx (cVar 1) (cCallF (C "_law_take") (takesN 2 (cAIo 0 (cAV (cCall gLen (cConsO (cVar 1) (cNilO))) (cANil))))))) (cNext)
def d_law_pick : DF := ⟨"_law_pick", ["well", "some"], ["well", "some"], [true, false], [], fun _ => false, top 27, cb_law_pick⟩
def cb_law_same (C : Str → M Op) : MS := cSeq (cIfS (cTru (cCall gIsi (cConsO (cVar 1) (cConsO (cC (.ty "tuple")) (cNilO))))) (cSeq (cRet (cAnd (cCall gIsi (cConsO (cVar 0) (cConsO (cC (.ty "tuple")) (cNilO)))) (cAnd (cCmp gEq (cCall gLen (cConsO (cVar 0) (cNilO))) (cCall gLen (cConsO (cVar 1) (cNilO)))) (cCall gAll (cConsO (cLc [2] (.one 2) (cRng rng1D (cCons (cCall gLen (cConsO (cVar 1) (cNilO))) (cNil))) (mOk true) (cCallF (C "_law_same") (takesN 2 (cAV (cBin gIx (cVar 0) (cVar 2)) (cAV (cBin gIx (cVar 1) (cVar 2)) (cANil)))))) (cNilO)))))) (cNext)) (cNext)) (cSeq (cIfS (cTru (cCall gIsi (cConsO (cVar 1) (cConsO (cC (.ty "list")) (cNilO))))) (cSeq (cRet (cAnd (cCall gIsi (cConsO (cVar 0) (cConsO (cC (.ty "list")) (cNilO)))) (cAnd (cCmp gEq (cCall gLen (cConsO (cVar 0) (cNilO))) (cCall gLen (cConsO (cVar 1) (cNilO)))) (cCall gAll (cConsO (cLc [2] (.one 2) (cRng rng1D (cCons (cCall gLen (cConsO (cVar 1) (cNilO))) (cNil))) (mOk true) (cCallF (C "_law_same") (takesN 2 (cAV (cBin gIx (cVar 0) (cVar 2)) (cAV (cBin gIx (cVar 1) (cVar 2)) (cANil)))))) (cNilO)))))) (cNext)) (cNext)) (cSeq (cIfS (cCmpT gIsC (cVar 1) (cC .non)) (cSeq (cRet (cCmp gIsC (cVar 0) (cC .non))) (cNext)) (cNext)) (cSeq (cIfS (cTru (cCall gIsi (cConsO (cVar 1) (cConsO (cC (.ty "bool")) (cNilO))))) (cSeq (cRet (cAnd (cCall gIsi (cConsO (cVar 0) (cConsO (cC (.ty "bool")) (cNilO)))) (cCmp gEq (cVar 0) (cVar 1)))) (cNext)) (cNext)) (cSeq (cIfS (cTru (cCall gIsi (cConsO (cVar 1) (cConsO (cC (.ty "int")) (cNilO))))) (cSeq (cRet (cAnd (cCall gIsi (cConsO (cVar 0) (cConsO (cC (.ty "int")) (cNilO)))) (cAnd (cNot (cCall gIsi (cConsO (cVar 0) (cConsO (cC (.ty "bool")) (cNilO))))) (cCmp gEq (cVar 0) (cVar 1))))) (cNext)) (cNext)) (cSeq (cIfS (cTru (cCall gIsi (cConsO (cVar 1) (cConsO (cC (.ty "str")) (cNilO))))) (cSeq (cRet (cAnd (cCall gIsi (cConsO (cVar 0) (cConsO (cC (.ty "str")) (cNilO)))) (cCmp gEq (cVar 0) (cVar 1)))) (cNext)) (cNext)) (cSeq (cRet (cCmp gEq (cVar 0) (cVar 1))) (cNext)))))))
def d_law_same : DF := ⟨"_law_same", ["told", "due"], ["told", "due", "k"], [false, false], [], fun _ => false, top 28, cb_law_same⟩
def cb_law_net (C : Str → M Op) : MS := cSeq (cAsg 4 (cCall (orG gStrC gStrS) (cConsO (cCallF (C "_law_take") (takesN 2 (cAIo 0 (cAV (cVar 1) (cANil))))) (cNilO)))) (cSeq (cFor (.one 5) (cRng rng1D (cCons (cCallF (C "_law_take") (takesN 2 (cAIo 0 (cAV (cC (.int 14)) (cANil))))) (cNil))) (cSeq (cAsg 7 (cLc [6] (.one 6) (cRng rng1D (cCons (cCall gLen (cConsO (cVar 4) (cNilO))) (cNil))) (cCmpT gIn (cBin gIx (cVar 4) (cVar 6)) (cC (.str [48, 49, 50, 51]))) (cVar 6))) (cSeq (cPar [6, 8] (cCons (cCallF (C "_law_pick") (takesN 2 (cAIo 0 (cAV (cVar 7) (cANil))))) (cCons (cCallF (C "_law_pick") (takesN 2 (cAIo 0 (cAV (cVar 3) (cANil))))) (cNil)))) (cSeq (cAsg 9 (cIf (cCmpT gEq (cVar 8) (cC (.str [33]))) (cBin gAdd (cC (.str [33])) (cBin gIx (cVar 4) (cVar 6))) (cBin gAdd (cBin gAdd (cBin gAdd (cBin gAdd (cC (.str [40])) (cBin gIx (cVar 4) (cVar 6))) (cVar 8)) (cCall (orG gStrC gStrS) (cConsO (cCallF (C "_law_take") (takesN 2 (cAIo 0 (cAV (cVar 1) (cANil))))) (cNilO)))) (cC (.str [41]))))) (cSeq (cIfS (cAndT (cCmpT gLe (cBin gSub (cBin gAdd (cCall gLen (cConsO (cVar 4) (cNilO))) (cCall gLen (cConsO (cVar 9) (cNilO)))) (cC (.int 1))) (cVar 2)) (cNotT (cAndT (cCmpT gGt (cVar 6) (cC (.int 0))) (cAndT (cCmpT gEq (cBin gIx (cVar 4) (cBin gSub (cVar 6) (cC (.int 1)))) (cC (.str [33]))) (cCmpT gNotIn (cC (.str [94])) (cVar 3)))))) (cSeq (cAsg 4 (cBin gAdd (cBin gAdd (cSl (cVar 4) (cPart none) (cPart (some (cVar 6)))) (cVar 9)) (cSl (cVar 4) (cPart (some (cBin gAdd (cVar 6) (cC (.int 1))))) (cPart none)))) (cNext)) (cNext)) (cNext)))))) (cSeq (cRet (cVar 4)) (cNext)))
def d_law_net : DF := ⟨"_law_net", ["well", "many", "most", "signs"], ["well", "many", "most", "signs", "net", "turn", "k", "places", "sign", "part"], [true, false, false, false], [], fun _ => false, top 32, cb_law_net⟩
def cb_law_depth (C : Str → M Op) : MS := cSeq (cAsg 1 (cLst (cNil))) (cSeq (cFor (.one 2) (cItV (cVar 0)) (cSeq (cIfS (cCmpT gIn (cVar 2) (cC (.str [40, 33, 38, 124, 94]))) (cSeq (cDrop (cMethO "list" 1 gAppend (cCons (cTup (cCons (cVar 2) (cCons (cC (.int 0)) (cNil)))) (cNil)))) (cNext)) (cSeq (cAsg 3 (cC (.int 0))) (cSeq (cIfS (cCmpT gEq (cVar 2) (cC (.str [41]))) (cSeq (cPar [4, 5, 6] (cCons (cMethO "list" 1 gPop (cNil)) (cCons (cMethO "list" 1 gPop (cNil)) (cCons (cMethO "list" 1 gPop (cNil)) (cNil))))) (cSeq (cDrop (cMethO "list" 1 gPop (cNil))) (cSeq (cAsg 3 (cBin gAdd (cC (.int 1)) (cCall gMax2 (cConsO (cBin gIx (cVar 6) (cC (.int 1))) (cConsO (cBin gIx (cVar 4) (cC (.int 1))) (cNilO)))))) (cNext)))) (cNext)) (cSeq (cWhile 80 (cAndT (cCmpT gGt (cCall gLen (cConsO (cVar 1) (cNilO))) (cC (.int 0))) (cCmpT gEq (cBin gIx (cBin gIx (cVar 1) (cBin gSub (cCall gLen (cConsO (cVar 1) (cNilO))) (cC (.int 1)))) (cC (.int 0))) (cC (.str [33])))) (cSeq (cDrop (cMethO "list" 1 gPop (cNil))) (cSeq (cAsg 3 (cBin gAdd (cVar 3) (cC (.int 1)))) (cNext)))) (cSeq (cDrop (cMethO "list" 1 gAppend (cCons (cTup (cCons (cC (.str [])) (cCons (cVar 3) (cNil)))) (cNil)))) (cNext)))))) (cNext))) (cSeq (cRet (cBin gIx (cBin gIx (cVar 1) (cC (.int 0))) (cC (.int 1)))) (cNext)))
def d_law_depth : DF := ⟨"_law_depth", ["net"], ["net", "line", "sign", "value", "two", "gate", "one"], [false], [], fun _ => false, top 34, cb_law_depth⟩
def cb_law_asked (C : Str → M Op) : MS := cSeq (cAsg 1 (cCall (orG gTupC gTupT) (cConsO (cLc [2] (.one 2) (cItV (cC (.str [33, 38, 124, 94]))) (mOk true) (cMeth "str" gCountS (cVar 0) (cConsO (cVar 2) (cNilO)))) (cNilO)))) (cSeq (cIfS (cOrT (cNotT (cTru (cCallF (C "_law_same") (takesN 2 (cAV (cCallF (C "signs_of") (takesN 1 (cAV (cVar 0) (cANil)))) (cAV (cVar 1) (cANil))))))) (cNotT (cTru (cCallF (C "_law_same") (takesN 2 (cAV (cCallF (C "signs_of") (takesN 1 (cKw [0] 0 1 (cANil) (cAV (cVar 0) (cANil))))) (cAV (cVar 1) (cANil)))))))) (cSeq (cRet (cC (.bl false))) (cNext)) (cNext)) (cSeq (cIfS (cOrT (cNotT (cTru (cCallF (C "_law_same") (takesN 2 (cAV (cCallF (C "gate_count") (takesN 1 (cAV (cVar 0) (cANil)))) (cAV (cCall gSum (cConsO (cVar 1) (cNilO))) (cANil))))))) (cNotT (cTru (cCallF (C "_law_same") (takesN 2 (cAV (cCallF (C "gate_count") (takesN 1 (cKw [0] 0 1 (cANil) (cAV (cVar 0) (cANil))))) (cAV (cCall gSum (cConsO (cVar 1) (cNilO))) (cANil)))))))) (cSeq (cRet (cC (.bl false))) (cNext)) (cNext)) (cSeq (cIfS (cOrT (cNotT (cTru (cCallF (C "_law_same") (takesN 2 (cAV (cCallF (C "net_depth") (takesN 1 (cAV (cVar 0) (cANil)))) (cAV (cCallF (C "_law_depth") (takesN 1 (cAV (cVar 0) (cANil)))) (cANil))))))) (cNotT (cTru (cCallF (C "_law_same") (takesN 2 (cAV (cCallF (C "net_depth") (takesN 1 (cKw [0] 0 1 (cANil) (cAV (cVar 0) (cANil))))) (cAV (cCallF (C "_law_depth") (takesN 1 (cAV (cVar 0) (cANil)))) (cANil)))))))) (cSeq (cRet (cC (.bl false))) (cNext)) (cNext)) (cSeq (cIfS (cOrT (cCmpT gNe (cMeth "str" gCountS (cVar 0) (cConsO (cC (.str [40])) (cNilO))) (cCall gSum (cConsO (cSl (cVar 1) (cPart (some (cC (.int 1)))) (cPart none)) (cNilO)))) (cCmpT gNe (cCall gLen (cConsO (cLc [2] (.one 2) (cItV (cVar 0)) (cCmpT gIn (cVar 2) (cC (.str [48, 49, 50, 51]))) (cVar 2)) (cNilO))) (cBin gAdd (cCall gSum (cConsO (cSl (cVar 1) (cPart (some (cC (.int 1)))) (cPart none)) (cNilO))) (cC (.int 1))))) (cSeq (cRet (cC (.bl false))) (cNext)) (cNext)) (cSeq (cRet (cOr (cCmp gGt (cCall gLen (cConsO (cVar 0) (cNilO))) (cC (.int 59))) (cAnd (cCmp gEq (cCallF (C "net_depth") (takesN 1 (cAV (cBin gAdd (cC (.str [33])) (cVar 0)) (cANil)))) (cBin gAdd (cCallF (C "net_depth") (takesN 1 (cAV (cVar 0) (cANil)))) (cC (.int 1)))) (cCmp gEq (cCallF (C "gate_count") (takesN 1 (cAV (cBin gAdd (cC (.str [33])) (cVar 0)) (cANil)))) (cBin gAdd (cCallF (C "gate_count") (takesN 1 (cAV (cVar 0) (cANil)))) (cC (.int 1))))))) (cNext))))))
def d_law_asked : DF := ⟨"_law_asked", ["net"], ["net", "due", "sign"], [false], [], fun _ => false, top 35, cb_law_asked⟩
def cb_law_turn (C : Str → M Op) : MS := cSeq (cAsg 1 (cCallF (C "_law_net") (takesN 4 (cAIo 0 (cAV (cBin gAdd (cC (.int 1)) (cCallF (C "_law_take") (takesN 2 (cAIo 0 (cAV (cC (.int 4)) (cANil)))))) (cAV (cC (.int 60)) (cAV (cCallF (C "_law_pick") (takesN 2 (cAIo 0 (cAV (cLst (cCons (cC (.str [33, 38, 124, 94])) (cCons (cC (.str [38, 124])) (cCons (cC (.str [33, 94])) (cCons (cC (.str [33])) (cNil)))))) (cANil))))) (cANil)))))))) (cSeq (cAsg 2 (cCallF (C "_law_net") (takesN 4 (cAIo 0 (cAV (cBin gAdd (cC (.int 1)) (cCallF (C "_law_take") (takesN 2 (cAIo 0 (cAV (cC (.int 4)) (cANil)))))) (cAV (cC (.int 20)) (cAV (cC (.str [33, 38, 124, 94])) (cANil)))))))) (cSeq (cIfS (cOrT (cNotT (cTru (cCallF (C "_law_asked") (takesN 1 (cAV (cVar 1) (cANil)))))) (cNotT (cTru (cCallF (C "_law_asked") (takesN 1 (cAV (cVar 2) (cANil))))))) (cSeq (cRet (cC (.bl false))) (cNext)) (cNext)) (cSeq (cIfS (cCmpT gGt (cBin gAdd (cCall gLen (cConsO (cVar 1) (cNilO))) (cCall gLen (cConsO (cVar 2) (cNilO)))) (cC (.int 57))) (cSeq (cRet (cC (.bl true))) (cNext)) (cNext)) (cSeq (cAsg 3 (cCallF (C "_law_pick") (takesN 2 (cAIo 0 (cAV (cC (.str [38, 124, 94])) (cANil)))))) (cSeq (cAsg 4 (cBin gAdd (cBin gAdd (cBin gAdd (cBin gAdd (cC (.str [40])) (cVar 1)) (cVar 3)) (cVar 2)) (cC (.str [41])))) (cSeq (cRet (cAnd (cCallF (C "_law_asked") (takesN 1 (cAV (cVar 4) (cANil)))) (cAnd (cCmp gEq (cCallF (C "net_depth") (takesN 1 (cAV (cVar 4) (cANil)))) (cBin gAdd (cC (.int 1)) (cCall gMax2 (cConsO (cCallF (C "net_depth") (takesN 1 (cAV (cVar 1) (cANil)))) (cConsO (cCallF (C "net_depth") (takesN 1 (cAV (cVar 2) (cANil)))) (cNilO)))))) (cCmp gEq (cCallF (C "gate_count") (takesN 1 (cAV (cVar 4) (cANil)))) (cBin gAdd (cBin gAdd (cCallF (C "gate_count") (takesN 1 (cAV (cVar 1) (cANil)))) (cCallF (C "gate_count") (takesN 1 (cAV (cVar 2) (cANil))))) (cC (.int 1))))))) (cNext)))))))
def d_law_turn : DF := ⟨"_law_turn", ["well"], ["well", "one", "two", "gate", "both"], [true], [], fun _ => false, top 36, cb_law_turn⟩
def cb_law (C : Str → M Op) : MS := cSeq (cFor (.one 1) (cRng rng1D (cCons (cCall gMax2 (cConsO (cC (.int 6)) (cConsO (cCall gMin2 (cConsO (cCall gLen (cConsO (cVar 0) (cNilO))) (cConsO (cC (.int 10)) (cNilO)))) (cNilO)))) (cNil))) (cSeq (cIfS (cNotT (cTru (cCallH (C "_law_turn") 1 (cCallF (C "_law_well") (takesN 2 (cAV (cVar 0) (cAV (cVar 1) (cANil))))) (cANil)))) (cSeq (cRet (cC (.bl false))) (cNext)) (cNext)) (cNext))) (cSeq (cRet (cCall gAll (cConsO (cLc [2] (.one 2) (cItV (cLst (cCons (cC (.str [48])) (cCons (cC (.str [51])) (cCons (cBin gAdd (cBin gMul (cC (.str [33])) (cC (.int 59))) (cC (.str [49]))) (cCons (cBin gAdd (cBin gAdd (cBin gMul (cC (.str [40])) (cC (.int 14))) (cC (.str [48]))) (cBin gMul (cC (.str [38, 49, 41])) (cC (.int 14)))) (cNil))))))) (mOk true) (cCallF (C "_law_asked") (takesN 1 (cAV (cVar 2) (cANil))))) (cNilO)))) (cNext))
def d_law : DF := ⟨"law", ["script"], ["script", "turn", "text"], [false], [], fun _ => false, top 37, cb_law⟩
def tab : List DF := [d_close_turned, d_is_closed_pair, d_steps_of, d_is_net_of, d_is_any_net, d_sign_counts, d_net_depth_by, d_check_any_net, d_gate_count, d_net_depth, d_signs_of, d_law_well, d_law_take, d_law_pick, d_law_same, d_law_net, d_law_depth, d_law_asked, d_law_turn, d_law]
def lw : Lw := ⟨["len", "isinstance", "int", "str", "abs", "max", "min", "divmod", "sum", "all", "list", "tuple", "range", "enumerate", "bool"], [("MOST_SWITCHES", .int 4), ("FIGURES", .str [48, 49, 50, 51]), ("NOT", .str [33]), ("GATES", .str [33, 38, 124, 94]), ("OPENS", .str [40]), ("CLOSES", .str [41]), ("LONGEST", .int 60), ("WHOLE", .str [119, 104, 111, 108, 101])], 80, [], "LampError"⟩
theorem xc_plain : ∀ p ∈ lw.xc, p.plain := fun p hp => nomatch hp
theorem ok_close_turned : DOk lw tab d_close_turned := by
  refine ⟨⟨rfl, rfl, rfl, by decide +kernel, rfl, by decide +kernel, by decide +kernel⟩, ?_, ?_, fun C => ?_⟩
  · exact fun _ _ _ _ _ _ us hl => match us, hl with | [_, _], _ => rfl
  · exact fun p hp => nomatch hp
  · kernel_rfl
theorem ok_is_closed_pair : DOk lw tab d_is_closed_pair := by
  refine ⟨⟨rfl, rfl, rfl, by decide +kernel, rfl, by decide +kernel, by decide +kernel⟩, ?_, ?_, fun C => ?_⟩
  · exact fun _ _ _ _ _ _ us hl => match us, hl with | [_], _ => rfl
  · exact fun p hp => nomatch hp
  · kernel_rfl
theorem ok_steps_of : DOk lw tab d_steps_of := by
  refine ⟨⟨rfl, rfl, rfl, by decide +kernel, rfl, by decide +kernel, by decide +kernel⟩, ?_, ?_, fun C => ?_⟩
  · exact fun _ _ _ _ _ _ us hl => match us, hl with | [_], _ => rfl
  · exact fun p hp => nomatch hp
  · kernel_rfl
theorem ok_is_net_of : DOk lw tab d_is_net_of := by
  refine ⟨⟨rfl, rfl, rfl, by decide +kernel, rfl, by decide +kernel, by decide +kernel⟩, ?_, ?_, fun C => ?_⟩
  · exact fun _ _ _ _ _ _ us hl => match us, hl with | [_, _], _ => rfl
  · exact fun p hp => nomatch hp
  · kernel_rfl
theorem ok_is_any_net : DOk lw tab d_is_any_net := by
  refine ⟨⟨rfl, rfl, rfl, by decide +kernel, rfl, by decide +kernel, by decide +kernel⟩, ?_, ?_, fun C => ?_⟩
  · exact fun _ _ _ _ _ _ us hl => match us, hl with | [_], _ => rfl
  · exact fun p hp => nomatch hp
  · kernel_rfl
theorem ok_sign_counts : DOk lw tab d_sign_counts := by
  refine ⟨⟨rfl, rfl, rfl, by decide +kernel, rfl, by decide +kernel, by decide +kernel⟩, ?_, ?_, fun C => ?_⟩
  · exact fun _ _ _ _ _ _ us hl => match us, hl with | [_], _ => rfl
  · exact fun p hp => nomatch hp
  · kernel_rfl
theorem ok_net_depth_by : DOk lw tab d_net_depth_by := by
  refine ⟨⟨rfl, rfl, rfl, by decide +kernel, rfl, by decide +kernel, by decide +kernel⟩, ?_, ?_, fun C => ?_⟩
  · exact fun _ _ _ _ _ _ us hl => match us, hl with | [_], _ => rfl
  · exact fun p hp => nomatch hp
  · kernel_rfl
theorem ok_check_any_net : DOk lw tab d_check_any_net := by
  refine ⟨⟨rfl, rfl, rfl, by decide +kernel, rfl, by decide +kernel, by decide +kernel⟩, ?_, ?_, fun C => ?_⟩
  · exact fun _ _ _ _ _ _ us hl => match us, hl with | [_], _ => rfl
  · exact fun p hp => nomatch hp
  · kernel_rfl
theorem ok_gate_count : DOk lw tab d_gate_count := by
  refine ⟨⟨rfl, rfl, rfl, by decide +kernel, rfl, by decide +kernel, by decide +kernel⟩, ?_, ?_, fun C => ?_⟩
  · exact fun _ _ _ _ _ _ us hl => match us, hl with | [_], _ => rfl
  · exact List.forall_mem_cons.mpr ⟨⟨by decide, fun _ _ _ _ _ _ us ws hl hm => match us, ws, hl, hm with | [], [_], _, _ => rfl⟩, fun p hp => nomatch hp⟩
  · kernel_rfl
theorem ok_net_depth : DOk lw tab d_net_depth := by
  refine ⟨⟨rfl, rfl, rfl, by decide +kernel, rfl, by decide +kernel, by decide +kernel⟩, ?_, ?_, fun C => ?_⟩
  · exact fun _ _ _ _ _ _ us hl => match us, hl with | [_], _ => rfl
  · exact List.forall_mem_cons.mpr ⟨⟨by decide, fun _ _ _ _ _ _ us ws hl hm => match us, ws, hl, hm with | [], [_], _, _ => rfl⟩, fun p hp => nomatch hp⟩
  · kernel_rfl
theorem ok_signs_of : DOk lw tab d_signs_of := by
  refine ⟨⟨rfl, rfl, rfl, by decide +kernel, rfl, by decide +kernel, by decide +kernel⟩, ?_, ?_, fun C => ?_⟩
  · exact fun _ _ _ _ _ _ us hl => match us, hl with | [_], _ => rfl
  · exact List.forall_mem_cons.mpr ⟨⟨by decide, fun _ _ _ _ _ _ us ws hl hm => match us, ws, hl, hm with | [], [_], _, _ => rfl⟩, fun p hp => nomatch hp⟩
  · kernel_rfl
theorem ok_law_well : DOk lw tab d_law_well := by
  refine ⟨⟨rfl, rfl, rfl, by decide +kernel, rfl, by decide +kernel, by decide +kernel⟩, ?_, ?_, fun C => ?_⟩
  · exact fun _ _ _ _ _ _ us hl => match us, hl with | [_, _], _ => rfl
  · exact fun p hp => nomatch hp
  · kernel_rfl
theorem ok_law_take : DOk lw tab d_law_take := by
  refine ⟨⟨rfl, rfl, rfl, by decide +kernel, rfl, by decide +kernel, by decide +kernel⟩, ?_, ?_, fun C => ?_⟩
  · exact fun _ _ _ _ _ _ us hl => match us, hl with | [_, _], _ => rfl
  · exact fun p hp => nomatch hp
  · kernel_rfl
theorem ok_law_pick : DOk lw tab d_law_pick := by
  refine ⟨⟨rfl, rfl, rfl, by decide +kernel, rfl, by decide +kernel, by decide +kernel⟩, ?_, ?_, fun C => ?_⟩
  · exact fun _ _ _ _ _ _ us hl => match us, hl with | [_, _], _ => rfl
  · exact fun p hp => nomatch hp
  · kernel_rfl
theorem ok_law_same : DOk lw tab d_law_same := by
  refine ⟨⟨rfl, rfl, rfl, by decide +kernel, rfl, by decide +kernel, by decide +kernel⟩, ?_, ?_, fun C => ?_⟩
  · exact fun _ _ _ _ _ _ us hl => match us, hl with | [_, _], _ => rfl
  · exact fun p hp => nomatch hp
  · kernel_rfl
theorem ok_law_net : DOk lw tab d_law_net := by
  refine ⟨⟨rfl, rfl, rfl, by decide +kernel, rfl, by decide +kernel, by decide +kernel⟩, ?_, ?_, fun C => ?_⟩
  · exact fun _ _ _ _ _ _ us hl => match us, hl with | [_, _, _, _], _ => rfl
  · exact fun p hp => nomatch hp
  · kernel_rfl
theorem ok_law_depth : DOk lw tab d_law_depth := by
  refine ⟨⟨rfl, rfl, rfl, by decide +kernel, rfl, by decide +kernel, by decide +kernel⟩, ?_, ?_, fun C => ?_⟩
  · exact fun _ _ _ _ _ _ us hl => match us, hl with | [_], _ => rfl
  · exact fun p hp => nomatch hp
  · kernel_rfl
theorem ok_law_asked : DOk lw tab d_law_asked := by
  refine ⟨⟨rfl, rfl, rfl, by decide +kernel, rfl, by decide +kernel, by decide +kernel⟩, ?_, ?_, fun C => ?_⟩
  · exact fun _ _ _ _ _ _ us hl => match us, hl with | [_], _ => rfl
  · exact fun p hp => nomatch hp
  · kernel_rfl
theorem ok_law_turn : DOk lw tab d_law_turn := by
  refine ⟨⟨rfl, rfl, rfl, by decide +kernel, rfl, by decide +kernel, by decide +kernel⟩, ?_, ?_, fun C => ?_⟩
  · exact fun _ _ _ _ _ _ us hl => match us, hl with | [_], _ => rfl
  · exact fun p hp => nomatch hp
  · kernel_rfl
theorem ok_law : DOk lw tab d_law := by
  refine ⟨⟨rfl, rfl, rfl, by decide +kernel, rfl, by decide +kernel, by decide +kernel⟩, ?_, ?_, fun C => ?_⟩
  · exact fun _ _ _ _ _ _ us hl => match us, hl with | [_], _ => rfl
  · exact fun p hp => nomatch hp
  · kernel_rfl
theorem ok_all : ∀ d ∈ tab, DOk lw tab d := List.forall_mem_cons.mpr ⟨ok_close_turned, List.forall_mem_cons.mpr ⟨ok_is_closed_pair, List.forall_mem_cons.mpr ⟨ok_steps_of, List.forall_mem_cons.mpr ⟨ok_is_net_of, List.forall_mem_cons.mpr ⟨ok_is_any_net, List.forall_mem_cons.mpr ⟨ok_sign_counts, List.forall_mem_cons.mpr ⟨ok_net_depth_by, List.forall_mem_cons.mpr ⟨ok_check_any_net, List.forall_mem_cons.mpr ⟨ok_gate_count, List.forall_mem_cons.mpr ⟨ok_net_depth, List.forall_mem_cons.mpr ⟨ok_signs_of, List.forall_mem_cons.mpr ⟨ok_law_well, List.forall_mem_cons.mpr ⟨ok_law_take, List.forall_mem_cons.mpr ⟨ok_law_pick, List.forall_mem_cons.mpr ⟨ok_law_same, List.forall_mem_cons.mpr ⟨ok_law_net, List.forall_mem_cons.mpr ⟨ok_law_depth, List.forall_mem_cons.mpr ⟨ok_law_asked, List.forall_mem_cons.mpr ⟨ok_law_turn, List.forall_mem_cons.mpr ⟨ok_law, fun p hp => nomatch hp⟩⟩⟩⟩⟩⟩⟩⟩⟩⟩⟩⟩⟩⟩⟩⟩⟩⟩⟩⟩
theorem call_close_turned (n : Nat) : callN tab (n + 1) "close_turned" = runF 2 (cb_close_turned (callN tab n)) := by kernel_rfl
theorem call_is_closed_pair (n : Nat) : callN tab (n + 1) "is_closed_pair" = runF 4 (cb_is_closed_pair (callN tab n)) := by kernel_rfl
theorem call_steps_of (n : Nat) : callN tab (n + 1) "steps_of" = runF 5 (cb_steps_of (callN tab n)) := by kernel_rfl
theorem call_is_net_of (n : Nat) : callN tab (n + 1) "is_net_of" = runF 5 (cb_is_net_of (callN tab n)) := by kernel_rfl
theorem call_is_any_net (n : Nat) : callN tab (n + 1) "is_any_net" = runF 1 (cb_is_any_net (callN tab n)) := by kernel_rfl
theorem call_sign_counts (n : Nat) : callN tab (n + 1) "sign_counts" = runF 2 (cb_sign_counts (callN tab n)) := by kernel_rfl
theorem call_net_depth_by (n : Nat) : callN tab (n + 1) "net_depth_by" = runF 4 (cb_net_depth_by (callN tab n)) := by kernel_rfl
theorem call_check_any_net (n : Nat) : callN tab (n + 1) "check_any_net" = runF 1 (cb_check_any_net (callN tab n)) := by kernel_rfl
theorem call_gate_count (n : Nat) : callN tab (n + 1) "gate_count" = runF 1 (cb_gate_count (callN tab n)) := by kernel_rfl
theorem call_net_depth (n : Nat) : callN tab (n + 1) "net_depth" = runF 1 (cb_net_depth (callN tab n)) := by kernel_rfl
theorem call_signs_of (n : Nat) : callN tab (n + 1) "signs_of" = runF 1 (cb_signs_of (callN tab n)) := by kernel_rfl
theorem call_law_well (n : Nat) : callN tab (n + 1) "_law_well" = runF 5 (cb_law_well (callN tab n)) := by kernel_rfl
theorem call_law_take (n : Nat) : callN tab (n + 1) "_law_take" = runF 4 (cb_law_take (callN tab n)) := by kernel_rfl
theorem call_law_pick (n : Nat) : callN tab (n + 1) "_law_pick" = runF 2 (cb_law_pick (callN tab n)) := by kernel_rfl
theorem call_law_same (n : Nat) : callN tab (n + 1) "_law_same" = runF 3 (cb_law_same (callN tab n)) := by kernel_rfl
theorem call_law_net (n : Nat) : callN tab (n + 1) "_law_net" = runF 10 (cb_law_net (callN tab n)) := by kernel_rfl
theorem call_law_depth (n : Nat) : callN tab (n + 1) "_law_depth" = runF 7 (cb_law_depth (callN tab n)) := by kernel_rfl
theorem call_law_asked (n : Nat) : callN tab (n + 1) "_law_asked" = runF 3 (cb_law_asked (callN tab n)) := by kernel_rfl
theorem call_law_turn (n : Nat) : callN tab (n + 1) "_law_turn" = runF 5 (cb_law_turn (callN tab n)) := by kernel_rfl
theorem call_law (n : Nat) : callN tab (n + 1) "law" = runF 3 (cb_law (callN tab n)) := by kernel_rfl
end La
set_option Elab.async false
set_option linter.all false
set_option autoImplicit false
set_option maxRecDepth 100000
set_option maxHeartbeats 4000000
namespace Ev
open PySem PySem.Spec L2
open PyProof.Rows hiding St
def W3 (d : D) : Prop := ∃ a b c : Int, d = .lst [.int a, .int b, .int c]
theorem div_ok {i m : Int} (h0 : 0 < m) (h1 : m < 1073741824) : divOk i m = true := by
  unfold divOk; simp [h0, h1]
theorem mul_r {i m : Int} (h : m.natAbs < 18446744073709551616) : mulOk i m = true := by
  unfold mulOk Ev.small64; simp [h]
theorem mul_l {i m : Int} (h : i.natAbs < 18446744073709551616) : mulOk i m = true := by
  unfold mulOk Ev.small64; simp [h]
theorem compL_map {vs : List Nat} {i : Nat} {ft : M Bool} {fe : M Op} {δ0 : EnvS} {g : D → D} : ∀ (ds acc : List D), (∀ d ∈ ds, ∃ δ1 δ2 δ3 o, ft (δ0.set i (.val d)) = .ok true δ1 ∧ fe δ1 = .ok o δ2 ∧ Ev.esc o δ2 = .ok (g d) δ3 ∧ wipeE δ3 vs = δ0) → acc.length + ds.length ≤ 16777216 →
    compL vs (.one i) ft fe ds acc δ0 = .ok (acc ++ ds.map g) δ0
  | [], acc, _, _ => by simp [compL]
  | d :: ds, acc, h, hl => by
    obtain ⟨δ1, δ2, δ3, o, h1, h2, h3, h4⟩ := h d (by simp)
    have hl' : acc.length + 1 ≤ 16777216 := by simp at hl; omega
    have ih := compL_map ds (acc ++ [g d]) (fun z hz => h z (by simp [hz])) (by simp at hl ⊢; omega)
    unfold compL
    simp only [tgF, M.bind, h1, h2, h3, if_true, h4, ih]
    simp [fits, hl']
theorem bls_map {α : Type} (xs : List α) (f : α → Bool) : blsD (xs.map fun x => .bl (f x)) = some (xs.map f) := by
  induction xs with
  | nil => rfl
  | cons x xs ih => simp [blsD, ih]
theorem strs_map {α : Type} (xs : List α) (f : α → List Nat) : strsD (xs.map fun x => .str (f x)) = some (xs.map f) := by
  induction xs with
  | nil => rfl
  | cons x xs ih => simp [strsD, ih]
theorem cLc_eq {vs : List Nat} {T : Tgt} {fi : M (List D)} {ft : M Bool} {fe : M Op} {ds acc : List D} {δ δ1 δ' : EnvS} (h1 : fi δ = .ok ds δ1) (h2 : compL vs T ft fe ds [] (wipeE δ1 vs) = .ok acc δ') : cLc vs T fi ft fe δ = .ok (.fresh (.lst acc)) (restoreE δ1 δ' vs) := by
  unfold cLc M.bind
  rw [h1]
  dsimp only
  rw [h2]
def V01 (s : List Nat) : Prop := ∀ c ∈ s, c = 48 ∨ c = 49
theorem joinL_one {α : Type} (f : α → Nat) : ∀ s : List α, TL.joinL [] (s.map fun c => [f c]) = s.map f
  | [] => rfl
  | [c] => rfl
  | c :: d :: s => by
    have ih := joinL_one f (d :: s)
    simp only [List.map_cons] at ih ⊢
    unfold TL.joinL
    rw [ih]
    rfl
theorem sum_ones {α : Type} (f : α → List Nat) (h : ∀ a, (f a).length = 1) : ∀ s : List α, ((s.map f).map List.length).sum = s.length
  | [] => rfl
  | a :: s => by simp only [List.map_cons, List.sum_cons, sum_ones f h s, h]; simp; omega
theorem join_map {α : Type} (f : α → Nat) (s : List α) (hl : s.length ≤ 16) : gJoin (.str []) [.lst (s.map fun c => .str [f c])] = some (.val (.str (s.map f))) := by
  unfold gJoin
  have h1 := strs_map s (fun c => [f c])
  have h2 := sum_ones (fun c => [f c]) (fun _ => rfl) s
  have h3 : fits s.length = true := by unfold fits; simp; omega
  simp only [seqD, h1, Option.bind_some, h2, List.length_nil, Nat.mul_zero, Nat.add_zero, h3, if_true, joinL_one]
def Sc (d : D) : Prop := (∃ s, d = .str s) ∨ ∃ i, d = .int i
theorem rng_2 : rng 0 2 = [.int 0, .int 1] := rfl
theorem rng_3 : rng 0 3 = [.int 0, .int 1, .int 2] := rfl
theorem rng_4 : rng 0 4 = [.int 0, .int 1, .int 2, .int 3] := rfl
theorem cons_of {n : Nat} {s : List Nat} (h : s.length = n + 1) : ∃ a r, s = a :: r ∧ r.length = n := by
  cases s with
  | nil => simp at h
  | cons a r => exact ⟨a, r, rfl, by simpa using h⟩
theorem str_0 : orG gStrC gStrS [.int 0] = some (.val (.str [48])) := by kernel_rfl
theorem str_1 : orG gStrC gStrS [.int 1] = some (.val (.str [49])) := by kernel_rfl
theorem len_2 {s : List Nat} (h0 : s.length = 2) : ∃ t0 t1, s = [t0, t1] := by
  obtain ⟨t0, r0, q0, h1⟩ := cons_of (n := 1) h0
  obtain ⟨t1, r1, q1, h2⟩ := cons_of (n := 0) h1
  have z := List.length_eq_zero_iff.mp h2
  exact ⟨t0, t1, by rw [q0, q1, z]⟩
theorem len_4 {s : List Nat} (h0 : s.length = 4) : ∃ t0 t1 t2 t3, s = [t0, t1, t2, t3] := by
  obtain ⟨t0, r0, q0, h1⟩ := cons_of (n := 3) h0
  obtain ⟨t1, r1, q1, h2⟩ := cons_of (n := 2) h1
  obtain ⟨t2, r2, q2, h3⟩ := cons_of (n := 1) h2
  obtain ⟨t3, r3, q3, h4⟩ := cons_of (n := 0) h3
  have z := List.length_eq_zero_iff.mp h4
  exact ⟨t0, t1, t2, t3, by rw [q0, q1, q2, q3, z]⟩
theorem len_8 {s : List Nat} (h0 : s.length = 8) : ∃ t0 t1 t2 t3 t4 t5 t6 t7, s = [t0, t1, t2, t3, t4, t5, t6, t7] := by
  obtain ⟨t0, r0, q0, h1⟩ := cons_of (n := 7) h0
  obtain ⟨t1, r1, q1, h2⟩ := cons_of (n := 6) h1
  obtain ⟨t2, r2, q2, h3⟩ := cons_of (n := 5) h2
  obtain ⟨t3, r3, q3, h4⟩ := cons_of (n := 4) h3
  obtain ⟨t4, r4, q4, h5⟩ := cons_of (n := 3) h4
  obtain ⟨t5, r5, q5, h6⟩ := cons_of (n := 2) h5
  obtain ⟨t6, r6, q6, h7⟩ := cons_of (n := 1) h6
  obtain ⟨t7, r7, q7, h8⟩ := cons_of (n := 0) h7
  have z := List.length_eq_zero_iff.mp h8
  exact ⟨t0, t1, t2, t3, t4, t5, t6, t7, by rw [q0, q1, q2, q3, q4, q5, q6, q7, z]⟩
theorem len_16 {s : List Nat} (h0 : s.length = 16) : ∃ t0 t1 t2 t3 t4 t5 t6 t7 t8 t9 t10 t11 t12 t13 t14 t15, s = [t0, t1, t2, t3, t4, t5, t6, t7, t8, t9, t10, t11, t12, t13, t14, t15] := by
  obtain ⟨t0, r0, q0, h1⟩ := cons_of (n := 15) h0
  obtain ⟨t1, r1, q1, h2⟩ := cons_of (n := 14) h1
  obtain ⟨t2, r2, q2, h3⟩ := cons_of (n := 13) h2
  obtain ⟨t3, r3, q3, h4⟩ := cons_of (n := 12) h3
  obtain ⟨t4, r4, q4, h5⟩ := cons_of (n := 11) h4
  obtain ⟨t5, r5, q5, h6⟩ := cons_of (n := 10) h5
  obtain ⟨t6, r6, q6, h7⟩ := cons_of (n := 9) h6
  obtain ⟨t7, r7, q7, h8⟩ := cons_of (n := 8) h7
  obtain ⟨t8, r8, q8, h9⟩ := cons_of (n := 7) h8
  obtain ⟨t9, r9, q9, h10⟩ := cons_of (n := 6) h9
  obtain ⟨t10, r10, q10, h11⟩ := cons_of (n := 5) h10
  obtain ⟨t11, r11, q11, h12⟩ := cons_of (n := 4) h11
  obtain ⟨t12, r12, q12, h13⟩ := cons_of (n := 3) h12
  obtain ⟨t13, r13, q13, h14⟩ := cons_of (n := 2) h13
  obtain ⟨t14, r14, q14, h15⟩ := cons_of (n := 1) h14
  obtain ⟨t15, r15, q15, h16⟩ := cons_of (n := 0) h15
  have z := List.length_eq_zero_iff.mp h16
  exact ⟨t0, t1, t2, t3, t4, t5, t6, t7, t8, t9, t10, t11, t12, t13, t14, t15, by rw [q0, q1, q2, q3, q4, q5, q6, q7, q8, q9, q10, q11, q12, q13, q14, q15, z]⟩
theorem compL_inv {vs : List Nat} {i : Nat} {ft : M Bool} {fe : M Op} {P : EnvS → Prop} {R : D → Prop} : ∀ (ds acc : List D) (δ : EnvS), P δ →
    (∀ d ∈ ds, ∀ δ, P δ → ∃ b δ1, ft (δ.set i (.val d)) = .ok b δ1 ∧ ((b = false ∧ P (wipeE δ1 vs)) ∨ (b = true ∧ ∃ o δ2 r δ3, fe δ1 = .ok o δ2 ∧ Ev.esc o δ2 = .ok r δ3 ∧ R r ∧ P (wipeE δ3 vs)))) → acc.length + ds.length ≤ 16777216 →
    ∃ acc' δ', compL vs (.one i) ft fe ds acc δ = .ok (acc ++ acc') δ' ∧ acc'.length ≤ ds.length ∧ (∀ r ∈ acc', R r) ∧ P δ'
  | [], acc, δ, hp, _, _ => ⟨[], δ, by simp [compL], by simp, by simp, hp⟩
  | d :: ds, acc, δ, hp, h, hl => by
    obtain ⟨b, δ1, h1, h2⟩ := h d (by simp) δ hp
    rcases h2 with ⟨rfl, hp1⟩ | ⟨rfl, o, δ2, r, δ3, h2, h3, hr, hp1⟩
    · obtain ⟨acc', δ', e, l, hR, hP⟩ := compL_inv ds acc _ hp1 (fun z hz => h z (by simp [hz])) (by simp at hl; omega)
      refine ⟨acc', δ', ?_, by simp; omega, hR, hP⟩
      unfold compL
      simp only [tgF, M.bind, h1, Bool.false_eq_true, if_false]
      exact e
    · obtain ⟨acc', δ', e, l, hR, hP⟩ := compL_inv ds (acc ++ [r]) _ hp1 (fun z hz => h z (by simp [hz])) (by simp at hl ⊢; omega)
      have hl' : acc.length + 1 ≤ 16777216 := by simp at hl; omega
      refine ⟨r :: acc', δ', ?_, by simp; omega, ?_, hP⟩
      · unfold compL
        simp only [tgF, M.bind, h1, if_true, h2, h3, fits, hl', decide_true, e]
        simp
      · intro z hz
        rcases List.mem_cons.mp hz with rfl | hz
        · exact hr
        · exact hR z hz
theorem compL_all {vs : List Nat} {i : Nat} {ft : M Bool} {fe : M Op} {P : EnvS → Prop} {R : D → Prop} : ∀ (ds acc : List D) (δ : EnvS), P δ →
    (∀ d ∈ ds, ∀ δ, P δ → ∃ δ1 o δ2 r δ3, ft (δ.set i (.val d)) = .ok true δ1 ∧ fe δ1 = .ok o δ2 ∧ Ev.esc o δ2 = .ok r δ3 ∧ R r ∧ P (wipeE δ3 vs)) → acc.length + ds.length ≤ 16777216 →
    ∃ acc' δ', compL vs (.one i) ft fe ds acc δ = .ok (acc ++ acc') δ' ∧ acc'.length = ds.length ∧ (∀ r ∈ acc', R r) ∧ P δ'
  | [], acc, δ, hp, _, _ => ⟨[], δ, by simp [compL], by simp, by simp, hp⟩
  | d :: ds, acc, δ, hp, h, hl => by
    obtain ⟨δ1, o, δ2, r, δ3, h1, h2, h3, hr, hp1⟩ := h d (by simp) δ hp
    obtain ⟨acc', δ', e, l, hR, hP⟩ := compL_all ds (acc ++ [r]) _ hp1 (fun z hz => h z (by simp [hz])) (by simp at hl ⊢; omega)
    have hl' : acc.length + 1 ≤ 16777216 := by simp at hl; omega
    refine ⟨r :: acc', δ', ?_, by simp [l], ?_, hP⟩
    · unfold compL
      simp only [tgF, M.bind, h1, if_true, h2, h3, fits, hl', decide_true, e]
      simp
    · intro z hz
      rcases List.mem_cons.mp hz with rfl | hz
      · exact hr
      · exact hR z hz
theorem forL_inv {m : EnvS} {i : Nat} {body : MS} {P : List D → EnvS → Prop} : ∀ (ds done : List D) (δ : EnvS), P done δ →
    (∀ d ∈ ds, ∀ done δ, P done δ → ∃ δ2, (body (δ.set i (.val d)) = .nx δ2 ∨ body (δ.set i (.val d)) = .ct δ2) ∧ P (done ++ [d]) (maskE m δ2)) →
    ∃ δ', forL m (.one i) body ds δ = .nx δ' ∧ P (done ++ ds) δ'
  | [], done, δ, hp, _ => ⟨δ, by simp [forL], by simpa using hp⟩
  | d :: ds, done, δ, hp, h => by
    obtain ⟨δ2, h1, hp1⟩ := h d (by simp) done δ hp
    obtain ⟨δ', e, hP⟩ := forL_inv ds (done ++ [d]) _ hp1 (fun z hz => h z (by simp [hz]))
    refine ⟨δ', ?_, by simpa using hP⟩
    unfold forL
    simp only [tgF, MS.of]
    rcases h1 with h1 | h1 <;> simp only [h1, e]
theorem cFor_eq {T : Tgt} {fi : M (List D)} {body : MS} {ds : List D} {δ δ1 δ' : EnvS} (h1 : fi δ = .ok ds δ1) (h2 : forL (wipeE δ1 T.slots) T body ds (wipeE δ1 T.slots) = .nx δ') : cFor T fi body δ = .nx δ' := by
  unfold cFor MS.of
  rw [h1]
  exact h2
theorem ints_cut (ns : List Int) (lo hi : Option Int) : Ev.cut (ns.map D.int) lo hi = (Ev.cut ns lo hi).map D.int := by
  unfold Ev.cut
  rw [List.length_map, List.map_take, List.map_drop]
theorem cut_len (ns : List Int) (lo hi : Option Int) : (Ev.cut ns lo hi).length ≤ ns.length := by
  unfold Ev.cut
  simp
  omega
theorem ints_map (ns : List Int) : intsD (ns.map D.int) = some ns := by
  induction ns with
  | nil => rfl
  | cons n ns ih => simp [intsD, ih]
def R01 (d : D) : Prop := d = .str [48] ∨ d = .str [49]
theorem signs_of : ∀ acc : List D, (∀ r ∈ acc, R01 r) → ∃ s, acc = s.map (fun c => D.str [c]) ∧ V01 s
  | [], _ => ⟨[], rfl, fun c hc => by cases hc⟩
  | r :: acc, h => by
    obtain ⟨s, e, v⟩ := signs_of acc fun z hz => h z (List.mem_cons_of_mem _ hz)
    rcases h r List.mem_cons_self with rfl | rfl
    · exact ⟨48 :: s, by rw [e]; rfl, fun c hc => by rcases List.mem_cons.mp hc with rfl | hc; exact .inl rfl; exact v c hc⟩
    · exact ⟨49 :: s, by rw [e]; rfl, fun c hc => by rcases List.mem_cons.mp hc with rfl | hc; exact .inr rfl; exact v c hc⟩
theorem join_R (acc : List D) (h : ∀ r ∈ acc, R01 r) (hl : acc.length ≤ 16) : ∃ s, V01 s ∧ s.length = acc.length ∧ gJoin (.str []) [.lst acc] = some (.val (.str s)) := by
  obtain ⟨s, rfl, v⟩ := signs_of acc h
  refine ⟨s, v, by simp, ?_⟩
  have := join_map (fun c : Nat => c) s (by simpa using hl)
  simpa using this
theorem str_01 (v : Int) (h0 : 0 ≤ v) (h1 : v < 2) : ∃ r, orG gStrC gStrS [.int v] = some (.val r) ∧ R01 r := by
  have : v = 0 ∨ v = 1 := by omega
  rcases this with rfl | rfl
  · exact ⟨_, str_0, .inl rfl⟩
  · exact ⟨_, str_1, .inr rfl⟩
theorem callF_eq {fn : M Op} {k : Nat} {fa : M (List AR)} {as : List AR} {sl sl' : List Slot} {o : Op} {δ δ1 : EnvS} (hfa : fa δ = .ok as δ1) (hl : as.length = k) (hn : nodupB (ios as) = true) (hs : arSlots δ1 as = some sl) (hf : fn sl = .ok o sl') : cCallF fn (takesN k fa) δ = .ok o (putBack δ1 as sl') := by
  unfold cCallF takesN M.bind callWithD
  rw [hfa]
  dsimp only
  rw [if_pos hl]
  dsimp only
  rw [if_pos hn, hs]
  dsimp only
  rw [hf]
theorem at_ge {α : Type} {xs : List α} {i : Int} (h0 : 0 ≤ i) (h1 : i < xs.length) : ∃ x, x ∈ xs ∧ xs[i.toNat]? = some x ∧ atI xs i = some x := by
  have hn : i.toNat < xs.length := by omega
  refine ⟨xs[i.toNat], List.getElem_mem hn, List.getElem?_eq_getElem hn, ?_⟩
  unfold atI ixN
  rw [if_pos h0, if_pos h1]
  exact List.getElem?_eq_getElem hn
theorem at_row {r : List Nat} {m : Nat} (hl : r.length = m) (v : V01 r) (h4 : m ≤ 4) (i : Int) (h0 : 0 ≤ i) (h1 : i < m) : ∃ c, R01 (.str [c]) ∧ gIx (.str r) (.int i) = some (.val (.str [c])) := by
  obtain ⟨c, hc, _, e⟩ := at_ge (xs := r) h0 (by omega)
  refine ⟨c, ?_, ?_⟩
  · rcases v c hc with rfl | rfl
    · exact .inl rfl
    · exact .inr rfl
  · have hf : r.length ≤ 16777216 := by omega
    simp [gIx, gIxQ, seqD, gIxS, fits, hf, e]
theorem at_lst {xs : List D} (i : Int) (h0 : 0 ≤ i) (h1 : i < xs.length) : ∃ d, d ∈ xs ∧ gIx (.lst xs) (.int i) = some (.val d) := by
  obtain ⟨c, hc, _, e⟩ := at_ge (xs := xs) h0 (by omega)
  exact ⟨c, hc, by simp [gIx, gIxQ, seqD, e]⟩
theorem get_any : ∀ (ks xs : List D) (k : D), xs.length = ks.length → (dGetD ks xs k).isSome = ks.any fun y => eqD y k
  | [], xs, k, _ => by simp [dGetD]
  | y :: ks, [], k, h => by simp at h
  | y :: ks, x :: xs, k, h => by
    have ih := get_any ks xs k (by simpa using h)
    unfold dGetD at ih ⊢
    rw [List.zip_cons_cons, List.find?_cons]
    cases e : eqD y k with
    | true => simp [e]
    | false => simpa [e] using ih
theorem get_mem {ks xs : List D} {k d : D} (h : dGetD ks xs k = some d) : d ∈ xs := by
  unfold dGetD at h
  cases e : (ks.zip xs).find? fun p => eqD p.1 k with
  | none => rw [e] at h; cases h
  | some p =>
    rw [e] at h
    cases h
    exact (List.of_mem_zip (List.mem_of_find?_eq_some e)).2
theorem forL_full {m : EnvS} {i : Nat} {body : MS} {P : List D → EnvS → Prop} : ∀ (ds done : List D) (δ : EnvS), P done δ →
    (∀ pre d post, ds = pre ++ d :: post → ∀ δ, P (done ++ pre) δ → ∃ δ2, body (δ.set i (.val d)) = .nx δ2 ∧ P (done ++ pre ++ [d]) (maskE m δ2)) →
    ∃ δ', forL m (.one i) body ds δ = .nx δ' ∧ P (done ++ ds) δ'
  | [], done, δ, hp, _ => ⟨δ, by simp [forL], by simpa using hp⟩
  | d :: ds, done, δ, hp, h => by
    obtain ⟨δ2, h1, hp1⟩ := h [] d ds rfl δ (by simpa using hp)
    obtain ⟨δ', e, hP⟩ := forL_full ds (done ++ [d]) _ (by simpa using hp1) (fun pre z post hz δ hp => by
      have := h (d :: pre) z post (by rw [hz]; rfl) δ (by simpa using hp)
      simpa using this)
    refine ⟨δ', ?_, by simpa using hP⟩
    unfold forL
    simp only [tgF, MS.of, h1, e]
theorem rng1_ok {j : Int} (h : rngB j = true) : rng1D [.int j] = some (rng 0 j.toNat) := by
  rw [rng1D, if_pos h]
theorem cRng_eq {g : List D → Option (List D)} {f : M (List D)} {δ δ1 : EnvS} {ds l : List D} (h : f δ = .ok ds δ1) (hg : g ds = some l) : cRng g f δ = .ok l δ1 := by
  unfold cRng M.bind
  rw [h]
  dsimp only
  rw [hg]
  rfl
theorem cSeq_nx {a b : MS} {δ δ1 : EnvS} (h : a δ = .nx δ1) : cSeq a b δ = b δ1 := by
  unfold cSeq; rw [h]
theorem cSeq_rt {a b : MS} {δ δ1 : EnvS} {o : Op} (h : a δ = .rt o δ1) : cSeq a b δ = .rt o δ1 := by
  unfold cSeq; rw [h]
theorem cIfS_true {c : M Bool} {a b : MS} {δ δ1 : EnvS} (h : c δ = .ok true δ1) : cIfS c a b δ = a δ1 := by
  unfold cIfS MS.of; rw [h]; rfl
theorem exit_io (w w' x : D) (δ' : EnvS) : exitS [.own true w, .val x] (.own true w' :: δ') = [.own true w', .none] := by
  cases δ' <;> rfl
theorem runF_rt {k : Nat} {b : MS} {sl : List Slot} {δ' : EnvS} {d : D} (h : b (sl ++ List.replicate (k - sl.length) .none) = .rt (.val d) δ') : runF k b sl = .ok (.val d) (exitS sl δ') := by
  unfold runF
  rw [h]
  rfl
def wordsN : Nat → List (List Nat)
  | 0 => [[]]
  | n + 1 => (wordsN n).flatMap fun r => [r ++ [48], r ++ [49]]
theorem words_row : ∀ n, ∀ r ∈ wordsN n, V01 r ∧ r.length = n
  | 0, r, h => by
    have : r = [] := by simpa [wordsN] using h
    subst this
    exact ⟨fun c hc => (nomatch hc), rfl⟩
  | n + 1, r, h => by
    obtain ⟨q, hq, hr⟩ := List.mem_flatMap.mp h
    obtain ⟨v, l⟩ := words_row n q hq
    have : r = q ++ [48] ∨ r = q ++ [49] := by simpa using hr
    rcases this with rfl | rfl
    · refine ⟨fun c hc => ?_, by simp [l]⟩
      rcases List.mem_append.mp hc with hc | hc
      · exact v c hc
      · exact .inl (by simpa using hc)
    · refine ⟨fun c hc => ?_, by simp [l]⟩
      rcases List.mem_append.mp hc with hc | hc
      · exact v c hc
      · exact .inr (by simpa using hc)
theorem words_len_4 : (wordsN 4).length = 16 := by kernel_rfl
theorem words_len_8 : (wordsN 8).length = 256 := by kernel_rfl
theorem if_ok {F : M Op} {a b : MS} {δ δ1 : EnvS} (h : F δ = .ok (.val (.bl true)) δ1) : cIfS (cNotT (cTru F)) a b δ = b δ1 := by
  unfold cIfS MS.of cNotT cTru
  simp [M.bind, h, lift1, deref, truD, mOk, truO]
theorem if_ok2 {F G : M Op} {a b : MS} {δ δ1 δ2 : EnvS} (h : F δ = .ok (.val (.bl true)) δ1) (h2 : G δ1 = .ok (.val (.bl true)) δ2) : cIfS (cOrT (cNotT (cTru F)) (cNotT (cTru G))) a b δ = b δ2 := by
  unfold cIfS MS.of cOrT cNotT cTru
  simp [M.bind, h, h2, lift1, deref, truD, mOk, truO]
theorem asg_val {F : M Op} {i : Nat} {δ δ1 : EnvS} {d : D} (h : F δ = .ok (.val d) δ1) : cAsg i F δ = .nx (δ1.set i (.val d)) := by
  unfold cAsg MS.of
  rw [h]
  rfl
theorem asg_fresh {F : M Op} {i : Nat} {δ δ1 : EnvS} {d : D} (h : F δ = .ok (.fresh d) δ1) : cAsg i F δ = .nx (δ1.set i (.own false d)) := by
  unfold cAsg MS.of
  rw [h]
  rfl
theorem par3 {F1 F2 F3 : M Op} {δ δ1 δ2 δ3 : EnvS} {a b c : D} (h1 : F1 δ = .ok (.val a) δ1) (h2 : F2 δ1 = .ok (.val b) δ2) (h3 : F3 δ2 = .ok (.val c) δ3) : cPar [7, 8, 9] (cCons F1 (cCons F2 (cCons F3 cNil))) δ = .nx (setVals δ3 [7, 8, 9] [a, b, c]) := by
  simp [cPar, MS.of, cCons, M.bind, h1, h2, h3, Ev.esc, mOk, cNil]
end Ev
set_option Elab.async false
set_option linter.all false
set_option autoImplicit false
set_option maxRecDepth 100000
set_option maxHeartbeats 4000000
namespace Ev
open PySem PySem.Spec L2
open PyProof.Rows hiding St
/-! ### how often a sign stands in a text -/
theorem subAt_one (a : List Nat) (c i : Nat) (h : i < a.length) : Builtin.Str.subAt ⟨a.toArray⟩ ⟨#[c]⟩ i = decide (a[i] = c) := by
  unfold Builtin.Str.subAt
  have e : a.toArray.extract i (i + (⟨#[c]⟩ : Str).length) = #[a[i]] := by
    apply Array.toList_inj.mp
    show (a.toArray.extract i (i + 1)).toList = [a[i]]
    simp only [Array.toList_extract, List.extract_eq_drop_take]
    have : i + 1 - i = 1 := by omega
    rw [this, List.drop_eq_getElem_cons h]
    rfl
  show (a.toArray.extract i (i + (⟨#[c]⟩ : Str).length) == #[c]) = _
  rw [e, Bool.eq_iff_iff]
  simp
theorem occ_run (a : List Nat) (c : Nat) : ∀ (n lo : Nat) (st : Array Nat × Nat), st.2 ≤ lo → st.1.size ≤ lo → lo + n = a.length + 1 →
    (forIn (List.range' lo n) st (StrLaws.occBody ⟨a.toArray⟩ ⟨#[c]⟩ a.length (a.length + 1))).run.fst.size = st.1.size + (a.drop lo).count c
  | 0, lo, st, _, _, h => by
    have : a.drop lo = [] := List.drop_eq_nil_of_le (by omega)
    rw [this]
    rfl
  | n + 1, lo, st, h1, h2, h => by
    rw [List.range'_succ, List.forIn_cons]
    unfold StrLaws.occBody
    by_cases hl : lo < a.length
    · have hs := subAt_one a c lo hl
      have hd : a.drop lo = a[lo] :: a.drop (lo + 1) := List.drop_eq_getElem_cons hl
      by_cases hc : a[lo] = c
      · have c1 : ((st.fst.size < a.length + 1 ∧ st.snd ≤ lo) ∧ lo + (⟨#[c]⟩ : Str).length ≤ a.length) ∧ Builtin.Str.subAt ⟨a.toArray⟩ ⟨#[c]⟩ lo = true := ⟨⟨⟨by omega, h1⟩, by show lo + 1 ≤ a.length; omega⟩, by rw [hs]; simpa using hc⟩
        rw [if_pos c1]
        have ih := occ_run a c n (lo + 1) (st.1.push lo, lo + 1) (Nat.le_refl _) (by simp; omega) (by omega)
        rw [hd, List.count_cons, hc]
        simp only [beq_self_eq_true, if_true]
        refine Eq.trans ih ?_
        simp
        omega
      · have c2 : ¬ (((st.fst.size < a.length + 1 ∧ st.snd ≤ lo) ∧ lo + (⟨#[c]⟩ : Str).length ≤ a.length) ∧ Builtin.Str.subAt ⟨a.toArray⟩ ⟨#[c]⟩ lo = true) := fun z => by
          have := z.2
          rw [hs] at this
          exact hc (of_decide_eq_true this)
        rw [if_neg c2]
        have ih := occ_run a c n (lo + 1) st (by omega) (by omega) (by omega)
        have hb : (a[lo] == c) = false := by simpa using hc
        rw [hd, List.count_cons, hb]
        exact ih
    · have c2 : ¬ (((st.fst.size < a.length + 1 ∧ st.snd ≤ lo) ∧ lo + (⟨#[c]⟩ : Str).length ≤ a.length) ∧ Builtin.Str.subAt ⟨a.toArray⟩ ⟨#[c]⟩ lo = true) := fun z => by
        have h3 : lo + 1 ≤ a.length := z.1.2
        omega
      rw [if_neg c2]
      have ih := occ_run a c n (lo + 1) st (by omega) (by omega) (by omega)
      have e1 : a.drop lo = [] := List.drop_eq_nil_of_le (by omega)
      have e2 : a.drop (lo + 1) = [] := List.drop_eq_nil_of_le (by omega)
      rw [e2] at ih
      rw [e1]
      exact ih
theorem count_sign (a : List Nat) (c : Nat) : gCountS (.str a) [.str [c]] = some (.val (.int ((a.count c : Nat) : Int))) := by
  have hl : (⟨a.toArray⟩ : Str).length = a.length := str_len a
  have e : (Builtin.Str.occurrences ⟨a.toArray⟩ ⟨#[c]⟩ 0 a.length (a.length + 1)).length = a.count c := by
    rw [StrLaws.occ_eq, Array.length_toList]
    have := occ_run a c (a.length + 1) 0 (#[], 0) (Nat.le_refl _) (Nat.le_refl _) (by omega)
    simp only [Nat.sub_zero]
    rw [this]
    simp
  show some (Op.val (.int (((Builtin.Str.occurrences ⟨a.toArray⟩ ⟨#[c]⟩ 0 (⟨a.toArray⟩ : Str).length ((⟨a.toArray⟩ : Str).length + 1)).length : Nat) : Int))) = _
  rw [hl, e]
/-! ### nets as trees -/
inductive Net
  | fig (c : Nat)
  | neg (t : Net)
  | pair (g : Nat) (a b : Net)
namespace Net
def txt : Net → List Nat
  | fig c => [c]
  | neg t => 33 :: txt t
  | pair g a b => 40 :: (txt a ++ g :: (txt b ++ [41]))
def ok : Net → Prop
  | fig c => c = 48 ∨ c = 49 ∨ c = 50 ∨ c = 51
  | neg t => ok t
  | pair g a b => (g = 38 ∨ g = 124 ∨ g = 94) ∧ ok a ∧ ok b
def dep : Net → Nat
  | fig _ => 0
  | neg t => dep t + 1
  | pair _ a b => max (dep b) (dep a) + 1
theorem pos : ∀ t : Net, 0 < (txt t).length
  | fig _ => by simp [txt]
  | neg t => by simp [txt]
  | pair g a b => by simp [txt]
def isFig (c : Nat) : Bool := decide (c ∈ [48, 49, 50, 51])
theorem fig_of {c : Nat} (h : isFig c = true) : c = 48 ∨ c = 49 ∨ c = 50 ∨ c = 51 := by
  unfold isFig at h
  simpa using h
theorem fig_is {c : Nat} (h : c = 48 ∨ c = 49 ∨ c = 50 ∨ c = 51) : isFig c = true := by
  rcases h with rfl | rfl | rfl | rfl <;> rfl
/-- a figure is put otherwise -/
theorem put {q : List Nat} (hq : ∃ u, ok u ∧ q = txt u) : ∀ (t : Net), ok t → ∀ (pre post : List Nat) (c : Nat), isFig c = true → txt t = pre ++ c :: post → ∃ u, ok u ∧ pre ++ (q ++ post) = txt u
  | fig d, h, pre, post, c, hc, e => by
    cases pre with
    | nil =>
      have e : [d] = c :: post := e
      cases e
      obtain ⟨u, h1, h2⟩ := hq
      exact ⟨u, h1, by simpa using h2⟩
    | cons x pre =>
      have e : [d] = x :: (pre ++ c :: post) := e
      injection e with _ e
      cases pre <;> cases e
  | neg t, h, pre, post, c, hc, e => by
    cases pre with
    | nil =>
      have e : 33 :: txt t = c :: post := e
      injection e with e _
      subst e
      cases hc
    | cons x pre =>
      have e : 33 :: txt t = x :: (pre ++ c :: post) := e
      injection e with e1 e2
      subst e1
      obtain ⟨u, h1, h2⟩ := put hq t h pre post c hc e2
      exact ⟨.neg u, h1, by show 33 :: (pre ++ (q ++ post)) = 33 :: txt u; rw [h2]⟩
  | pair g a b, ⟨hg, ha, hb⟩, pre, post, c, hc, e => by
    cases pre with
    | nil =>
      have e : 40 :: (txt a ++ g :: (txt b ++ [41])) = c :: post := e
      injection e with e _
      subst e
      cases hc
    | cons x pre =>
      have e : 40 :: (txt a ++ g :: (txt b ++ [41])) = x :: (pre ++ c :: post) := e
      injection e with e1 e2
      subst e1
      rcases List.append_eq_append_iff.mp e2 with ⟨z, h1, h2⟩ | ⟨z, h1, h2⟩
      · -- pre = txt a ++ z
        cases z with
        | nil =>
          have h2 : g :: (txt b ++ [41]) = c :: post := h2
          injection h2 with h3 _
          subst h3
          rcases hg with rfl | rfl | rfl <;> cases hc
        | cons y z =>
          have h2 : g :: (txt b ++ [41]) = y :: (z ++ c :: post) := h2
          injection h2 with h3 h4
          subst h3
          rcases List.append_eq_append_iff.mp h4 with ⟨w, k1, k2⟩ | ⟨w, k1, k2⟩
          · cases w with
            | nil =>
              have k2 : [41] = c :: post := k2
              cases k2
              cases hc
            | cons y2 w =>
              have k2 : [41] = y2 :: (w ++ c :: post) := k2
              injection k2 with _ k3
              cases w <;> cases k3
          · -- txt b = z ++ w, c :: post = w ++ [41]
            cases w with
            | nil =>
              have k2 : c :: post = [41] := k2
              cases k2
              cases hc
            | cons y2 w =>
              have k2 : c :: post = y2 :: (w ++ [41]) := k2
              injection k2 with k3 k4
              subst k3 k4
              obtain ⟨u, u1, u2⟩ := put hq b hb z w c hc k1
              refine ⟨.pair g a u, ⟨hg, ha, u1⟩, ?_⟩
              show 40 :: (pre ++ (q ++ (w ++ [41]))) = 40 :: (txt a ++ g :: (txt u ++ [41]))
              rw [h1, ← u2]
              simp
      · -- txt a = pre ++ z, c :: post = z ++ ...
        cases z with
        | nil =>
          have h2 : c :: post = g :: (txt b ++ [41]) := h2
          injection h2 with h3 _
          subst h3
          rcases hg with rfl | rfl | rfl <;> cases hc
        | cons y z =>
          have h2 : c :: post = y :: (z ++ g :: (txt b ++ [41])) := h2
          injection h2 with h3 h4
          subst h3 h4
          obtain ⟨u, u1, u2⟩ := put hq a ha pre z c hc h1
          refine ⟨.pair g u b, ⟨hg, u1, hb⟩, ?_⟩
          show 40 :: (pre ++ (q ++ (z ++ g :: (txt b ++ [41])))) = 40 :: (txt u ++ g :: (txt b ++ [41]))
          rw [← u2]
          simp
/-- counts of a net -/
theorem cnt_open : ∀ t, ok t → (txt t).count 40 = (txt t).count 38 + (txt t).count 124 + (txt t).count 94
  | fig c, h => by
    unfold ok at h
    rcases h with rfl | rfl | rfl | rfl <;> rfl
  | neg t, h => by
    have := cnt_open t h
    simp [txt, List.count_cons]
    exact this
  | pair g a b, ⟨hg, ha, hb⟩ => by
    have h1 := cnt_open a ha
    have h2 := cnt_open b hb
    rcases hg with rfl | rfl | rfl <;> simp [txt, List.count_cons] <;> omega
theorem cnt_fig : ∀ t, ok t → ((txt t).filter isFig).length = (txt t).count 38 + (txt t).count 124 + (txt t).count 94 + 1
  | fig c, h => by
    unfold ok at h
    rcases h with rfl | rfl | rfl | rfl <;> rfl
  | neg t, h => by
    have := cnt_fig t h
    have e : isFig 33 = false := rfl
    simp [txt, List.count_cons, List.filter_cons, e]
    exact this
  | pair g a b, ⟨hg, ha, hb⟩ => by
    have h1 := cnt_fig a ha
    have h2 := cnt_fig b hb
    have e1 : isFig 40 = false := rfl
    have e2 : isFig 41 = false := rfl
    rcases hg with rfl | rfl | rfl
    · have e3 : isFig 38 = false := rfl
      simp [txt, List.count_cons, List.filter_cons, e1, e2, e3]; omega
    · have e3 : isFig 124 = false := rfl
      simp [txt, List.count_cons, List.filter_cons, e1, e2, e3]; omega
    · have e3 : isFig 94 = false := rfl
      simp [txt, List.count_cons, List.filter_cons, e1, e2, e3]; omega
theorem has_fig (t : Net) (h : ok t) : 0 < ((txt t).filter isFig).length := by
  rw [cnt_fig t h]
  omega
end Net
end Ev
set_option Elab.async false
set_option linter.all false
set_option autoImplicit false
set_option maxRecDepth 100000
set_option maxHeartbeats 4000000
namespace La
open PySem PySem.Spec L2 Ev
open PyProof.Rows hiding St
/-! ### stacks -/
theorem at_neg {α : Type} (xs : List α) (k : Nat) (h0 : 0 < k) (h : k ≤ xs.length) : atI xs (-(k : Int)) = xs[xs.length - k]? := by
  unfold atI ixN
  rw [if_neg (by omega), if_pos (by omega)]
  show xs[((-(k : Int)) + (xs.length : Int)).toNat]? = _
  congr 1
  omega
theorem rev_get {α : Type} (r : List α) (k : Nat) (h : k < r.length) : r.reverse[r.reverse.length - (k + 1)]? = r[k]? := by
  rw [List.length_reverse, List.getElem?_reverse (by omega)]
  congr 1
  omega
theorem top_k {r : List D} {x : D} (k : Nat) (h : r[k]? = some x) : gIx (.lst r.reverse) (.int (-((k + 1 : Nat) : Int))) = some (.val x) := by
  have hk := (List.getElem?_eq_some_iff.mp h).1
  have e : atI r.reverse (-((k + 1 : Nat) : Int)) = some x := by
    rw [at_neg _ _ (by omega) (by rw [List.length_reverse]; omega), rev_get r k hk, h]
  simp only [gIx, gIxQ, seqD, e]
  rfl
theorem top1 (x : D) (r : List D) : gIx (.lst (x :: r).reverse) (.int (-1)) = some (.val x) := top_k 0 rfl
theorem top2 (x y : D) (r : List D) : gIx (.lst (x :: y :: r).reverse) (.int (-2)) = some (.val y) := top_k 1 rfl
theorem app_st (r : List D) (x : D) (h : r.length ≤ 1000) : gAppend (.lst r.reverse) [x] = some (.val .non, .lst (x :: r).reverse) := by
  have hf : fits (r.reverse.length + 1) = true := by unfold fits; rw [List.length_reverse]; exact decide_eq_true (by omega)
  show (if fits (r.reverse.length + 1) = true then some (Op.val .non, D.lst (r.reverse ++ [x])) else none) = _
  rw [if_pos hf, List.reverse_cons]
theorem pop_st (x : D) (r : List D) : gPop (.lst (x :: r).reverse) [] = some (.val x, .lst r.reverse) := by
  have e : (x :: r).reverse[(x :: r).reverse.length - 1]? = some x := rev_get (x :: r) 0 (by simp)
  show (match (x :: r).reverse[(x :: r).reverse.length - 1]? with | some d => some (Op.val d, D.lst (x :: r).reverse.dropLast) | none => none) = _
  rw [e]
  dsimp only
  rw [List.reverse_cons, List.dropLast_concat]
theorem splc_k {α : Type} (r0 r : List α) (z : α) (k : Nat) (hk : 0 < k) (h : r0.length = k) : splc (r0 ++ r).reverse [z] (some (-(k : Int))) none = (z :: r).reverse := by
  have hn : (r0 ++ r).reverse.length = r.length + k := by simp; omega
  have ha : spA (some (-(k : Int))) none (r.length + k) = r.length := by
    unfold spA sliceBounds
    dsimp only
    simp only [Option.getD_none, show (1 : Int) > 0 by decide, if_true]
    rw [if_pos (by omega)]
    omega
  have hc : spC (some (-(k : Int))) none (r.length + k) = r.length + k := by
    unfold spC sliceBounds
    dsimp only
    simp only [Option.getD_none, show (1 : Int) > 0 by decide, if_true]
    rw [if_pos (by omega)]
    omega
  unfold splc
  rw [hn, ha, hc, List.reverse_append]
  have h1 : (r.reverse ++ r0.reverse).take r.length = r.reverse := by
    have : r.length = r.reverse.length := by simp
    rw [this, List.take_left']
    simp
  have h2 : (r.reverse ++ r0.reverse).drop (r.length + k) = [] := List.drop_eq_nil_of_le (by simp; omega)
  rw [h1, h2, List.append_nil, List.reverse_cons]
theorem cut_4 (a b c d : D) (r : List D) : Ev.cut (d :: c :: b :: a :: r).reverse (some (-4)) none = [a, b, c, d] := by
  have hn : (d :: c :: b :: a :: r).reverse.length = r.length + 4 := by simp
  unfold Ev.cut
  rw [hn]
  have h1 : HT.sIx (r.length + 4) 0 (some (-4)) = r.length := by
    show (if (-4 : Int) < 0 then ((-4 : Int) + ((r.length + 4 : Nat) : Int)).toNat else min (-4 : Int).toNat (r.length + 4)) = _
    rw [if_pos (by decide)]
    omega
  have h2 : HT.sIx (r.length + 4) (r.length + 4) none = r.length + 4 := rfl
  rw [h1, h2]
  have h3 : (d :: c :: b :: a :: r).reverse = r.reverse ++ [a, b, c, d] := by simp
  have h4 : r.length = r.reverse.length := by simp
  rw [h3, h4, List.drop_left]
  have : r.reverse.length + 4 - r.reverse.length = 4 := by omega
  rw [this]
  rfl
/-! ### the machine of steps_of -/
inductive It
  | wh
  | sg (c p : Nat)
abbrev sWhole : List Nat := [119, 104, 111, 108, 101]
def dI : It → D
  | .wh => .tup [.str sWhole, .non]
  | .sg c p => .tup [.str [c], .int (p : Nat)]
def dP (q : Nat × Nat) : D := .tup [.int (q.1 : Nat), .str [q.2]]
abbrev stk (r : List It) : D := .lst (r.map dI).reverse
abbrev sps (S : List (Nat × Nat)) : D := .lst (S.map dP)
def clo : List It → List (Nat × Nat) → List It × List (Nat × Nat)
  | .sg c p :: r, S => if c = 33 then clo r (S ++ [(p, 33)]) else (.sg c p :: r, S)
  | r, S => (r, S)
theorem clo_len : ∀ (r : List It) (S : List (Nat × Nat)), (clo r S).1.length + (clo r S).2.length = r.length + S.length ∧ (clo r S).1.length ≤ r.length
  | [], S => ⟨rfl, Nat.le_refl _⟩
  | .wh :: r, S => ⟨rfl, Nat.le_refl _⟩
  | .sg c p :: r, S => by
    unfold clo
    by_cases h : c = 33
    · rw [if_pos h]
      have := clo_len r (S ++ [(p, 33)])
      simp at this ⊢
      omega
    · rw [if_neg h]
      exact ⟨rfl, Nat.le_refl _⟩
theorem app_sps (S : List (Nat × Nat)) (q : Nat × Nat) (h : S.length ≤ 1000) : gAppend (sps S) [dP q] = some (.val .non, sps (S ++ [q])) := by
  have hf : fits ((S.map dP).length + 1) = true := by unfold fits; rw [List.length_map]; exact decide_eq_true (by omega)
  show (if fits ((S.map dP).length + 1) = true then some (Op.val .non, D.lst (S.map dP ++ [dP q])) else none) = _
  rw [if_pos hf]
  simp
/-! #### close_turned -/
abbrev EC (r : List It) (S : List (Nat × Nat)) : EnvS := [.own true (stk r), .own true (sps S)]
def ctC : M Bool := cAndT (cCmpT gGt (cCall gLen (cConsO (cVar 0) (cNilO))) (cC (.int 1))) (cCmpT gEq (cBin gIx (cBin gIx (cVar 0) (cUn gNeg (cC (.int 2)))) (cC (.int 0))) (cC (.str [33])))
def ctB : MS := cSeq (cDrop (cMethO "list" 1 gAppend (cCons (cTup (cCons (cBin gIx (cBin gIx (cVar 0) (cUn gNeg (cC (.int 2)))) (cC (.int 1))) (cCons (cC (.str [33])) (cNil)))) (cNil)))) (cSeq (cAssign (tgSl 0 (cPart (some (cUn gNeg (cC (.int 2))))) (cPart none)) (cLst (cCons (cTup (cCons (cC (.str [119, 104, 111, 108, 101])) (cCons (cC .non) (cNil)))) (cNil)))) (cNext))
theorem ct_split (C : Str → M Op) : cb_close_turned C = cSeq (cWhile 80 ctC ctB) cNext := rfl
theorem eqT_ss {F G : M Op} {E : EnvS} {a c : List Nat} (h1 : F E = .ok (.val (.str a)) E) (h2 : G E = .ok (.val (.str c)) E) : cCmpT gEq F G E = .ok (decide (a = c)) E := by
  have g : gEq (.str a) (.str c) = some (decide (a = c)) := by
    have e : eqD (.str a) (.str c) = decide (a = c) := by
      show (a == c) = decide (a = c)
      rw [Bool.eq_iff_iff]
      simp
    simp [gEq, gEqB, gEqS, scalD, e]
  simp [cCmpT, M.bind, h1, h2, mOk, lift2, deref, g]
def it0 : It → List Nat
  | .wh => sWhole
  | .sg c _ => [c]
theorem ix0 (i : It) : gIx (dI i) (.int 0) = some (.val (.str (it0 i))) := by
  cases i <;> rfl
theorem ix_pl {F G : M Op} {E : EnvS} {a b r : D} {i : Nat} {io : Bool} (h1 : F E = .ok (.place i) E) (h3 : E[i]? = some (.own io a)) (h2 : G E = .ok (.val b) E) (g : gIx a b = some (.val r)) : cBin gIx F G E = .ok (.val r) E := by
  simp [cBin, M.bind, h1, h2, lift2, deref, h3, g]
theorem ix_vl {F G : M Op} {E : EnvS} {a b r : D} (h1 : F E = .ok (.val a) E) (h2 : G E = .ok (.val b) E) (g : gIx a b = some (.val r)) : cBin gIx F G E = .ok (.val r) E := by
  simp [cBin, M.bind, h1, h2, lift2, deref, g]
theorem len_st (r : List D) : gLen [.lst r.reverse] = some (.val (.int (r.length : Nat))) := by
  show some (Op.val (.int (r.reverse.length : Nat))) = _
  rw [List.length_reverse]
theorem andT {A B : M Bool} {E : EnvS} {a b : Bool} (h1 : A E = .ok a E) (h2 : a = true → B E = .ok b E) : cAndT A B E = .ok (a && b) E := by
  unfold cAndT M.bind
  rw [h1]
  cases a with
  | false => rfl
  | true => exact h2 rfl
theorem gt_len {F : M Op} {E : EnvS} {n : Nat} (k : Nat) (h : F E = .ok (.val (.int (n : Nat))) E) : cCmpT gGt F (cC (.int (k : Nat))) E = .ok (decide (k < n)) E := by
  have g : gGt (.int (n : Nat)) (.int (k : Nat)) = some (decide (k < n)) := by
    show some (decide ((k : Int) < (n : Int))) = _
    congr 1
    rw [Bool.eq_iff_iff]
    simp
  simp [cCmpT, M.bind, h, cC, mOk, lift2, deref, g]
theorem len_own {E : EnvS} {i : Nat} {io : Bool} {r : List D} (h1 : cVar i E = .ok (.place i) E) (h3 : E[i]? = some (.own io (.lst r.reverse))) : cCall gLen (cConsO (cVar i) (cNilO)) E = .ok (.val (.int (r.length : Nat))) E := by
  have g := len_st r
  simp [cCall, cConsO, M.bind, h1, cNilO, mOk, liftN, derefs, deref, h3, g]
theorem ctC_ok (r : List It) (S : List (Nat × Nat)) : ctC (EC (.wh :: r) S) = .ok (match r with | .sg c _ :: _ => decide (c = 33) | _ => false) (EC (.wh :: r) S) := by
  have h1 : cCmpT gGt (cCall gLen (cConsO (cVar 0) (cNilO))) (cC (.int 1)) (EC (.wh :: r) S) = .ok (decide (1 < ((It.wh :: r).map dI).length)) (EC (.wh :: r) S) := gt_len 1 (len_own (i := 0) (io := true) (r := (It.wh :: r).map dI) rfl rfl)
  cases r with
  | nil => exact andT (b := false) h1 fun z => nomatch z
  | cons x r =>
    have h2 : cBin gIx (cVar 0) (cUn gNeg (cC (.int 2))) (EC (.wh :: x :: r) S) = .ok (.val (dI x)) (EC (.wh :: x :: r) S) := ix_pl (i := 0) (io := true) rfl rfl rfl (top2 (dI .wh) (dI x) (r.map dI))
    have h3 := ix_vl (G := cC (.int 0)) (b := .int 0) h2 rfl (ix0 x)
    have h4 := eqT_ss (G := cC (.str [33])) (c := [33]) h3 rfl
    have h5 := andT h1 fun _ => h4
    unfold ctC
    rw [h5]
    have hl : decide (1 < ((It.wh :: x :: r).map dI).length) = true := decide_eq_true (by simp)
    rw [hl]
    cases x with
    | wh => rfl
    | sg c p =>
      have : decide (it0 (.sg c p) = [33]) = decide (c = 33) := by
        show decide ([c] = [33]) = _
        rw [Bool.eq_iff_iff]
        simp
      rw [this]
      rfl
theorem meth_app {E : EnvS} {i : Nat} {io : Bool} {c c' x : D} {F : M Op} (h3 : E[i]? = some (.own io c)) (ht : tyM c = some "list") (h1 : F E = .ok (.val x) E) (g : gAppend c [x] = some (.val .non, c')) : cDrop (cMethO "list" i gAppend (cCons F cNil)) E = .nx (E.set i (.own io c')) := by
  simp [cDrop, MS.of, cMethO, M.bind, ownTy, h3, ht, cCons, h1, Ev.esc, mOk, cNil, methO, g]
theorem tup2 {F G : M Op} {E : EnvS} {a b : D} (h1 : F E = .ok (.val a) E) (h2 : G E = .ok (.val b) E) : cTup (cCons F (cCons G cNil)) E = .ok (.val (.tup [a, b])) E := by
  simp [cTup, cCons, M.bind, h1, h2, Ev.esc, mOk, cNil, fits]
theorem gsl_k (r0 r : List It) (k : Nat) (hk : 0 < k) (h : r0.length = k) (hr : r.length ≤ 1000) (hk2 : k ≤ 10) : gSetSl (some (-(k : Int))) none (stk (r0 ++ r)) (.lst [dI .wh]) = some (stk (.wh :: r)) := by
  have hf : fits (((r0 ++ r).map dI).reverse.length + 1) = true := by unfold fits; simp; omega
  have e := splc_k (r0.map dI) (r.map dI) (dI .wh) k hk (by simpa using h)
  rw [← List.map_append] at e
  show (if fits (((r0 ++ r).map dI).reverse.length + 1) = true then some (D.lst (splc ((r0 ++ r).map dI).reverse [dI .wh] (some (-(k : Int))) none)) else none) = _
  rw [if_pos hf, e]
  rfl
theorem asg_sl {E : EnvS} {i : Nat} {io : Bool} {c c' x : D} {F : M Op} {fl : M (Option Int)} {lo : Option Int} (hx : F E = .ok (.fresh x) E) (h3 : E[i]? = some (.own io c)) (hl : fl E = .ok lo E) (g : gSetSl lo none c x = some c') : cAssign (tgSl i fl (cPart none)) F E = .nx (E.set i (.own io c')) := by
  have e : cPart none E = .ok none E := rfl
  unfold cAssign MS.of
  rw [hx]
  simp [Ev.esc, mOk, tgSl, h3, M.bind, hl, e, g]
theorem ctB_ok (p : Nat) (r : List It) (S : List (Nat × Nat)) (hr : r.length ≤ 100) (hS : S.length ≤ 1000) : ctB (EC (.wh :: .sg 33 p :: r) S) = .nx (EC (.wh :: r) (S ++ [(p, 33)])) := by
  have h2 : cBin gIx (cVar 0) (cUn gNeg (cC (.int 2))) (EC (.wh :: .sg 33 p :: r) S) = .ok (.val (dI (.sg 33 p))) (EC (.wh :: .sg 33 p :: r) S) := ix_pl (i := 0) (io := true) rfl rfl rfl (top2 (dI .wh) (dI (.sg 33 p)) (r.map dI))
  have h3 := ix_vl (G := cC (.int 1)) (b := .int 1) (r := .int (p : Nat)) h2 rfl rfl
  have h4 := tup2 (G := cC (.str [33])) (b := .str [33]) h3 rfl
  have h5 := meth_app (i := 1) (io := true) (c := sps S) rfl rfl h4 (app_sps S (p, 33) hS)
  have h6 : cAssign (tgSl 0 (cPart (some (cUn gNeg (cC (.int 2))))) (cPart none)) (cLst (cCons (cTup (cCons (cC (.str [119, 104, 111, 108, 101])) (cCons (cC .non) (cNil)))) (cNil))) (EC (.wh :: .sg 33 p :: r) (S ++ [(p, 33)])) = .nx (EC (.wh :: r) (S ++ [(p, 33)])) :=
    asg_sl (i := 0) (io := true) (c := stk (.wh :: .sg 33 p :: r)) (lo := some (-2)) (x := .lst [dI .wh]) rfl rfl rfl (gsl_k [.wh, .sg 33 p] r 2 (by decide) rfl (by omega) (by decide))
  unfold ctB
  exact (cSeq_nx h5).trans ((cSeq_nx h6).trans rfl)
theorem ct_run (m0 : EnvS) (hm : ∀ r S, maskE m0 (EC r S) = EC r S) : ∀ (r : List It) (S : List (Nat × Nat)) (n : Nat), r.length < n → r.length ≤ 100 → r.length + S.length ≤ 1000 → whileN m0 ctC ctB n (EC (.wh :: r) S) = .nx (EC (.wh :: (clo r S).1) (clo r S).2)
  | r, S, 0, h, _, _ => absurd h (by omega)
  | [], S, n + 1, h, hr, hS => by
    have e := ctC_ok [] S
    unfold whileN MS.of
    rw [e]
    rfl
  | .wh :: r, S, n + 1, h, hr, hS => by
    have e := ctC_ok (.wh :: r) S
    unfold whileN MS.of
    rw [e]
    rfl
  | .sg c p :: r, S, n + 1, h, hr, hS => by
    have e := ctC_ok (.sg c p :: r) S
    unfold whileN MS.of clo
    rw [e]
    dsimp only
    by_cases hc : c = 33
    · subst hc
      have hr' : r.length + 1 ≤ 100 := hr
      have hS' : (r.length + 1) + S.length ≤ 1000 := hS
      have h' : r.length + 1 < n + 1 := h
      rw [ctB_ok p r S (by omega) (by omega)]
      simp only [decide_true, if_true]
      rw [hm]
      exact ct_run m0 hm r (S ++ [(p, 33)]) n (by omega) (by omega) (by simp; omega)
    · simp [hc]
theorem ct_ok (n : Nat) (r : List It) (S : List (Nat × Nat)) (hr : r.length < 80) (hS : r.length + S.length ≤ 1000) : callN tab (n + 1) "close_turned" [.own true (stk (.wh :: r)), .own true (sps S)] = .ok (.val .non) [.own true (stk (.wh :: (clo r S).1)), .own true (sps (clo r S).2)] := by
  rw [call_close_turned]
  have e := ct_run (EC (.wh :: r) S) (fun _ _ => rfl) r S 80 hr (by omega) hS
  unfold runF
  rw [ct_split]
  have e2 : cSeq (cWhile 80 ctC ctB) cNext (EC (.wh :: r) S) = .nx (EC (.wh :: (clo r S).1) (clo r S).2) := by
    unfold cSeq cWhile
    rw [e]
    rfl
  show (match cSeq (cWhile 80 ctC ctB) cNext (EC (.wh :: r) S) with | .rt o δ' => exitR [.own true (stk (.wh :: r)), .own true (sps S)] o δ' | .nx δ' => .ok (.val .non) (exitS [.own true (stk (.wh :: r)), .own true (sps S)] δ') | .ex e δ' => .ex e (exitS [.own true (stk (.wh :: r)), .own true (sps S)] δ') | _ => .bad) = _
  rw [e2]
  rfl
end La
set_option Elab.async false
set_option linter.all false
set_option autoImplicit false
set_option maxRecDepth 100000
set_option maxHeartbeats 4000000
namespace La
open PySem PySem.Spec L2 Ev
open PyProof.Rows hiding St
/-! ### one sign of steps_of -/
def isGate (c : Nat) : Bool := decide (c ∈ [38, 124, 94])
def stp (p c : Nat) (r : List It) (S : List (Nat × Nat)) : Option (List It × List (Nat × Nat)) :=
  if Net.isFig c then some (.wh :: (clo r (S ++ [(p, c)])).1, (clo r (S ++ [(p, c)])).2)
  else if c = 41 then (match r with
    | .wh :: .sg g q :: .wh :: .sg 40 _ :: r0 => if isGate g then some (.wh :: (clo r0 (S ++ [(q, g)])).1, (clo r0 (S ++ [(q, g)])).2) else none
    | _ => none)
  else if c ∈ [33, 38, 124, 94, 40] then some (.sg c p :: r, S) else none
abbrev ES (net : List Nat) (r : List It) (S : List (Nat × Nat)) (x3 x4 : Slot) : EnvS := [.val (.str net), .own false (stk r), .own false (sps S), x3, x4]
abbrev EP (net : List Nat) (r : List It) (S : List (Nat × Nat)) (p c : Nat) : EnvS := ES net r S (.val (.int (p : Nat))) (.val (.str [c]))
def sA1 : M Bool := cCmpT gIn (cVar 4) (cC (.str [48, 49, 50, 51]))
def sX1 : MS := cSeq (cDrop (cMethO "list" 2 gAppend (cCons (cTup (cCons (cVar 3) (cCons (cVar 4) (cNil)))) (cNil)))) (cSeq (cDrop (cMethO "list" 1 gAppend (cCons (cTup (cCons (cC (.str [119, 104, 111, 108, 101])) (cCons (cC .non) (cNil)))) (cNil)))) (cNext))
def sA2 (C : Str → M Op) : M Bool := cAndT (cCmpT gEq (cVar 4) (cC (.str [41]))) (cTru (cCallF (C "is_closed_pair") (takesN 1 (cAIo 1 (cANil)))))
def sX2 : MS := cSeq (cDrop (cMethO "list" 2 gAppend (cCons (cTup (cCons (cBin gIx (cBin gIx (cVar 1) (cUn gNeg (cC (.int 2)))) (cC (.int 1))) (cCons (cBin gIx (cBin gIx (cVar 1) (cUn gNeg (cC (.int 2)))) (cC (.int 0))) (cNil)))) (cNil)))) (cSeq (cAssign (tgSl 1 (cPart (some (cUn gNeg (cC (.int 4))))) (cPart none)) (cLst (cCons (cTup (cCons (cC (.str [119, 104, 111, 108, 101])) (cCons (cC .non) (cNil)))) (cNil)))) (cNext))
def sA3 : M Bool := cCmpT gIn (cVar 4) (cBin gAdd (cC (.str [33, 38, 124, 94])) (cC (.str [40])))
def sX3 : MS := cSeq (cDrop (cMethO "list" 1 gAppend (cCons (cTup (cCons (cVar 4) (cCons (cVar 3) (cNil)))) (cNil)))) (cNext)
def sA4 : M Bool := cCmpT gEq (cBin gIx (cBin gIx (cVar 1) (cUn gNeg (cC (.int 1)))) (cC (.int 0))) (cC (.str [119, 104, 111, 108, 101]))
def sCT (C : Str → M Op) : MS := cSeq (cDrop (cCallF (C "close_turned") (takesN 2 (cAIo 1 (cAIo 2 (cANil)))))) (cNext)
def sB (C : Str → M Op) : MS := cSeq (cIfS sA1 sX1 (cSeq (cIfS (sA2 C) sX2 (cSeq (cIfS sA3 sX3 (cSeq (cRet (cC .non)) (cNext))) (cNext))) (cNext))) (cSeq (cIfS sA4 (sCT C) (cNext)) (cNext))
def sG : M Bool := cOrT (cNotT (cTru (cCall gIsi (cConsO (cVar 0) (cConsO (cC (.ty "str")) (cNilO)))))) (cCmpT gGt (cCall gLen (cConsO (cVar 0) (cNilO))) (cC (.int 60)))
def sEnd : MS := cSeq (cRet (cIf (cCmpT gEq (cVar 1) (cLst (cCons (cTup (cCons (cC (.str [119, 104, 111, 108, 101])) (cCons (cC .non) (cNil)))) (cNil)))) (cVar 2) (cC .non))) (cNext)
theorem so_split (C : Str → M Op) : cb_steps_of C = cSeq (cIfS sG (cSeq (cRet (cC .non)) (cNext)) (cNext)) (cSeq (cParE 1 2) (cSeq (cFor (.many [3, 4]) (cRng enumD (cCons (cVar 0) (cNil))) (sB C)) sEnd)) := rfl
/-! #### is_closed_pair -/
theorem in_sign (c : Nat) (t : List Nat) : gIn (.str [c]) (.str t) = some (decide (c ∈ t)) := by
  simp [gIn, gInC]
theorem inT {F G : M Op} {E : EnvS} {c : Nat} {t : List Nat} (h1 : F E = .ok (.val (.str [c])) E) (h2 : G E = .ok (.val (.str t)) E) : cCmpT gIn F G E = .ok (decide (c ∈ t)) E := by
  simp [cCmpT, M.bind, h1, h2, lift2, deref, in_sign]
def cpC : M Op := cLc [2, 3] (.many [2, 3]) (cItV (cSl (cVar 0) (cPart (some (cUn gNeg (cC (.int 4))))) (cPart none))) (mOk true) (cVar 2)
def cpR : M Op := cAnd (cCmp gEq (cCall gLen (cConsO (cVar 1) (cNilO))) (cC (.int 4))) (cAnd (cCmp gEq (cBin gIx (cVar 1) (cC (.int 0))) (cC (.str [40]))) (cAnd (cCmp gIn (cBin gIx (cVar 1) (cC (.int 2))) (cSl (cC (.str [33, 38, 124, 94])) (cPart (some (cC (.int 1)))) (cPart none))) (cChain gEq gEq (cBin gIx (cVar 1) (cC (.int 1))) (cBin gIx (cVar 1) (cC (.int 3))) (cC (.str [119, 104, 111, 108, 101])))))
theorem cp_split (C : Str → M Op) : cb_is_closed_pair C = cSeq (cAsg 1 cpC) (cSeq (cRet cpR) cNext) := rfl
theorem cpC_ok (g q o : Nat) (r : List It) : cpC [.own true (stk (.wh :: .sg g q :: .wh :: .sg 40 o :: r)), .none, .none, .none] = .ok (.fresh (.lst [.str [40], .str sWhole, .str [g], .str sWhole])) [.own true (stk (.wh :: .sg g q :: .wh :: .sg 40 o :: r)), .none, .none, .none] := by
  have hc := cut_4 (dI (.sg 40 o)) (dI .wh) (dI (.sg g q)) (dI .wh) (r.map dI)
  have e1 : cSl (cVar 0) (cPart (some (cUn gNeg (cC (.int 4))))) (cPart none) [.own true (stk (.wh :: .sg g q :: .wh :: .sg 40 o :: r)), .none, .none, .none] = .ok (.fresh (.lst [dI (.sg 40 o), dI .wh, dI (.sg g q), dI .wh])) [.own true (stk (.wh :: .sg g q :: .wh :: .sg 40 o :: r)), .none, .none, .none] := by
    have g0 : gSl (some (-4)) none (stk (.wh :: .sg g q :: .wh :: .sg 40 o :: r)) = some (.fresh (.lst [dI (.sg 40 o), dI .wh, dI (.sg g q), dI .wh])) := by
      show some (Op.fresh (.lst (Ev.cut (dI .wh :: dI (.sg g q) :: dI .wh :: dI (.sg 40 o) :: r.map dI).reverse (some (-4)) none))) = _
      rw [hc]
    have h0 : cVar 0 [.own true (stk (.wh :: .sg g q :: .wh :: .sg 40 o :: r)), .none, .none, .none] = .ok (.place 0) [.own true (stk (.wh :: .sg g q :: .wh :: .sg 40 o :: r)), .none, .none, .none] := rfl
    have h1 : cPart (some (cUn gNeg (cC (.int 4)))) [.own true (stk (.wh :: .sg g q :: .wh :: .sg 40 o :: r)), .none, .none, .none] = .ok (some (-4)) [.own true (stk (.wh :: .sg g q :: .wh :: .sg 40 o :: r)), .none, .none, .none] := rfl
    have h2 : cPart none [.own true (stk (.wh :: .sg g q :: .wh :: .sg 40 o :: r)), .none, .none, .none] = .ok none [.own true (stk (.wh :: .sg g q :: .wh :: .sg 40 o :: r)), .none, .none, .none] := rfl
    have h3 : deref [.own true (stk (.wh :: .sg g q :: .wh :: .sg 40 o :: r)), .none, .none, .none] (.place 0) = some (stk (.wh :: .sg g q :: .wh :: .sg 40 o :: r)) := rfl
    unfold cSl M.bind
    rw [h0]
    dsimp only
    rw [h1]
    dsimp only
    rw [h2]
    dsimp only
    unfold lift1
    rw [h3]
    dsimp only
    rw [g0]
  have e2 : cItV (cSl (cVar 0) (cPart (some (cUn gNeg (cC (.int 4))))) (cPart none)) [.own true (stk (.wh :: .sg g q :: .wh :: .sg 40 o :: r)), .none, .none, .none] = .ok [dI (.sg 40 o), dI .wh, dI (.sg g q), dI .wh] [.own true (stk (.wh :: .sg g q :: .wh :: .sg 40 o :: r)), .none, .none, .none] := by
    simp only [cItV, M.bind, e1, Ev.esc, mOk]
    rfl
  have e3 : compL [2, 3] (.many [2, 3]) (mOk true) (cVar 2) [dI (.sg 40 o), dI .wh, dI (.sg g q), dI .wh] [] [.own true (stk (.wh :: .sg g q :: .wh :: .sg 40 o :: r)), .none, .none, .none] = .ok [.str [40], .str sWhole, .str [g], .str sWhole] [.own true (stk (.wh :: .sg g q :: .wh :: .sg 40 o :: r)), .none, .none, .none] := rfl
  exact cLc_eq (T := .many [2, 3]) e2 e3
theorem cpR_ok (g : Nat) (W : D) : cpR [.own true W, .own false (.lst [.str [40], .str sWhole, .str [g], .str sWhole]), .none, .none] = .ok (.val (.bl (isGate g))) [.own true W, .own false (.lst [.str [40], .str sWhole, .str [g], .str sWhole]), .none, .none] := by
  have hg : gIn (.str [g]) (.str [38, 124, 94]) = some (isGate g) := in_sign g [38, 124, 94]
  have e1 : cCmp gEq (cCall gLen (cConsO (cVar 1) (cNilO))) (cC (.int 4)) [.own true W, .own false (.lst [.str [40], .str sWhole, .str [g], .str sWhole]), .none, .none] = .ok (.val (.bl true)) [.own true W, .own false (.lst [.str [40], .str sWhole, .str [g], .str sWhole]), .none, .none] := rfl
  have e2 : cCmp gEq (cBin gIx (cVar 1) (cC (.int 0))) (cC (.str [40])) [.own true W, .own false (.lst [.str [40], .str sWhole, .str [g], .str sWhole]), .none, .none] = .ok (.val (.bl true)) [.own true W, .own false (.lst [.str [40], .str sWhole, .str [g], .str sWhole]), .none, .none] := rfl
  have e3 : cBin gIx (cVar 1) (cC (.int 2)) [.own true W, .own false (.lst [.str [40], .str sWhole, .str [g], .str sWhole]), .none, .none] = .ok (.val (.str [g])) [.own true W, .own false (.lst [.str [40], .str sWhole, .str [g], .str sWhole]), .none, .none] := rfl
  have e4 : cSl (cC (.str [33, 38, 124, 94])) (cPart (some (cC (.int 1)))) (cPart none) [.own true W, .own false (.lst [.str [40], .str sWhole, .str [g], .str sWhole]), .none, .none] = .ok (.val (.str [38, 124, 94])) [.own true W, .own false (.lst [.str [40], .str sWhole, .str [g], .str sWhole]), .none, .none] := rfl
  have e5 : cChain gEq gEq (cBin gIx (cVar 1) (cC (.int 1))) (cBin gIx (cVar 1) (cC (.int 3))) (cC (.str [119, 104, 111, 108, 101])) [.own true W, .own false (.lst [.str [40], .str sWhole, .str [g], .str sWhole]), .none, .none] = .ok (.val (.bl true)) [.own true W, .own false (.lst [.str [40], .str sWhole, .str [g], .str sWhole]), .none, .none] := rfl
  unfold cpR
  generalize cChain gEq gEq (cBin gIx (cVar 1) (cC (.int 1))) (cBin gIx (cVar 1) (cC (.int 3))) (cC (.str [119, 104, 111, 108, 101])) = Q at e5 ⊢
  generalize cCmp gEq (cCall gLen (cConsO (cVar 1) (cNilO))) (cC (.int 4)) = Q1 at e1 ⊢
  generalize cCmp gEq (cBin gIx (cVar 1) (cC (.int 0))) (cC (.str [40])) = Q2 at e2 ⊢
  have e6 : cCmp gIn (cBin gIx (cVar 1) (cC (.int 2))) (cSl (cC (.str [33, 38, 124, 94])) (cPart (some (cC (.int 1)))) (cPart none)) [.own true W, .own false (.lst [.str [40], .str sWhole, .str [g], .str sWhole]), .none, .none] = .ok (.val (.bl (isGate g))) [.own true W, .own false (.lst [.str [40], .str sWhole, .str [g], .str sWhole]), .none, .none] := by
    unfold cCmp M.bind
    rw [e3]
    dsimp only
    rw [e4]
    simp [lift2, deref, hg, mOk]
  generalize cCmp gIn (cBin gIx (cVar 1) (cC (.int 2))) (cSl (cC (.str [33, 38, 124, 94])) (cPart (some (cC (.int 1)))) (cPart none)) = Q3 at e6 ⊢
  cases hb : isGate g with
  | false =>
    rw [hb] at e6
    simp [cAnd, M.bind, e1, e2, e6, truO, lift1, deref, truD, mOk]
  | true =>
    rw [hb] at e6
    simp [cAnd, M.bind, e1, e2, e5, e6, truO, lift1, deref, truD, mOk]
theorem cp_ok (n g q o : Nat) (r : List It) : callN tab (n + 1) "is_closed_pair" [.own true (stk (.wh :: .sg g q :: .wh :: .sg 40 o :: r))] = .ok (.val (.bl (isGate g))) [.own true (stk (.wh :: .sg g q :: .wh :: .sg 40 o :: r))] := by
  rw [call_is_closed_pair]
  have e1 := asg_fresh (i := 1) (cpC_ok g q o r)
  have e2 := cpR_ok g (stk (.wh :: .sg g q :: .wh :: .sg 40 o :: r))
  have e3 : cSeq (cAsg 1 cpC) (cSeq (cRet cpR) cNext) [.own true (stk (.wh :: .sg g q :: .wh :: .sg 40 o :: r)), .none, .none, .none] = .rt (.val (.bl (isGate g))) [.own true (stk (.wh :: .sg g q :: .wh :: .sg 40 o :: r)), .own false (.lst [.str [40], .str sWhole, .str [g], .str sWhole]), .none, .none] := by
    refine (cSeq_nx e1).trans ?_
    show cSeq (cRet cpR) cNext [.own true (stk (.wh :: .sg g q :: .wh :: .sg 40 o :: r)), .own false (.lst [.str [40], .str sWhole, .str [g], .str sWhole]), .none, .none] = _
    refine cSeq_rt ?_
    unfold cRet MS.of
    rw [e2]
  rw [cp_split]
  exact runF_rt (k := 4) (sl := [.own true (stk (.wh :: .sg g q :: .wh :: .sg 40 o :: r))]) e3
end La
set_option Elab.async false
set_option linter.all false
set_option autoImplicit false
set_option maxRecDepth 100000
set_option maxHeartbeats 4000000
namespace La
open PySem PySem.Spec L2 Ev
open PyProof.Rows hiding St
/-! ### steps_of on a net -/
theorem ifS_f' {c : M Bool} {a b : MS} {δ δ1 : EnvS} (h : c δ = .ok false δ1) : cIfS c a b δ = b δ1 := by
  unfold cIfS MS.of; rw [h]; rfl
structure SoC (C : Str → M Op) : Prop where
  cp : ∀ (g q o : Nat) (r : List It), C "is_closed_pair" [.own true (stk (.wh :: .sg g q :: .wh :: .sg 40 o :: r))] = .ok (.val (.bl (isGate g))) [.own true (stk (.wh :: .sg g q :: .wh :: .sg 40 o :: r))]
  ct : ∀ (r : List It) (S : List (Nat × Nat)), r.length < 80 → r.length + S.length ≤ 1000 → C "close_turned" [.own true (stk (.wh :: r)), .own true (sps S)] = .ok (.val .non) [.own true (stk (.wh :: (clo r S).1)), .own true (sps (clo r S).2)]
section
variable {C : Str → M Op} {net : List Nat}
theorem sA4_ok (x : It) (r : List It) (S : List (Nat × Nat)) (p c : Nat) : sA4 (EP net (x :: r) S p c) = .ok (decide (it0 x = sWhole)) (EP net (x :: r) S p c) := by
  have h2 : cBin gIx (cVar 1) (cUn gNeg (cC (.int 1))) (EP net (x :: r) S p c) = .ok (.val (dI x)) (EP net (x :: r) S p c) := ix_pl (i := 1) (io := false) rfl rfl rfl (top1 (dI x) (r.map dI))
  exact eqT_ss (c := sWhole) (ix_vl (G := cC (.int 0)) (b := .int 0) h2 rfl (ix0 x)) rfl
theorem sCT_ok (h : SoC C) (r : List It) (S : List (Nat × Nat)) (p c : Nat) (hr : r.length < 80) (hS : r.length + S.length ≤ 1000) : sCT C (EP net (.wh :: r) S p c) = .nx (EP net (.wh :: (clo r S).1) (clo r S).2 p c) := by
  have e : cCallF (C "close_turned") (takesN 2 (cAIo 1 (cAIo 2 (cANil)))) (EP net (.wh :: r) S p c) = .ok (.val .non) (EP net (.wh :: (clo r S).1) (clo r S).2 p c) :=
    callF_eq (fa := cAIo 1 (cAIo 2 cANil)) (k := 2) (as := [.io 1, .io 2]) (δ := EP net (.wh :: r) S p c) (δ1 := EP net (.wh :: r) S p c) rfl rfl rfl rfl (h.ct r S hr hS)
  unfold sCT
  refine (cSeq_nx (δ1 := EP net (.wh :: (clo r S).1) (clo r S).2 p c) ?_).trans rfl
  unfold cDrop MS.of
  rw [e]
theorem tail_wh (h : SoC C) (r : List It) (S : List (Nat × Nat)) (p c : Nat) (hr : r.length < 80) (hS : r.length + S.length ≤ 1000) : cSeq (cIfS sA4 (sCT C) cNext) cNext (EP net (.wh :: r) S p c) = .nx (EP net (.wh :: (clo r S).1) (clo r S).2 p c) := by
  refine (cSeq_nx (δ1 := EP net (.wh :: (clo r S).1) (clo r S).2 p c) ?_).trans rfl
  rw [cIfS_true (sA4_ok .wh r S p c)]
  exact sCT_ok h r S p c hr hS
theorem tail_sg (x q : Nat) (r : List It) (S : List (Nat × Nat)) (p c : Nat) : cSeq (cIfS sA4 (sCT C) cNext) cNext (EP net (.sg x q :: r) S p c) = .nx (EP net (.sg x q :: r) S p c) := by
  refine (cSeq_nx (δ1 := EP net (.sg x q :: r) S p c) ?_).trans rfl
  have e : decide (it0 (.sg x q) = sWhole) = false := by
    show decide ([x] = sWhole) = false
    exact decide_eq_false (fun z => by cases z)
  rw [ifS_f' (by have := sA4_ok (net := net) (.sg x q) r S p c; rw [e] at this; exact this)]
  rfl
theorem sA1_ok (r : List It) (S : List (Nat × Nat)) (p c : Nat) : sA1 (EP net r S p c) = .ok (Net.isFig c) (EP net r S p c) := inT rfl rfl
theorem sX1_ok (r : List It) (S : List (Nat × Nat)) (p c : Nat) (hr : r.length ≤ 500) (hS : S.length ≤ 500) : sX1 (EP net r S p c) = .nx (EP net (.wh :: r) (S ++ [(p, c)]) p c) := by
  have h4 : cTup (cCons (cVar 3) (cCons (cVar 4) (cNil))) (EP net r S p c) = .ok (.val (dP (p, c))) (EP net r S p c) := tup2 rfl rfl
  have h5 := meth_app (i := 2) (io := false) (c := sps S) (E := EP net r S p c) rfl rfl h4 (app_sps S (p, c) (by omega))
  have h6 := meth_app (i := 1) (io := false) (c := stk r) (c' := stk (.wh :: r)) (F := cTup (cCons (cC (.str [119, 104, 111, 108, 101])) (cCons (cC .non) (cNil)))) (x := dI .wh) (E := EP net r (S ++ [(p, c)]) p c) rfl rfl rfl (app_st (r.map dI) (dI .wh) (by simp; omega))
  exact (cSeq_nx h5).trans ((cSeq_nx h6).trans rfl)
theorem sX3_ok (r : List It) (S : List (Nat × Nat)) (p c : Nat) (hr : r.length ≤ 500) : sX3 (EP net r S p c) = .nx (EP net (.sg c p :: r) S p c) := by
  have h4 : cTup (cCons (cVar 4) (cCons (cVar 3) (cNil))) (EP net r S p c) = .ok (.val (dI (.sg c p))) (EP net r S p c) := tup2 rfl rfl
  have h6 := meth_app (i := 1) (io := false) (c := stk r) (c' := stk (.sg c p :: r)) (x := dI (.sg c p)) (E := EP net r S p c) rfl rfl h4 (app_st (r.map dI) (dI (.sg c p)) (by simp; omega))
  exact (cSeq_nx h6).trans rfl
theorem sX2_ok (g q o : Nat) (r : List It) (S : List (Nat × Nat)) (p c : Nat) (hr : r.length ≤ 500) (hS : S.length ≤ 500) : sX2 (EP net (.wh :: .sg g q :: .wh :: .sg 40 o :: r) S p c) = .nx (EP net (.wh :: r) (S ++ [(q, g)]) p c) := by
  have h2 : cBin gIx (cVar 1) (cUn gNeg (cC (.int 2))) (EP net (.wh :: .sg g q :: .wh :: .sg 40 o :: r) S p c) = .ok (.val (dI (.sg g q))) (EP net (.wh :: .sg g q :: .wh :: .sg 40 o :: r) S p c) := ix_pl (i := 1) (io := false) rfl rfl rfl (top2 (dI .wh) (dI (.sg g q)) (dI .wh :: dI (.sg 40 o) :: r.map dI))
  have h3 := ix_vl (G := cC (.int 1)) (b := .int 1) (r := .int (q : Nat)) h2 rfl rfl
  have h3b := ix_vl (G := cC (.int 0)) (b := .int 0) (r := .str [g]) h2 rfl rfl
  have h4 := tup2 h3 h3b
  have h5 := meth_app (i := 2) (io := false) (c := sps S) rfl rfl h4 (app_sps S (q, g) (by omega))
  have h6 : cAssign (tgSl 1 (cPart (some (cUn gNeg (cC (.int 4))))) (cPart none)) (cLst (cCons (cTup (cCons (cC (.str [119, 104, 111, 108, 101])) (cCons (cC .non) (cNil)))) (cNil))) (EP net (.wh :: .sg g q :: .wh :: .sg 40 o :: r) (S ++ [(q, g)]) p c) = .nx (EP net (.wh :: r) (S ++ [(q, g)]) p c) :=
    asg_sl (i := 1) (io := false) (c := stk (.wh :: .sg g q :: .wh :: .sg 40 o :: r)) (lo := some (-4)) (x := .lst [dI .wh]) rfl rfl rfl (gsl_k [.wh, .sg g q, .wh, .sg 40 o] r 4 (by decide) rfl (by omega) (by decide))
  exact (cSeq_nx h5).trans ((cSeq_nx h6).trans rfl)
theorem eq41 (r : List It) (S : List (Nat × Nat)) (p c : Nat) : cCmpT gEq (cVar 4) (cC (.str [41])) (EP net r S p c) = .ok (decide (c = 41)) (EP net r S p c) := by
  have e := eqT_ss (F := cVar 4) (G := cC (.str [41])) (E := EP net r S p c) (a := [c]) (c := [41]) rfl rfl
  have : decide ([c] = [41]) = decide (c = 41) := by
    rw [Bool.eq_iff_iff]
    simp
  rw [this] at e
  exact e
theorem sA2_no (r : List It) (S : List (Nat × Nat)) (p c : Nat) (hc : c ≠ 41) : sA2 C (EP net r S p c) = .ok false (EP net r S p c) := by
  have e := eq41 (net := net) r S p c
  rw [decide_eq_false hc] at e
  exact andT (a := false) (b := false) e fun z => nomatch z
theorem sA2_yes (h : SoC C) (g q o : Nat) (r : List It) (S : List (Nat × Nat)) (p : Nat) (hg : isGate g = true) : sA2 C (EP net (.wh :: .sg g q :: .wh :: .sg 40 o :: r) S p 41) = .ok true (EP net (.wh :: .sg g q :: .wh :: .sg 40 o :: r) S p 41) := by
  have e := eq41 (net := net) (.wh :: .sg g q :: .wh :: .sg 40 o :: r) S p 41
  have e1 : cCallF (C "is_closed_pair") (takesN 1 (cAIo 1 (cANil))) (EP net (.wh :: .sg g q :: .wh :: .sg 40 o :: r) S p 41) = .ok (.val (.bl (isGate g))) (EP net (.wh :: .sg g q :: .wh :: .sg 40 o :: r) S p 41) :=
    callF_eq (fa := cAIo 1 cANil) (k := 1) (as := [.io 1]) (δ := EP net (.wh :: .sg g q :: .wh :: .sg 40 o :: r) S p 41) (δ1 := EP net (.wh :: .sg g q :: .wh :: .sg 40 o :: r) S p 41) rfl rfl rfl rfl (h.cp g q o r)
  rw [hg] at e1
  exact andT (a := true) (b := true) e fun _ => by
    show cTru (cCallF (C "is_closed_pair") (takesN 1 (cAIo 1 (cANil)))) _ = _
    simp [cTru, M.bind, e1, truO, lift1, deref, truD]
theorem sA3_ok (r : List It) (S : List (Nat × Nat)) (p c : Nat) : sA3 (EP net r S p c) = .ok (decide (c ∈ [33, 38, 124, 94, 40])) (EP net r S p c) := inT rfl rfl
theorem sB_ok (h : SoC C) {p c : Nat} {r r' : List It} {S S' : List (Nat × Nat)} (e : stp p c r S = some (r', S')) (hr : r.length < 79) (hS : r.length + S.length ≤ 400) : sB C (EP net r S p c) = .nx (EP net r' S' p c) := by
  have a1 := sA1_ok (net := net) r S p c
  unfold stp at e
  cases hf : Net.isFig c with
  | true =>
    rw [hf, if_pos rfl] at e
    cases e
    rw [hf] at a1
    unfold sB
    refine (cSeq_nx (δ1 := EP net (.wh :: r) (S ++ [(p, c)]) p c) ?_).trans ?_
    · rw [cIfS_true a1]
      exact sX1_ok r S p c (by omega) (by omega)
    · exact tail_wh h r (S ++ [(p, c)]) p c (by omega) (by simp; omega)
  | false =>
    rw [hf, if_neg Bool.false_ne_true] at e
    rw [hf] at a1
    by_cases hc : c = 41
    · subst hc
      rw [if_pos rfl] at e
      split at e
      · rename_i g q o r0
        split at e
        · rename_i hg
          cases e
          have hr : r0.length + 4 < 79 := hr
          have hS : (r0.length + 4) + S.length ≤ 400 := hS
          unfold sB
          refine (cSeq_nx (δ1 := EP net (.wh :: r0) (S ++ [(q, g)]) p 41) ?_).trans ?_
          · rw [ifS_f' a1]
            refine (cSeq_nx (δ1 := EP net (.wh :: r0) (S ++ [(q, g)]) p 41) ?_).trans rfl
            rw [cIfS_true (sA2_yes h g q o r0 S p hg)]
            exact sX2_ok g q o r0 S p 41 (by omega) (by omega)
          · exact tail_wh h r0 (S ++ [(q, g)]) p 41 (by omega) (by simp; omega)
        · cases e
      · cases e
    · rw [if_neg hc] at e
      split at e
      · rename_i hp
        cases e
        unfold sB
        refine (cSeq_nx (δ1 := EP net (.sg c p :: r) S p c) ?_).trans ?_
        · rw [ifS_f' a1]
          refine (cSeq_nx (δ1 := EP net (.sg c p :: r) S p c) ?_).trans rfl
          rw [ifS_f' (sA2_no r S p c hc)]
          refine (cSeq_nx (δ1 := EP net (.sg c p :: r) S p c) ?_).trans rfl
          have a3 := sA3_ok (net := net) r S p c
          rw [decide_eq_true hp] at a3
          rw [cIfS_true a3]
          exact sX3_ok r S p c (by omega)
        · exact tail_sg c p r S p c
      · cases e
/-! #### the whole text -/
def runM : Nat → List Nat → List It × List (Nat × Nat) → Option (List It × List (Nat × Nat))
  | _, [], s => some s
  | p, c :: cs, s => (stp p c s.1 s.2).bind (runM (p + 1) cs)
theorem runM_app : ∀ (xs ys : List Nat) (p : Nat) (s : List It × List (Nat × Nat)), runM p (xs ++ ys) s = (runM p xs s).bind (runM (p + xs.length) ys)
  | [], ys, p, s => rfl
  | c :: xs, ys, p, s => by
    show (stp p c s.1 s.2).bind (runM (p + 1) (xs ++ ys)) = ((stp p c s.1 s.2).bind (runM (p + 1) xs)).bind _
    cases stp p c s.1 s.2 with
    | none => rfl
    | some s2 =>
      show runM (p + 1) (xs ++ ys) s2 = (runM (p + 1) xs s2).bind _
      rw [runM_app xs ys (p + 1) s2]
      have : p + 1 + xs.length = p + (c :: xs).length := by simp; omega
      rw [this]
def steps : Net → Nat → List (Nat × Nat)
  | .fig c, p => [(p, c)]
  | .neg t, p => steps t (p + 1) ++ [(p, 33)]
  | .pair g a b, p => steps a (p + 1) ++ (steps b (p + 1 + (Net.txt a).length + 1) ++ [(p + 1 + (Net.txt a).length, g)])
theorem stp_gate {g : Nat} (hg : g = 38 ∨ g = 124 ∨ g = 94) (p : Nat) (r : List It) (S : List (Nat × Nat)) : stp p g r S = some (.sg g p :: r, S) := by
  rcases hg with rfl | rfl | rfl <;> rfl
theorem clo_gate {g : Nat} (hg : g = 38 ∨ g = 124 ∨ g = 94) (p : Nat) (r : List It) (S : List (Nat × Nat)) : clo (.sg g p :: r) S = (.sg g p :: r, S) := by
  rcases hg with rfl | rfl | rfl <;> rfl
theorem run_txt : ∀ (t : Net), Net.ok t → ∀ (p : Nat) (r : List It) (S : List (Nat × Nat)), runM p (Net.txt t) (r, S) = some (.wh :: (clo r (S ++ steps t p)).1, (clo r (S ++ steps t p)).2)
  | .fig c, h, p, r, S => by
    have hf := Net.fig_is h
    show (stp p c r S).bind (runM (p + 1) []) = _
    unfold stp
    rw [hf, if_pos rfl]
    rfl
  | .neg t, h, p, r, S => by
    have ih := run_txt t h (p + 1) (.sg 33 p :: r) S
    show (stp p 33 r S).bind (runM (p + 1) (Net.txt t)) = _
    have e : stp p 33 r S = some (.sg 33 p :: r, S) := rfl
    rw [e]
    show runM (p + 1) (Net.txt t) (.sg 33 p :: r, S) = _
    rw [ih]
    have e2 : clo (.sg 33 p :: r) (S ++ steps t (p + 1)) = clo r (S ++ steps (.neg t) p) := by
      show (if (33 : Nat) = 33 then clo r (S ++ steps t (p + 1) ++ [(p, 33)]) else _) = clo r (S ++ (steps t (p + 1) ++ [(p, 33)]))
      rw [if_pos rfl, List.append_assoc]
    rw [e2]
  | .pair g a b, ⟨hg, ha, hb⟩, p, r, S => by
    have h1 := run_txt a ha (p + 1) (.sg 40 p :: r) S
    have e1 : clo (.sg 40 p :: r) (S ++ steps a (p + 1)) = (.sg 40 p :: r, S ++ steps a (p + 1)) := rfl
    rw [e1] at h1
    have h2 := run_txt b hb (p + 1 + (Net.txt a).length + 1) (.sg g (p + 1 + (Net.txt a).length) :: .wh :: .sg 40 p :: r) (S ++ steps a (p + 1))
    rw [clo_gate hg] at h2
    show (stp p 40 r S).bind (runM (p + 1) (Net.txt a ++ g :: (Net.txt b ++ [41]))) = _
    have e : stp p 40 r S = some (.sg 40 p :: r, S) := rfl
    rw [e]
    show runM (p + 1) (Net.txt a ++ g :: (Net.txt b ++ [41])) (.sg 40 p :: r, S) = _
    rw [runM_app, h1]
    show runM (p + 1 + (Net.txt a).length) (g :: (Net.txt b ++ [41])) (.wh :: .sg 40 p :: r, S ++ steps a (p + 1)) = _
    show (stp (p + 1 + (Net.txt a).length) g (.wh :: .sg 40 p :: r) (S ++ steps a (p + 1))).bind (runM (p + 1 + (Net.txt a).length + 1) (Net.txt b ++ [41])) = _
    rw [stp_gate hg]
    show runM (p + 1 + (Net.txt a).length + 1) (Net.txt b ++ [41]) (.sg g (p + 1 + (Net.txt a).length) :: .wh :: .sg 40 p :: r, S ++ steps a (p + 1)) = _
    rw [runM_app, h2]
    have hg2 : isGate g = true := by rcases hg with rfl | rfl | rfl <;> rfl
    show (stp _ 41 (.wh :: .sg g (p + 1 + (Net.txt a).length) :: .wh :: .sg 40 p :: r) (S ++ steps a (p + 1) ++ steps b (p + 1 + (Net.txt a).length + 1))).bind (runM _ []) = _
    have e3 : ∀ z, stp z 41 (.wh :: .sg g (p + 1 + (Net.txt a).length) :: .wh :: .sg 40 p :: r) (S ++ steps a (p + 1) ++ steps b (p + 1 + (Net.txt a).length + 1)) = some (.wh :: (clo r (S ++ steps a (p + 1) ++ steps b (p + 1 + (Net.txt a).length + 1) ++ [(p + 1 + (Net.txt a).length, g)])).1, (clo r (S ++ steps a (p + 1) ++ steps b (p + 1 + (Net.txt a).length + 1) ++ [(p + 1 + (Net.txt a).length, g)])).2) := fun z => by
      show (if isGate g = true then some _ else none) = _
      rw [if_pos hg2]
    rw [e3]
    have e4 : S ++ steps a (p + 1) ++ steps b (p + 1 + (Net.txt a).length + 1) ++ [(p + 1 + (Net.txt a).length, g)] = S ++ steps (.pair g a b) p := by
      show _ = S ++ (steps a (p + 1) ++ (steps b (p + 1 + (Net.txt a).length + 1) ++ [(p + 1 + (Net.txt a).length, g)]))
      simp
    rw [e4]
    rfl
theorem stp_len {p c : Nat} {r r' : List It} {S S' : List (Nat × Nat)} (e : stp p c r S = some (r', S')) : r'.length ≤ r.length + 1 ∧ r'.length + S'.length ≤ r.length + S.length + 2 := by
  unfold stp at e
  split at e
  · cases e
    have := clo_len r (S ++ [(p, c)])
    simp at this ⊢
    omega
  · split at e
    · split at e
      · rename_i g q o r0
        split at e
        · cases e
          have := clo_len r0 (S ++ [(q, g)])
          simp at this ⊢
          omega
        · cases e
      · cases e
    · split at e
      · cases e
        simp
        omega
      · cases e
theorem so_loop (h : SoC C) (m0 : EnvS) (hm : ∀ r S p c, maskE m0 (EP net r S p c) = ES net r S .none .none) : ∀ (cs : List Nat) (p : Nat) (r r' : List It) (S S' : List (Nat × Nat)), runM p cs (r, S) = some (r', S') → r.length ≤ p → r.length + S.length ≤ 2 * p → p + cs.length ≤ 78 →
    forL m0 (.many [3, 4]) (sB C) (enumFrom p (cs.map fun c => D.str [c])) (ES net r S .none .none) = .nx (ES net r' S' .none .none)
  | [], p, r, r', S, S', e, _, _, _ => by cases e; rfl
  | c :: cs, p, r, r', S, S', e, hr, hS, hp => by
    have e : (stp p c r S).bind (runM (p + 1) cs) = some (r', S') := e
    cases e1 : stp p c r S with
    | none => rw [e1] at e; cases e
    | some q =>
      obtain ⟨r1, S1⟩ := q
      rw [e1] at e
      have e : runM (p + 1) cs (r1, S1) = some (r', S') := e
      have hp' : p + (cs.length + 1) ≤ 78 := hp
      obtain ⟨l1, l2⟩ := stp_len e1
      have b := sB_ok (net := net) h e1 (by omega) (by omega)
      show forL m0 (.many [3, 4]) (sB C) (.tup [.int (p : Nat), .str [c]] :: enumFrom (p + 1) (cs.map fun c => D.str [c])) (ES net r S .none .none) = _
      unfold forL MS.of
      have t : tgF (.many [3, 4]) (.tup [.int (p : Nat), .str [c]]) (ES net r S .none .none) = .ok () (EP net r S p c) := rfl
      rw [t]
      dsimp only
      rw [b]
      dsimp only
      rw [hm]
      exact so_loop h m0 hm cs (p + 1) r1 r' S1 S' e (by omega) (by omega) (by omega)
theorem len_tx {t : List Nat} (h : t.length ≤ 1000) {E : EnvS} {i : Nat} (hi : cVar i E = .ok (.val (.str t)) E) : cCall gLen (cConsO (cVar i) (cNilO)) E = .ok (.val (.int (t.length : Nat))) E := by
  have hf : fits t.length = true := by unfold fits; exact decide_eq_true (by omega)
  simp [cCall, cConsO, M.bind, hi, cNilO, mOk, liftN, derefs, deref, gLen, hf]
theorem sG_ok {x1 x2 x3 x4 : Slot} (hl : net.length ≤ 60) : sG [.val (.str net), x1, x2, x3, x4] = .ok false [.val (.str net), x1, x2, x3, x4] := by
  have h1 : cTru (cCall gIsi (cConsO (cVar 0) (cConsO (cC (.ty "str")) (cNilO)))) [.val (.str net), x1, x2, x3, x4] = .ok true [.val (.str net), x1, x2, x3, x4] := rfl
  have h2 := gt_len 60 (len_tx (t := net) (by omega) (E := [.val (.str net), x1, x2, x3, x4]) (i := 0) rfl)
  rw [decide_eq_false (by omega)] at h2
  unfold sG cOrT cNotT M.bind
  rw [h1]
  exact h2
theorem sEnd_ok (S : List (Nat × Nat)) : sEnd (ES net [.wh] S .none .none) = .rt (.place 2) (ES net [.wh] S .none .none) := by
  have h1 : cCmpT gEq (cVar 1) (cLst (cCons (cTup (cCons (cC (.str [119, 104, 111, 108, 101])) (cCons (cC .non) (cNil)))) (cNil))) (ES net [.wh] S .none .none) = .ok true (ES net [.wh] S .none .none) := by kernel_rfl
  have h2 : cVar 2 (ES net [.wh] S .none .none) = .ok (.place 2) (ES net [.wh] S .none .none) := rfl
  unfold sEnd
  refine cSeq_rt ?_
  unfold cRet MS.of cIf M.bind
  rw [h1]
  dsimp only
  rw [if_pos rfl, h2]
theorem so_gen (h : SoC C) (t : Net) (ht : Net.ok t) (hl : (Net.txt t).length ≤ 60) : runF 5 (cb_steps_of C) [.val (.str (Net.txt t))] = .ok (.fresh (sps (steps t 0))) [.none] := by
  have e1 : cIfS sG (cSeq (cRet (cC .non)) (cNext)) (cNext) [.val (.str (Net.txt t)), .none, .none, .none, .none] = .nx [.val (.str (Net.txt t)), .none, .none, .none, .none] := by
    rw [ifS_f' (sG_ok hl)]; rfl
  have e2 : cParE 1 2 [.val (.str (Net.txt t)), .none, .none, .none, .none] = .nx (ES (Net.txt t) [] [] .none .none) := rfl
  have e3 := so_loop (net := Net.txt t) h (ES (Net.txt t) [] [] .none .none) (fun _ _ _ _ => rfl) (Net.txt t) 0 [] _ [] _ (run_txt t ht 0 [] []) (Nat.le_refl _) (Nat.le_refl _) (by omega)
  have e4 : cRng enumD (cCons (cVar 0) (cNil)) (ES (Net.txt t) [] [] .none .none) = .ok (enumFrom 0 ((Net.txt t).map fun c => D.str [c])) (ES (Net.txt t) [] [] .none .none) := rfl
  have e5 : cFor (.many [3, 4]) (cRng enumD (cCons (cVar 0) (cNil))) (sB C) (ES (Net.txt t) [] [] .none .none) = .nx (ES (Net.txt t) [.wh] (steps t 0) .none .none) := by
    unfold cFor MS.of
    rw [e4]
    exact e3
  have e6 : cb_steps_of C [.val (.str (Net.txt t)), .none, .none, .none, .none] = .rt (.place 2) (ES (Net.txt t) [.wh] (steps t 0) .none .none) := by
    rw [so_split]
    exact (cSeq_nx e1).trans ((cSeq_nx e2).trans ((cSeq_nx e5).trans (sEnd_ok (steps t 0))))
  unfold runF
  show (match cb_steps_of C [.val (.str (Net.txt t)), .none, .none, .none, .none] with | .rt o δ' => exitR [.val (.str (Net.txt t))] o δ' | .nx δ' => .ok (.val .non) (exitS [.val (.str (Net.txt t))] δ') | .ex e δ' => .ex e (exitS [.val (.str (Net.txt t))] δ') | _ => .bad) = _
  rw [e6]
  rfl
end
theorem so_ok (n : Nat) (t : Net) (ht : Net.ok t) (hl : (Net.txt t).length ≤ 60) : callN tab (n + 2) "steps_of" [.val (.str (Net.txt t))] = .ok (.fresh (sps (steps t 0))) [.none] := by
  rw [call_steps_of]
  exact so_gen ⟨fun g q o r => cp_ok n g q o r, fun r S h1 h2 => ct_ok n r S h1 h2⟩ t ht hl
end La
set_option Elab.async false
set_option linter.all false
set_option autoImplicit false
set_option maxRecDepth 100000
set_option maxHeartbeats 4000000
namespace La
open PySem PySem.Spec L2 Ev
open PyProof.Rows hiding St
/-! ### which texts are nets -/
theorem compL_mapG {T : Tgt} {vs : List Nat} {ft : M Bool} {fe : M Op} {δ0 : EnvS} {g : D → D} : ∀ (ds acc : List D), (∀ d ∈ ds, ∃ δt δ1 δ2 δ3 o, tgF T d δ0 = .ok () δt ∧ ft δt = .ok true δ1 ∧ fe δ1 = .ok o δ2 ∧ Ev.esc o δ2 = .ok (g d) δ3 ∧ wipeE δ3 vs = δ0) → acc.length + ds.length ≤ 16777216 →
    compL vs T ft fe ds acc δ0 = .ok (acc ++ ds.map g) δ0
  | [], acc, _, _ => by simp [compL]
  | d :: ds, acc, h, hl => by
    obtain ⟨δt, δ1, δ2, δ3, o, h0, h1, h2, h3, h4⟩ := h d (by simp)
    have hl' : acc.length + 1 ≤ 16777216 := by simp at hl; omega
    have ih := compL_mapG (g := g) (fe := fe) ds (acc ++ [g d]) (fun z hz => h z (by simp [hz])) (by simp at hl ⊢; omega)
    unfold compL
    simp only [M.bind, h0, h1, h2, h3, if_true, h4, ih]
    simp [fits, hl']
theorem drop_nx {F : M Op} {E E1 : EnvS} {o : Op} (h : F E = .ok o E1) : cDrop F E = .nx E1 := by
  unfold cDrop MS.of; rw [h]
theorem ret_val {F : M Op} {E E1 : EnvS} {d : D} (h : F E = .ok (.val d) E1) : cSeq (cRet F) cNext E = .rt (.val d) E1 := by
  unfold cSeq cRet MS.of; rw [h]
theorem runF_nx {k : Nat} {b : MS} {sl : List Slot} {δ' : EnvS} (h : b (sl ++ List.replicate (k - sl.length) .none) = .nx δ') : runF k b sl = .ok (.val .non) (exitS sl δ') := by
  unfold runF
  rw [h]
theorem runF_fr {k : Nat} {b : MS} {sl : List Slot} {δ' : EnvS} {d : D} (h : b (sl ++ List.replicate (k - sl.length) .none) = .rt (.fresh d) δ') : runF k b sl = .ok (.fresh d) (exitS sl δ') := by
  unfold runF
  rw [h]
  rfl
theorem steps_len : ∀ (t : Net) (p : Nat), (steps t p).length ≤ (Net.txt t).length
  | .fig c, p => by simp [steps, Net.txt]
  | .neg t, p => by
    have := steps_len t (p + 1)
    simp [steps, Net.txt]
    omega
  | .pair g a b, p => by
    have h1 := steps_len a (p + 1)
    have h2 := steps_len b (p + 1 + (Net.txt a).length + 1)
    simp [steps, Net.txt]
    omega
abbrev EI (net : List Nat) (x2 x3 x4 : Slot) : EnvS := [.val (.int 4), .val (.str net), x2, x3, x4]
def inL : M Op := cLc [3, 4] (.many [3, 4]) (cItV (cVar 2)) (mOk true) (cCmp gNotIn (cVar 4) (cSl (cC (.str [48, 49, 50, 51])) (cPart (some (cVar 0))) (cPart none)))
theorem in_split (C : Str → M Op) : cb_is_net_of C = cSeq (cAsg 2 (cCallF (C "steps_of") (takesN 1 (cAV (cVar 1) (cANil))))) (cSeq (cRet (cAnd (cCmp gIsNot (cVar 2) (cC .non)) (cCall gAll (cConsO inL (cNilO))))) (cNext)) := rfl
theorem notin_nil (c : Nat) : gNotIn (.str [c]) (.str []) = some true := by
  simp [gNotIn, gInC]
theorem inL_ok (net : List Nat) (S : List (Nat × Nat)) (hS : S.length ≤ 1000) : inL (EI net (.own false (sps S)) .none .none) = .ok (.fresh (.lst (S.map fun _ => D.bl true))) (EI net (.val (sps S)) .none .none) := by
  have e1 : cItV (cVar 2) (EI net (.own false (sps S)) .none .none) = .ok (S.map dP) (EI net (.val (sps S)) .none .none) := rfl
  have e := compL_mapG (T := .many [3, 4]) (vs := [3, 4]) (ft := mOk true) (fe := cCmp gNotIn (cVar 4) (cSl (cC (.str [48, 49, 50, 51])) (cPart (some (cVar 0))) (cPart none))) (δ0 := EI net (.val (sps S)) .none .none) (g := fun _ => D.bl true) (S.map dP) [] (fun d hd => by
    obtain ⟨q, hq, rfl⟩ := List.mem_map.mp hd
    refine ⟨EI net (.val (sps S)) (.val (.int (q.1 : Nat))) (.val (.str [q.2])), EI net (.val (sps S)) (.val (.int (q.1 : Nat))) (.val (.str [q.2])), EI net (.val (sps S)) (.val (.int (q.1 : Nat))) (.val (.str [q.2])), EI net (.val (sps S)) (.val (.int (q.1 : Nat))) (.val (.str [q.2])), .val (.bl true), rfl, rfl, ?_, rfl, rfl⟩
    have h4 : cVar 4 (EI net (.val (sps S)) (.val (.int (q.1 : Nat))) (.val (.str [q.2]))) = .ok (.val (.str [q.2])) (EI net (.val (sps S)) (.val (.int (q.1 : Nat))) (.val (.str [q.2]))) := rfl
    have h5 : cSl (cC (.str [48, 49, 50, 51])) (cPart (some (cVar 0))) (cPart none) (EI net (.val (sps S)) (.val (.int (q.1 : Nat))) (.val (.str [q.2]))) = .ok (.val (.str [])) (EI net (.val (sps S)) (.val (.int (q.1 : Nat))) (.val (.str [q.2]))) := rfl
    unfold cCmp M.bind
    rw [h4]
    dsimp only
    rw [h5]
    simp [lift2, deref, notin_nil]) (by simp; omega)
  rw [List.nil_append, List.map_map] at e
  exact cLc_eq (T := .many [3, 4]) e1 e
theorem in_gen {C : Str → M Op} {net : List Nat} {S : List (Nat × Nat)} (hS : S.length ≤ 1000) (h : C "steps_of" [.val (.str net)] = .ok (.fresh (sps S)) [.none]) : runF 5 (cb_is_net_of C) [.val (.int 4), .val (.str net)] = .ok (.val (.bl true)) [.none, .none] := by
  have h1 : cCallF (C "steps_of") (takesN 1 (cAV (cVar 1) (cANil))) (EI net .none .none .none) = .ok (.fresh (sps S)) (EI net .none .none .none) := callF_eq (fa := cAV (cVar 1) cANil) (k := 1) (as := [.v (.str net)]) (δ := EI net .none .none .none) (δ1 := EI net .none .none .none) rfl rfl rfl rfl h
  have h2 : cCmp gIsNot (cVar 2) (cC .non) (EI net (.own false (sps S)) .none .none) = .ok (.val (.bl true)) (EI net (.own false (sps S)) .none .none) := rfl
  have h3 := inL_ok net S hS
  have hb := bls_map S (fun _ => true)
  have g : gAll [.lst (S.map fun _ => D.bl true)] = some (.val (.bl true)) := by
    have : (S.map fun _ => true).all id = true := by
      rw [List.all_map]
      exact List.all_eq_true.mpr fun _ _ => rfl
    simp [gAll, gBls, listD, hb, this]
  have h4 : cCall gAll (cConsO inL (cNilO)) (EI net (.own false (sps S)) .none .none) = .ok (.val (.bl true)) (EI net (.val (sps S)) .none .none) := by
    generalize inL = F at h3 ⊢
    simp [cCall, cConsO, M.bind, h3, cNilO, mOk, liftN, derefs, deref, g]
  have h5 : cAnd (cCmp gIsNot (cVar 2) (cC .non)) (cCall gAll (cConsO inL (cNilO))) (EI net (.own false (sps S)) .none .none) = .ok (.val (.bl true)) (EI net (.val (sps S)) .none .none) := by
    generalize cCmp gIsNot (cVar 2) (cC .non) = A at h2 ⊢
    generalize cCall gAll (cConsO inL (cNilO)) = B at h4 ⊢
    simp [cAnd, M.bind, h2, h4, truO, lift1, deref, truD]
  refine runF_rt (k := 5) (sl := [.val (.int 4), .val (.str net)]) (δ' := EI net (.val (sps S)) .none .none) ?_
  rw [in_split]
  exact (cSeq_nx (asg_fresh h1)).trans (ret_val h5)
theorem an_gen {C : Str → M Op} {net : List Nat} (h : C "is_net_of" [.val (.int 4), .val (.str net)] = .ok (.val (.bl true)) [.none, .none]) : runF 1 (cb_is_any_net C) [.val (.str net)] = .ok (.val (.bl true)) [.none] := by
  have h1 : cCallF (C "is_net_of") (takesN 2 (cAV (cC (.int 4)) (cAV (cVar 0) (cANil)))) [.val (.str net)] = .ok (.val (.bl true)) [.val (.str net)] := callF_eq (fa := cAV (cC (.int 4)) (cAV (cVar 0) cANil)) (k := 2) (as := [.v (.int 4), .v (.str net)]) (δ := [.val (.str net)]) (δ1 := [.val (.str net)]) rfl rfl rfl rfl h
  exact runF_rt (k := 1) (sl := [.val (.str net)]) (ret_val h1)
theorem can_gen {C : Str → M Op} {net : List Nat} (h : C "is_any_net" [.val (.str net)] = .ok (.val (.bl true)) [.none]) : runF 1 (cb_check_any_net C) [.val (.str net)] = .ok (.val .non) [.none] := by
  have h1 : cCallF (C "is_any_net") (takesN 1 (cAV (cVar 0) (cANil))) [.val (.str net)] = .ok (.val (.bl true)) [.val (.str net)] := callF_eq (fa := cAV (cVar 0) cANil) (k := 1) (as := [.v (.str net)]) (δ := [.val (.str net)]) (δ1 := [.val (.str net)]) rfl rfl rfl rfl h
  exact runF_nx (k := 1) (sl := [.val (.str net)]) ((cSeq_nx (if_ok (a := cSeq cBad cNext) (b := cNext) h1)).trans rfl)
theorem can_ok (n : Nat) (t : Net) (ht : Net.ok t) (hl : (Net.txt t).length ≤ 60) : callN tab (n + 5) "check_any_net" [.val (.str (Net.txt t))] = .ok (.val .non) [.none] := by
  rw [call_check_any_net]
  refine can_gen ?_
  rw [call_is_any_net]
  refine an_gen ?_
  rw [call_is_net_of]
  exact in_gen (by have := steps_len t 0; omega) (so_ok n t ht hl)
/-! ### net_depth_by -/
abbrev dst (r : List Nat) : D := .lst (r.map fun k => D.int (k : Nat)).reverse
def dstp (c : Nat) (r : List Nat) : Option (List Nat) :=
  if Net.isFig c then some (0 :: r)
  else if c = 33 then (match r with
    | k :: r => some ((k + 1) :: r)
    | _ => none)
  else (match r with
    | a :: b :: r => some ((max a b + 1) :: r)
    | _ => none)
def runD : List (Nat × Nat) → List Nat → Option (List Nat)
  | [], r => some r
  | q :: qs, r => (dstp q.2 r).bind (runD qs)
theorem runD_app : ∀ (xs ys : List (Nat × Nat)) (r : List Nat), runD (xs ++ ys) r = (runD xs r).bind (runD ys)
  | [], ys, r => rfl
  | q :: xs, ys, r => by
    show (dstp q.2 r).bind (runD (xs ++ ys)) = ((dstp q.2 r).bind (runD xs)).bind _
    cases dstp q.2 r with
    | none => rfl
    | some r2 => exact runD_app xs ys r2
theorem run_dep : ∀ (t : Net), Net.ok t → ∀ (p : Nat) (r : List Nat), runD (steps t p) r = some (Net.dep t :: r)
  | .fig c, h, p, r => by
    have hf := Net.fig_is h
    show (dstp c r).bind (runD []) = _
    unfold dstp
    rw [hf, if_pos rfl]
    rfl
  | .neg t, h, p, r => by
    show runD (steps t (p + 1) ++ [(p, 33)]) r = _
    rw [runD_app, run_dep t h]
    rfl
  | .pair g a b, ⟨hg, ha, hb⟩, p, r => by
    show runD (steps a (p + 1) ++ (steps b _ ++ [(_, g)])) r = _
    rw [runD_app, run_dep a ha]
    show runD (steps b _ ++ [(_, g)]) (Net.dep a :: r) = _
    rw [runD_app, run_dep b hb]
    show (dstp g (Net.dep b :: Net.dep a :: r)).bind (runD []) = _
    rcases hg with rfl | rfl | rfl <;> rfl
abbrev EN (net : List Nat) (r : List Nat) (x2 x3 : Slot) : EnvS := [.val (.str net), .own false (dst r), x2, x3]
theorem add_one (k : Nat) : gAdd (.int (k : Nat)) (.int 1) = some (.val (.int ((k + 1 : Nat) : Int))) := by
  have : ((k + 1 : Nat) : Int) = (k : Int) + 1 := by omega
  rw [this]
  rfl
theorem gmax (a b : Nat) : gMax2 [.int (a : Nat), .int (b : Nat)] = some (.val (.int ((max a b : Nat) : Int))) := by
  show some (Op.val (.int (if (b : Int) > a then (b : Int) else a))) = _
  have : (if (b : Int) > a then (b : Int) else a) = ((max a b : Nat) : Int) := by
    split <;> omega
  rw [this]
theorem meth_pop {E : EnvS} {i : Nat} {io : Bool} {c c' x : D} (h3 : E[i]? = some (.own io c)) (ht : tyM c = some "list") (g : gPop c [] = some (.val x, c')) : cMethO "list" i gPop cNil E = .ok (.val x) (E.set i (.own io c')) := by
  simp [cMethO, M.bind, ownTy, h3, ht, cNil, mOk, methO, g]
theorem meth_app2 {E E1 : EnvS} {i : Nat} {io : Bool} {c c1 c' x : D} {F : M Op} (h3 : E[i]? = some (.own io c)) (ht : tyM c = some "list") (h1 : F E = .ok (.val x) E1) (h4 : E1[i]? = some (.own io c1)) (g : gAppend c1 [x] = some (.val .non, c')) : cDrop (cMethO "list" i gAppend (cCons F cNil)) E = .nx (E1.set i (.own io c')) := by
  simp [cDrop, MS.of, cMethO, M.bind, ownTy, h3, ht, cCons, h1, Ev.esc, mOk, cNil, methO, h4, g]
theorem bin_vw {g : D → D → Option Op} {F G : M Op} {E E1 E2 : EnvS} {a b r : D} (h1 : F E = .ok (.val a) E1) (h2 : G E1 = .ok (.val b) E2) (hg : g a b = some (.val r)) : cBin g F G E = .ok (.val r) E2 := by
  simp [cBin, M.bind, h1, h2, lift2, deref, hg]
theorem call2_vw {g : List D → Option Op} {F G : M Op} {E E1 E2 : EnvS} {a b r : D} (h1 : F E = .ok (.val a) E1) (h2 : G E1 = .ok (.val b) E2) (hg : g [a, b] = some (.val r)) : cCall g (cConsO F (cConsO G cNilO)) E = .ok (.val r) E2 := by
  simp [cCall, cConsO, M.bind, h1, h2, cNilO, mOk, liftN, derefs, deref, hg]
def nD : M Op := cMethO "list" 1 gPop cNil
def nB : MS := cSeq (cIfS (cCmpT gIn (cVar 3) (cC (.str [48, 49, 50, 51]))) (cSeq (cDrop (cMethO "list" 1 gAppend (cCons (cC (.int 0)) (cNil)))) (cNext)) (cSeq (cIfS (cCmpT gEq (cVar 3) (cC (.str [33]))) (cSeq (cDrop (cMethO "list" 1 gAppend (cCons (cBin gAdd nD (cC (.int 1))) (cNil)))) (cNext)) (cSeq (cDrop (cMethO "list" 1 gAppend (cCons (cBin gAdd (cCall gMax2 (cConsO nD (cConsO nD (cNilO)))) (cC (.int 1))) (cNil)))) (cNext))) (cNext))) (cNext)
theorem nd_split (C : Str → M Op) : cb_net_depth_by C = cSeq (cAsg 1 (cLst (cNil))) (cSeq (cFor (.many [2, 3]) (cItV (cCallF (C "steps_of") (takesN 1 (cAV (cVar 0) (cANil))))) nB) (cSeq (cRet (cBin gIx (cVar 1) (cC (.int 0)))) (cNext))) := rfl
theorem nB_ok (net : List Nat) {p c : Nat} {r r' : List Nat} (e : dstp c r = some r') (hr : r.length ≤ 500) : nB (EN net r (.val (.int (p : Nat))) (.val (.str [c]))) = .nx (EN net r' (.val (.int (p : Nat))) (.val (.str [c]))) := by
  have a1 : cCmpT gIn (cVar 3) (cC (.str [48, 49, 50, 51])) (EN net r (.val (.int (p : Nat))) (.val (.str [c]))) = .ok (Net.isFig c) (EN net r (.val (.int (p : Nat))) (.val (.str [c]))) := inT rfl rfl
  unfold dstp at e
  unfold nB
  cases hf : Net.isFig c with
  | true =>
    rw [hf, if_pos rfl] at e
    cases e
    rw [hf] at a1
    refine (cSeq_nx (δ1 := EN net (0 :: r) (.val (.int (p : Nat))) (.val (.str [c]))) ?_).trans rfl
    rw [cIfS_true a1]
    exact (cSeq_nx (meth_app (i := 1) (io := false) (c := dst r) (c' := dst (0 :: r)) (x := .int 0) rfl rfl rfl (app_st (r.map fun k => D.int (k : Nat)) (.int 0) (by simp; omega)))).trans rfl
  | false =>
    rw [hf, if_neg Bool.false_ne_true] at e
    rw [hf] at a1
    have a2 := eqT_ss (F := cVar 3) (G := cC (.str [33])) (E := EN net r (.val (.int (p : Nat))) (.val (.str [c]))) (a := [c]) (c := [33]) rfl rfl
    have e33 : decide ([c] = [33]) = decide (c = 33) := by
      rw [Bool.eq_iff_iff]
      simp
    rw [e33] at a2
    by_cases hc : c = 33
    · rw [if_pos hc] at e
      rw [decide_eq_true hc] at a2
      cases r with
      | nil => cases e
      | cons k r =>
        cases e
        have hr : r.length + 1 ≤ 500 := hr
        refine (cSeq_nx (δ1 := EN net ((k + 1) :: r) (.val (.int (p : Nat))) (.val (.str [c]))) ?_).trans rfl
        rw [ifS_f' a1]
        refine (cSeq_nx (δ1 := EN net ((k + 1) :: r) (.val (.int (p : Nat))) (.val (.str [c]))) ?_).trans rfl
        rw [cIfS_true a2]
        have q1 : nD (EN net (k :: r) (.val (.int (p : Nat))) (.val (.str [c]))) = .ok (.val (.int (k : Nat))) (EN net r (.val (.int (p : Nat))) (.val (.str [c]))) := meth_pop (i := 1) (io := false) rfl rfl (pop_st (.int (k : Nat)) (r.map fun k => D.int (k : Nat)))
        have q2 := bin_vw (G := cC (.int 1)) (b := .int 1) q1 rfl (add_one k)
        exact (cSeq_nx (meth_app2 (i := 1) (io := false) (c := dst (k :: r)) (c1 := dst r) (c' := dst ((k + 1) :: r)) rfl rfl q2 rfl (app_st (r.map fun k => D.int (k : Nat)) (.int ((k + 1 : Nat) : Int)) (by simp; omega)))).trans rfl
    · rw [if_neg hc] at e
      rw [decide_eq_false hc] at a2
      cases r with
      | nil => cases e
      | cons x r =>
        cases r with
        | nil => cases e
        | cons y r =>
          cases e
          have hr : r.length + 1 + 1 ≤ 500 := hr
          refine (cSeq_nx (δ1 := EN net ((max x y + 1) :: r) (.val (.int (p : Nat))) (.val (.str [c]))) ?_).trans rfl
          rw [ifS_f' a1]
          refine (cSeq_nx (δ1 := EN net ((max x y + 1) :: r) (.val (.int (p : Nat))) (.val (.str [c]))) ?_).trans rfl
          rw [ifS_f' a2]
          have q1 : nD (EN net (x :: y :: r) (.val (.int (p : Nat))) (.val (.str [c]))) = .ok (.val (.int (x : Nat))) (EN net (y :: r) (.val (.int (p : Nat))) (.val (.str [c]))) := meth_pop (i := 1) (io := false) rfl rfl (pop_st (.int (x : Nat)) ((y :: r).map fun k => D.int (k : Nat)))
          have q2 : nD (EN net (y :: r) (.val (.int (p : Nat))) (.val (.str [c]))) = .ok (.val (.int (y : Nat))) (EN net r (.val (.int (p : Nat))) (.val (.str [c]))) := meth_pop (i := 1) (io := false) rfl rfl (pop_st (.int (y : Nat)) (r.map fun k => D.int (k : Nat)))
          have q3 := call2_vw q1 q2 (gmax x y)
          have q4 := bin_vw (G := cC (.int 1)) (b := .int 1) q3 rfl (add_one (max x y))
          exact (cSeq_nx (meth_app2 (i := 1) (io := false) (c := dst (x :: y :: r)) (c1 := dst r) (c' := dst ((max x y + 1) :: r)) rfl rfl q4 rfl (app_st (r.map fun k => D.int (k : Nat)) (.int ((max x y + 1 : Nat) : Int)) (by simp; omega)))).trans rfl
theorem dstp_len {c : Nat} {r r' : List Nat} (e : dstp c r = some r') : r'.length ≤ r.length + 1 := by
  unfold dstp at e
  split at e
  · cases e; simp
  · split at e
    · cases r with
      | nil => cases e
      | cons k r => cases e; simp
    · cases r with
      | nil => cases e
      | cons k r =>
        cases r with
        | nil => cases e
        | cons l r => cases e; simp <;> omega
theorem nd_loop (net : List Nat) (m0 : EnvS) (hm : ∀ r p c, maskE m0 (EN net r (.val (.int (p : Nat))) (.val (.str [c]))) = EN net r .none .none) : ∀ (qs : List (Nat × Nat)) (r r' : List Nat), runD qs r = some r' → r.length + qs.length ≤ 400 →
    forL m0 (.many [2, 3]) nB (qs.map dP) (EN net r .none .none) = .nx (EN net r' .none .none)
  | [], r, r', e, _ => by cases e; rfl
  | q :: qs, r, r', e, hl => by
    have e : (dstp q.2 r).bind (runD qs) = some r' := e
    cases e1 : dstp q.2 r with
    | none => rw [e1] at e; cases e
    | some r1 =>
      rw [e1] at e
      have e : runD qs r1 = some r' := e
      have hl : r.length + (qs.length + 1) ≤ 400 := hl
      have l1 := dstp_len e1
      have b := nB_ok net (p := q.1) e1 (by omega)
      show forL m0 (.many [2, 3]) nB (.tup [.int (q.1 : Nat), .str [q.2]] :: qs.map dP) (EN net r .none .none) = _
      unfold forL MS.of
      have t : tgF (.many [2, 3]) (.tup [.int (q.1 : Nat), .str [q.2]]) (EN net r .none .none) = .ok () (EN net r (.val (.int (q.1 : Nat))) (.val (.str [q.2]))) := rfl
      rw [t]
      dsimp only
      rw [b]
      dsimp only
      rw [hm]
      exact nd_loop net m0 hm qs r1 r' e (by omega)
theorem nd_gen {C : Str → M Op} (t : Net) (ht : Net.ok t) (hl : (Net.txt t).length ≤ 60) (h : C "steps_of" [.val (.str (Net.txt t))] = .ok (.fresh (sps (steps t 0))) [.none]) : runF 4 (cb_net_depth_by C) [.val (.str (Net.txt t))] = .ok (.val (.int (Net.dep t : Nat))) [.none] := by
  have h1 : cCallF (C "steps_of") (takesN 1 (cAV (cVar 0) (cANil))) (EN (Net.txt t) [] .none .none) = .ok (.fresh (sps (steps t 0))) (EN (Net.txt t) [] .none .none) := callF_eq (fa := cAV (cVar 0) cANil) (k := 1) (as := [.v (.str (Net.txt t))]) (δ := EN (Net.txt t) [] .none .none) (δ1 := EN (Net.txt t) [] .none .none) rfl rfl rfl rfl h
  have h2 : cItV (cCallF (C "steps_of") (takesN 1 (cAV (cVar 0) (cANil)))) (EN (Net.txt t) [] .none .none) = .ok ((steps t 0).map dP) (EN (Net.txt t) [] .none .none) := by
    generalize cCallF (C "steps_of") (takesN 1 (cAV (cVar 0) (cANil))) = F at h1 ⊢
    simp only [cItV, M.bind, h1, Ev.esc, mOk]
    rfl
  have h3 := nd_loop (Net.txt t) (EN (Net.txt t) [] .none .none) (fun _ _ _ => rfl) (steps t 0) [] _ (run_dep t ht 0 []) (by have := steps_len t 0; simp; omega)
  have h4 : cFor (.many [2, 3]) (cItV (cCallF (C "steps_of") (takesN 1 (cAV (cVar 0) (cANil))))) nB (EN (Net.txt t) [] .none .none) = .nx (EN (Net.txt t) [Net.dep t] .none .none) := by
    unfold cFor MS.of
    rw [h2]
    exact h3
  have h5 : cBin gIx (cVar 1) (cC (.int 0)) (EN (Net.txt t) [Net.dep t] .none .none) = .ok (.val (.int (Net.dep t : Nat))) (EN (Net.txt t) [Net.dep t] .none .none) := ix_pl (i := 1) (io := false) rfl rfl rfl rfl
  refine runF_rt (k := 4) (sl := [.val (.str (Net.txt t))]) (δ' := EN (Net.txt t) [Net.dep t] .none .none) ?_
  rw [nd_split]
  exact (cSeq_nx (show cAsg 1 (cLst cNil) [.val (.str (Net.txt t)), .none, .none, .none] = .nx (EN (Net.txt t) [] .none .none) from rfl)).trans ((cSeq_nx h4).trans (ret_val h5))
theorem two_gen {F G : M Op} {x : D} {r : D} (h1 : F [.val x] = .ok (.val .non) [.val x]) (h2 : G [.val x] = .ok (.val r) [.val x]) : runF 1 (cSeq (cDrop F) (cSeq (cRet G) cNext)) [.val x] = .ok (.val r) [.none] :=
  runF_rt (k := 1) (sl := [.val x]) ((cSeq_nx (drop_nx h1)).trans (ret_val h2))
theorem dep_ok (n : Nat) (t : Net) (ht : Net.ok t) (hl : (Net.txt t).length ≤ 60) : callN tab (n + 6) "net_depth" [.val (.str (Net.txt t))] = .ok (.val (.int (Net.dep t : Nat))) [.none] := by
  have q : callN tab (n + 5) "net_depth_by" [.val (.str (Net.txt t))] = .ok (.val (.int (Net.dep t : Nat))) [.none] := by
    rw [call_net_depth_by]
    exact nd_gen t ht hl (so_ok (n + 2) t ht hl)
  rw [call_net_depth]
  exact two_gen (callF_eq (fa := cAV (cVar 0) cANil) (k := 1) (as := [.v (.str (Net.txt t))]) (δ := [.val (.str (Net.txt t))]) (δ1 := [.val (.str (Net.txt t))]) rfl rfl rfl rfl (can_ok n t ht hl)) (callF_eq (fa := cAV (cVar 0) cANil) (k := 1) (as := [.v (.str (Net.txt t))]) (δ := [.val (.str (Net.txt t))]) (δ1 := [.val (.str (Net.txt t))]) rfl rfl rfl rfl q)
end La
set_option Elab.async false
set_option linter.all false
set_option autoImplicit false
set_option maxRecDepth 100000
set_option maxHeartbeats 4000000
namespace La
open PySem PySem.Spec L2 Ev
open PyProof.Rows hiding St
/-! ### the law's own depth -/
inductive Jt
  | sg (c : Nat)
  | vl (v : Nat)
def dJ : Jt → D
  | .sg c => .tup [.str [c], .int 0]
  | .vl v => .tup [.str [], .int (v : Nat)]
abbrev jst (r : List Jt) : D := .lst (r.map dJ).reverse
def cl : List Jt → Nat → List Jt × Nat
  | .sg c :: r, v => if c = 33 then cl r (v + 1) else (.sg c :: r, v)
  | r, v => (r, v)
theorem cl_len : ∀ (r : List Jt) (v : Nat), (cl r v).1.length ≤ r.length ∧ (cl r v).2 + (cl r v).1.length = v + r.length
  | [], v => ⟨Nat.le_refl _, rfl⟩
  | .vl k :: r, v => ⟨Nat.le_refl _, rfl⟩
  | .sg c :: r, v => by
    unfold cl
    by_cases h : c = 33
    · rw [if_pos h]
      have := cl_len r (v + 1)
      simp
      omega
    · rw [if_neg h]
      exact ⟨Nat.le_refl _, rfl⟩
def ljs (c : Nat) (r : List Jt) : Option (List Jt) :=
  if c ∈ [40, 33, 38, 124, 94] then some (.sg c :: r)
  else if c = 41 then (match r with
    | .vl b :: .sg _ :: .vl a :: _ :: r0 => some (.vl (cl r0 (1 + max a b)).2 :: (cl r0 (1 + max a b)).1)
    | _ => none)
  else some (.vl (cl r 0).2 :: (cl r 0).1)
def runJ : List Nat → List Jt → Option (List Jt)
  | [], r => some r
  | c :: cs, r => (ljs c r).bind (runJ cs)
theorem runJ_app : ∀ (xs ys : List Nat) (r : List Jt), runJ (xs ++ ys) r = (runJ xs r).bind (runJ ys)
  | [], ys, r => rfl
  | q :: xs, ys, r => by
    show (ljs q r).bind (runJ (xs ++ ys)) = ((ljs q r).bind (runJ xs)).bind _
    cases ljs q r with
    | none => rfl
    | some r2 => exact runJ_app xs ys r2
theorem run_law : ∀ (t : Net), Net.ok t → ∀ (r : List Jt), runJ (Net.txt t) r = some (.vl (cl r (Net.dep t)).2 :: (cl r (Net.dep t)).1)
  | .fig c, h, r => by
    unfold Net.ok at h
    rcases h with rfl | rfl | rfl | rfl <;> rfl
  | .neg t, h, r => by
    show (ljs 33 r).bind (runJ (Net.txt t)) = _
    show runJ (Net.txt t) (.sg 33 :: r) = _
    rw [run_law t h]
    rfl
  | .pair g a b, ⟨hg, ha, hb⟩, r => by
    show runJ (Net.txt a ++ g :: (Net.txt b ++ [41])) (.sg 40 :: r) = _
    rw [runJ_app, run_law a ha]
    have e1 : cl (.sg 40 :: r) (Net.dep a) = (.sg 40 :: r, Net.dep a) := rfl
    rw [e1]
    show (ljs g (.vl (Net.dep a) :: .sg 40 :: r)).bind (runJ (Net.txt b ++ [41])) = _
    have e2 : ljs g (.vl (Net.dep a) :: .sg 40 :: r) = some (.sg g :: .vl (Net.dep a) :: .sg 40 :: r) := by
      rcases hg with rfl | rfl | rfl <;> rfl
    rw [e2]
    show runJ (Net.txt b ++ [41]) (.sg g :: .vl (Net.dep a) :: .sg 40 :: r) = _
    rw [runJ_app, run_law b hb]
    have e3 : cl (.sg g :: .vl (Net.dep a) :: .sg 40 :: r) (Net.dep b) = (.sg g :: .vl (Net.dep a) :: .sg 40 :: r, Net.dep b) := by
      rcases hg with rfl | rfl | rfl <;> rfl
    rw [e3]
    show some (Jt.vl (cl r (1 + max (Net.dep a) (Net.dep b))).2 :: (cl r (1 + max (Net.dep a) (Net.dep b))).1) = _
    have e4 : 1 + max (Net.dep a) (Net.dep b) = Net.dep (.pair g a b) := by
      show _ = max (Net.dep b) (Net.dep a) + 1
      omega
    rw [e4]
abbrev EL (net : List Nat) (r : List Jt) (x2 x3 x4 x5 x6 : Slot) : EnvS := [.val (.str net), .own false (jst r), x2, x3, x4, x5, x6]
def jP : M Op := cMethO "list" 1 gPop (cNil)
def jC : M Bool := cAndT (cCmpT gGt (cCall gLen (cConsO (cVar 1) (cNilO))) (cC (.int 0))) (cCmpT gEq (cBin gIx (cBin gIx (cVar 1) (cBin gSub (cCall gLen (cConsO (cVar 1) (cNilO))) (cC (.int 1)))) (cC (.int 0))) (cC (.str [33])))
def jW : MS := cSeq (cDrop jP) (cSeq (cAsg 3 (cBin gAdd (cVar 3) (cC (.int 1)))) (cNext))
def jPair : MS := cSeq (cPar [4, 5, 6] (cCons jP (cCons jP (cCons jP (cNil))))) (cSeq (cDrop jP) (cSeq (cAsg 3 (cBin gAdd (cC (.int 1)) (cCall gMax2 (cConsO (cBin gIx (cVar 6) (cC (.int 1))) (cConsO (cBin gIx (cVar 4) (cC (.int 1))) (cNilO)))))) (cNext)))
def jB : MS := cSeq (cIfS (cCmpT gIn (cVar 2) (cC (.str [40, 33, 38, 124, 94]))) (cSeq (cDrop (cMethO "list" 1 gAppend (cCons (cTup (cCons (cVar 2) (cCons (cC (.int 0)) (cNil)))) (cNil)))) (cNext)) (cSeq (cAsg 3 (cC (.int 0))) (cSeq (cIfS (cCmpT gEq (cVar 2) (cC (.str [41]))) jPair (cNext)) (cSeq (cWhile 80 jC jW) (cSeq (cDrop (cMethO "list" 1 gAppend (cCons (cTup (cCons (cC (.str [])) (cCons (cVar 3) (cNil)))) (cNil)))) (cNext)))))) (cNext)
theorem ld_split (C : Str → M Op) : cb_law_depth C = cSeq (cAsg 1 (cLst (cNil))) (cSeq (cFor (.one 2) (cItV (cVar 0)) jB) (cSeq (cRet (cBin gIx (cBin gIx (cVar 1) (cC (.int 0))) (cC (.int 1)))) (cNext))) := rfl
section
variable {net : List Nat}
def jt0 : Jt → List Nat
  | .sg c => [c]
  | .vl _ => []
theorem jx0 (i : Jt) : gIx (dJ i) (.int 0) = some (.val (.str (jt0 i))) := by
  cases i <;> rfl
theorem at_last {α : Type} (x : α) (r : List α) : atI (x :: r).reverse (((r.length : Nat) : Int)) = some x := by
  unfold atI ixN
  rw [if_pos (by omega), if_pos (by simp; omega)]
  show (x :: r).reverse[((r.length : Nat) : Int).toNat]? = some x
  rw [Int.toNat_natCast, List.reverse_cons]
  have : r.length = r.reverse.length := by simp
  rw [this, List.getElem?_concat_length]
theorem top_last (x : D) (r : List D) : gIx (.lst (x :: r).reverse) (.int ((r.length : Nat) : Int)) = some (.val x) := by
  simp only [gIx, gIxQ, seqD, at_last]
  rfl
theorem jC_ok (r : List Jt) (x2 x3 x4 x5 x6 : Slot) : jC (EL net r x2 x3 x4 x5 x6) = .ok (match r with | .sg c :: _ => decide (c = 33) | _ => false) (EL net r x2 x3 x4 x5 x6) := by
  have h0 : cCall gLen (cConsO (cVar 1) (cNilO)) (EL net r x2 x3 x4 x5 x6) = .ok (.val (.int (((r.map dJ).length : Nat) : Int))) (EL net r x2 x3 x4 x5 x6) := len_own (i := 1) (io := false) (r := r.map dJ) rfl rfl
  have h1 : cCmpT gGt (cCall gLen (cConsO (cVar 1) (cNilO))) (cC (.int 0)) (EL net r x2 x3 x4 x5 x6) = .ok (decide (0 < (r.map dJ).length)) (EL net r x2 x3 x4 x5 x6) := gt_len 0 h0
  cases r with
  | nil => exact andT (b := false) h1 fun z => nomatch z
  | cons x r =>
    have hs : gSub (.int (((((x :: r).map dJ).length : Nat)) : Int)) (.int 1) = some (.val (.int (((r.map dJ).length : Nat) : Int))) := by
      have : (((x :: r).map dJ).length : Int) - 1 = ((r.map dJ).length : Int) := by simp
      show some (Op.val (.int ((((x :: r).map dJ).length : Int) - 1))) = _
      rw [this]
    have h2 := bin_vw (G := cC (.int 1)) (b := .int 1) h0 rfl hs
    have h3 : cBin gIx (cVar 1) (cBin gSub (cCall gLen (cConsO (cVar 1) (cNilO))) (cC (.int 1))) (EL net (x :: r) x2 x3 x4 x5 x6) = .ok (.val (dJ x)) (EL net (x :: r) x2 x3 x4 x5 x6) := ix_pl (i := 1) (io := false) rfl rfl h2 (top_last (dJ x) (r.map dJ))
    have h4 := ix_vl (G := cC (.int 0)) (b := .int 0) h3 rfl (jx0 x)
    have h5 := eqT_ss (G := cC (.str [33])) (c := [33]) h4 rfl
    have h6 := andT h1 fun _ => h5
    unfold jC
    rw [h6]
    have hl : decide (0 < ((x :: r).map dJ).length) = true := decide_eq_true (by simp)
    rw [hl]
    cases x with
    | vl v => rfl
    | sg c =>
      have : decide (jt0 (.sg c) = [33]) = decide (c = 33) := by
        show decide ([c] = [33]) = _
        rw [Bool.eq_iff_iff]
        simp
      rw [this]
      rfl
theorem jW_ok (x : Jt) (r : List Jt) (v : Nat) (x2 x4 x5 x6 : Slot) : jW (EL net (x :: r) x2 (.val (.int (v : Nat))) x4 x5 x6) = .nx (EL net r x2 (.val (.int ((v + 1 : Nat) : Int))) x4 x5 x6) := by
  have q1 : jP (EL net (x :: r) x2 (.val (.int (v : Nat))) x4 x5 x6) = .ok (.val (dJ x)) (EL net r x2 (.val (.int (v : Nat))) x4 x5 x6) := meth_pop (i := 1) (io := false) rfl rfl (pop_st (dJ x) (r.map dJ))
  have q2 : cBin gAdd (cVar 3) (cC (.int 1)) (EL net r x2 (.val (.int (v : Nat))) x4 x5 x6) = .ok (.val (.int ((v + 1 : Nat) : Int))) (EL net r x2 (.val (.int (v : Nat))) x4 x5 x6) := bin_vw (a := .int (v : Nat)) rfl rfl (add_one v)
  exact (cSeq_nx (drop_nx q1)).trans ((cSeq_nx (asg_val q2)).trans rfl)
theorem jrun (m0 : EnvS) (x2 x4 x5 x6 : Slot) (hm : ∀ r v, maskE m0 (EL net r x2 (.val (.int (v : Nat))) x4 x5 x6) = EL net r x2 (.val (.int (v : Nat))) x4 x5 x6) : ∀ (r : List Jt) (v n : Nat), r.length < n → whileN m0 jC jW n (EL net r x2 (.val (.int (v : Nat))) x4 x5 x6) = .nx (EL net (cl r v).1 x2 (.val (.int ((cl r v).2 : Nat))) x4 x5 x6)
  | r, v, 0, h => absurd h (by omega)
  | [], v, n + 1, h => by
    have e := jC_ok (net := net) [] x2 (.val (.int (v : Nat))) x4 x5 x6
    unfold whileN MS.of
    rw [e]
    rfl
  | .vl k :: r, v, n + 1, h => by
    have e := jC_ok (net := net) (.vl k :: r) x2 (.val (.int (v : Nat))) x4 x5 x6
    unfold whileN MS.of
    rw [e]
    rfl
  | .sg c :: r, v, n + 1, h => by
    have e := jC_ok (net := net) (.sg c :: r) x2 (.val (.int (v : Nat))) x4 x5 x6
    unfold whileN MS.of cl
    rw [e]
    dsimp only
    by_cases hc : c = 33
    · subst hc
      have h' : r.length + 1 < n + 1 := h
      rw [jW_ok]
      simp only [decide_true, if_true]
      rw [hm]
      exact jrun m0 x2 x4 x5 x6 hm r (v + 1) n (by omega)
    · simp [hc]
theorem jend (r : List Jt) (v c : Nat) (x4 x5 x6 : Slot) (hr : r.length < 80) (hm : ∀ q k, maskE (EL net r (.val (.str [c])) (.val (.int (v : Nat))) x4 x5 x6) (EL net q (.val (.str [c])) (.val (.int (k : Nat))) x4 x5 x6) = EL net q (.val (.str [c])) (.val (.int (k : Nat))) x4 x5 x6) :
    cSeq (cWhile 80 jC jW) (cSeq (cDrop (cMethO "list" 1 gAppend (cCons (cTup (cCons (cC (.str [])) (cCons (cVar 3) (cNil)))) (cNil)))) (cNext)) (EL net r (.val (.str [c])) (.val (.int (v : Nat))) x4 x5 x6) = .nx (EL net (.vl (cl r v).2 :: (cl r v).1) (.val (.str [c])) (.val (.int ((cl r v).2 : Nat))) x4 x5 x6) := by
  have e := jrun (net := net) (EL net r (.val (.str [c])) (.val (.int (v : Nat))) x4 x5 x6) (.val (.str [c])) x4 x5 x6 hm r v 80 hr
  have hl := cl_len r v
  have e2 : cTup (cCons (cC (.str [])) (cCons (cVar 3) (cNil))) (EL net (cl r v).1 (.val (.str [c])) (.val (.int ((cl r v).2 : Nat))) x4 x5 x6) = .ok (.val (dJ (.vl (cl r v).2))) (EL net (cl r v).1 (.val (.str [c])) (.val (.int ((cl r v).2 : Nat))) x4 x5 x6) := tup2 rfl rfl
  have e3 := meth_app (i := 1) (io := false) (c := jst (cl r v).1) (c' := jst (.vl (cl r v).2 :: (cl r v).1)) rfl rfl e2 (app_st ((cl r v).1.map dJ) (dJ (.vl (cl r v).2)) (by simp; omega))
  exact (cSeq_nx (show cWhile 80 jC jW _ = _ from e)).trans ((cSeq_nx e3).trans rfl)
theorem jPair_ok (a b g c : Nat) (x : Jt) (r : List Jt) : jPair (EL net (.vl b :: .sg g :: .vl a :: x :: r) (.val (.str [c])) (.val (.int 0)) .none .none .none) = .nx (EL net r (.val (.str [c])) (.val (.int ((1 + max a b : Nat) : Int))) (.val (dJ (.vl b))) (.val (dJ (.sg g))) (.val (dJ (.vl a)))) := by
  have q1 : jP (EL net (.vl b :: .sg g :: .vl a :: x :: r) (.val (.str [c])) (.val (.int 0)) .none .none .none) = .ok (.val (dJ (.vl b))) (EL net (.sg g :: .vl a :: x :: r) (.val (.str [c])) (.val (.int 0)) .none .none .none) := meth_pop (i := 1) (io := false) rfl rfl (pop_st (dJ (.vl b)) ((Jt.sg g :: .vl a :: x :: r).map dJ))
  have q2 : jP (EL net (.sg g :: .vl a :: x :: r) (.val (.str [c])) (.val (.int 0)) .none .none .none) = .ok (.val (dJ (.sg g))) (EL net (.vl a :: x :: r) (.val (.str [c])) (.val (.int 0)) .none .none .none) := meth_pop (i := 1) (io := false) rfl rfl (pop_st (dJ (.sg g)) ((Jt.vl a :: x :: r).map dJ))
  have q3 : jP (EL net (.vl a :: x :: r) (.val (.str [c])) (.val (.int 0)) .none .none .none) = .ok (.val (dJ (.vl a))) (EL net (x :: r) (.val (.str [c])) (.val (.int 0)) .none .none .none) := meth_pop (i := 1) (io := false) rfl rfl (pop_st (dJ (.vl a)) ((x :: r).map dJ))
  have q4 : jP (EL net (x :: r) (.val (.str [c])) (.val (.int 0)) (.val (dJ (.vl b))) (.val (dJ (.sg g))) (.val (dJ (.vl a)))) = .ok (.val (dJ x)) (EL net r (.val (.str [c])) (.val (.int 0)) (.val (dJ (.vl b))) (.val (dJ (.sg g))) (.val (dJ (.vl a)))) := meth_pop (i := 1) (io := false) rfl rfl (pop_st (dJ x) (r.map dJ))
  have e1 : cPar [4, 5, 6] (cCons jP (cCons jP (cCons jP (cNil)))) (EL net (.vl b :: .sg g :: .vl a :: x :: r) (.val (.str [c])) (.val (.int 0)) .none .none .none) = .nx (EL net (x :: r) (.val (.str [c])) (.val (.int 0)) (.val (dJ (.vl b))) (.val (dJ (.sg g))) (.val (dJ (.vl a)))) := by
    generalize jP = P at q1 q2 q3
    simp [cPar, MS.of, cCons, M.bind, q1, q2, q3, Ev.esc, mOk, cNil, setVals]
  have m1 : cBin gIx (cVar 6) (cC (.int 1)) (EL net r (.val (.str [c])) (.val (.int 0)) (.val (dJ (.vl b))) (.val (dJ (.sg g))) (.val (dJ (.vl a)))) = .ok (.val (.int (a : Nat))) (EL net r (.val (.str [c])) (.val (.int 0)) (.val (dJ (.vl b))) (.val (dJ (.sg g))) (.val (dJ (.vl a)))) := ix_vl (a := dJ (.vl a)) (b := .int 1) rfl rfl rfl
  have m2 : cBin gIx (cVar 4) (cC (.int 1)) (EL net r (.val (.str [c])) (.val (.int 0)) (.val (dJ (.vl b))) (.val (dJ (.sg g))) (.val (dJ (.vl a)))) = .ok (.val (.int (b : Nat))) (EL net r (.val (.str [c])) (.val (.int 0)) (.val (dJ (.vl b))) (.val (dJ (.sg g))) (.val (dJ (.vl a)))) := ix_vl (a := dJ (.vl b)) (b := .int 1) rfl rfl rfl
  have m3 := call2_vw m1 m2 (gmax a b)
  have g1 : gAdd (.int 1) (.int ((max a b : Nat) : Int)) = some (.val (.int ((1 + max a b : Nat) : Int))) := by
    have : ((1 + max a b : Nat) : Int) = 1 + ((max a b : Nat) : Int) := by omega
    rw [this]
    rfl
  have m4 := bin_vw (F := cC (.int 1)) (a := .int 1) (E := EL net r (.val (.str [c])) (.val (.int 0)) (.val (dJ (.vl b))) (.val (dJ (.sg g))) (.val (dJ (.vl a)))) rfl m3 g1
  exact (cSeq_nx e1).trans ((cSeq_nx (drop_nx q4)).trans ((cSeq_nx (asg_val (i := 3) m4)).trans rfl))
theorem jB_ok {c : Nat} {r r' : List Jt} (e : ljs c r = some r') (hr : r.length < 79) : ∃ x3 x4 x5 x6, jB (EL net r (.val (.str [c])) .none .none .none .none) = .nx (EL net r' (.val (.str [c])) x3 x4 x5 x6) := by
  have a1 : cCmpT gIn (cVar 2) (cC (.str [40, 33, 38, 124, 94])) (EL net r (.val (.str [c])) .none .none .none .none) = .ok (decide (c ∈ [40, 33, 38, 124, 94])) (EL net r (.val (.str [c])) .none .none .none .none) := inT rfl rfl
  unfold ljs at e
  unfold jB
  by_cases h1 : c ∈ [40, 33, 38, 124, 94]
  · rw [if_pos h1] at e
    cases e
    rw [decide_eq_true h1] at a1
    refine ⟨.none, .none, .none, .none, ?_⟩
    have e2 : cTup (cCons (cVar 2) (cCons (cC (.int 0)) (cNil))) (EL net r (.val (.str [c])) .none .none .none .none) = .ok (.val (dJ (.sg c))) (EL net r (.val (.str [c])) .none .none .none .none) := tup2 rfl rfl
    have e3 := meth_app (i := 1) (io := false) (c := jst r) (c' := jst (.sg c :: r)) rfl rfl e2 (app_st (r.map dJ) (dJ (.sg c)) (by simp; omega))
    refine (cSeq_nx (δ1 := EL net (.sg c :: r) (.val (.str [c])) .none .none .none .none) ?_).trans rfl
    rw [cIfS_true a1]
    exact (cSeq_nx e3).trans rfl
  · rw [if_neg h1] at e
    rw [decide_eq_false h1] at a1
    have e0 : cAsg 3 (cC (.int 0)) (EL net r (.val (.str [c])) .none .none .none .none) = .nx (EL net r (.val (.str [c])) (.val (.int 0)) .none .none .none) := rfl
    have a2 := eqT_ss (F := cVar 2) (G := cC (.str [41])) (E := EL net r (.val (.str [c])) (.val (.int 0)) .none .none .none) (a := [c]) (c := [41]) rfl rfl
    have e41 : decide ([c] = [41]) = decide (c = 41) := by
      rw [Bool.eq_iff_iff]
      simp
    rw [e41] at a2
    by_cases hc : c = 41
    · subst hc
      rw [if_pos rfl] at e
      split at e
      · rename_i b g a x r0
        cases e
        have hr : r0.length + 1 + 1 + 1 + 1 < 79 := hr
        have e5 := jend (net := net) r0 (1 + max a b) 41 (.val (dJ (.vl b))) (.val (dJ (.sg g))) (.val (dJ (.vl a))) (by omega) (fun _ _ => rfl)
        refine ⟨.val (.int ((cl r0 (1 + max a b)).2 : Nat)), .val (dJ (.vl b)), .val (dJ (.sg g)), .val (dJ (.vl a)), ?_⟩
        refine (cSeq_nx (δ1 := EL net (.vl (cl r0 (1 + max a b)).2 :: (cl r0 (1 + max a b)).1) (.val (.str [41])) (.val (.int ((cl r0 (1 + max a b)).2 : Nat))) (.val (dJ (.vl b))) (.val (dJ (.sg g))) (.val (dJ (.vl a)))) ?_).trans rfl
        rw [ifS_f' a1]
        refine (cSeq_nx e0).trans ?_
        refine (cSeq_nx (δ1 := EL net r0 (.val (.str [41])) (.val (.int ((1 + max a b : Nat) : Int))) (.val (dJ (.vl b))) (.val (dJ (.sg g))) (.val (dJ (.vl a)))) ?_).trans e5
        rw [cIfS_true a2]
        exact jPair_ok a b g 41 x r0
      · cases e
    · rw [if_neg hc] at e
      cases e
      rw [decide_eq_false hc] at a2
      have e5 := jend (net := net) r 0 c .none .none .none (by omega) (fun _ _ => rfl)
      refine ⟨.val (.int ((cl r 0).2 : Nat)), .none, .none, .none, ?_⟩
      refine (cSeq_nx (δ1 := EL net (.vl (cl r 0).2 :: (cl r 0).1) (.val (.str [c])) (.val (.int ((cl r 0).2 : Nat))) .none .none .none) ?_).trans rfl
      rw [ifS_f' a1]
      refine (cSeq_nx e0).trans ?_
      refine (cSeq_nx (δ1 := EL net r (.val (.str [c])) (.val (.int 0)) .none .none .none) ?_).trans e5
      rw [ifS_f' a2]
      rfl
theorem ljs_len {c : Nat} {r r' : List Jt} (e : ljs c r = some r') : r'.length ≤ r.length + 1 := by
  unfold ljs at e
  split at e
  · cases e; simp
  · split at e
    · split at e
      · rename_i b g a x r0
        cases e
        have := cl_len r0 (1 + max a b)
        simp
        omega
      · cases e
    · cases e
      have := cl_len r 0
      simp
      omega
theorem ld_loop (m0 : EnvS) (hm : ∀ r x2 x3 x4 x5 x6, maskE m0 (EL net r x2 x3 x4 x5 x6) = EL net r .none .none .none .none .none) : ∀ (cs : List Nat) (r r' : List Jt), runJ cs r = some r' → r.length + cs.length ≤ 78 →
    forL m0 (.one 2) jB (cs.map fun c => D.str [c]) (EL net r .none .none .none .none .none) = .nx (EL net r' .none .none .none .none .none)
  | [], r, r', e, _ => by cases e; rfl
  | c :: cs, r, r', e, hl => by
    have e : (ljs c r).bind (runJ cs) = some r' := e
    cases e1 : ljs c r with
    | none => rw [e1] at e; cases e
    | some r1 =>
      rw [e1] at e
      have e : runJ cs r1 = some r' := e
      have hl : r.length + (cs.length + 1) ≤ 78 := hl
      have l1 := ljs_len e1
      obtain ⟨x3, x4, x5, x6, b⟩ := jB_ok (net := net) e1 (by omega)
      show forL m0 (.one 2) jB (.str [c] :: cs.map fun c => D.str [c]) (EL net r .none .none .none .none .none) = _
      unfold forL MS.of
      have t : tgF (.one 2) (.str [c]) (EL net r .none .none .none .none .none) = .ok () (EL net r (.val (.str [c])) .none .none .none .none) := rfl
      rw [t]
      dsimp only
      rw [b]
      dsimp only
      rw [hm]
      exact ld_loop m0 hm cs r1 r' e (by omega)
end
theorem ld_ok (n : Nat) (t : Net) (ht : Net.ok t) (hl : (Net.txt t).length ≤ 60) : callN tab (n + 1) "_law_depth" [.val (.str (Net.txt t))] = .ok (.val (.int (Net.dep t : Nat))) [.none] := by
  rw [call_law_depth]
  have e1 := ld_loop (net := Net.txt t) (EL (Net.txt t) [] .none .none .none .none .none) (fun _ _ _ _ _ _ => rfl) (Net.txt t) [] _ (run_law t ht []) (by simp; omega)
  have e2 : cItV (cVar 0) (EL (Net.txt t) [] .none .none .none .none .none) = .ok ((Net.txt t).map fun c => D.str [c]) (EL (Net.txt t) [] .none .none .none .none .none) := rfl
  have e3 : cFor (.one 2) (cItV (cVar 0)) jB (EL (Net.txt t) [] .none .none .none .none .none) = .nx (EL (Net.txt t) [.vl (Net.dep t)] .none .none .none .none .none) := by
    unfold cFor MS.of
    rw [e2]
    exact e1
  have e5 : cBin gIx (cBin gIx (cVar 1) (cC (.int 0))) (cC (.int 1)) (EL (Net.txt t) [.vl (Net.dep t)] .none .none .none .none .none) = .ok (.val (.int (Net.dep t : Nat))) (EL (Net.txt t) [.vl (Net.dep t)] .none .none .none .none .none) := rfl
  refine runF_rt (k := 7) (sl := [.val (.str (Net.txt t))]) (δ' := EL (Net.txt t) [.vl (Net.dep t)] .none .none .none .none .none) ?_
  rw [ld_split]
  exact (cSeq_nx (show cAsg 1 (cLst cNil) [.val (.str (Net.txt t)), .none, .none, .none, .none, .none, .none] = .nx (EL (Net.txt t) [] .none .none .none .none .none) from rfl)).trans ((cSeq_nx e3).trans (ret_val e5))
end La
set_option Elab.async false
set_option linter.all false
set_option autoImplicit false
set_option maxRecDepth 100000
set_option maxHeartbeats 4000000
namespace La
open PySem PySem.Spec L2 Ev
open PyProof.Rows hiding St
/-! ### the counts of a text's gates -/
def cs (s : List Nat) : List D := [.int ((s.count 33 : Nat) : Int), .int ((s.count 38 : Nat) : Int), .int ((s.count 124 : Nat) : Int), .int ((s.count 94 : Nat) : Int)]
def two2 (s : List Nat) : Nat := s.count 38 + s.count 124 + s.count 94
def tot (s : List Nat) : Nat := s.count 33 + two2 s
theorem sum4 (a b c d : Nat) : gSum [.lst [.int (a : Int), .int (b : Int), .int (c : Int), .int (d : Int)]] = some (.val (.int ((a + (b + c + d) : Nat) : Int))) := by
  have e : ([(a : Int), (b : Int), (c : Int), (d : Int)] : List Int).sum = ((a + (b + c + d) : Nat) : Int) := by
    simp only [List.sum_cons, List.sum_nil]
    omega
  show some (Op.val (.int ([(a : Int), (b : Int), (c : Int), (d : Int)] : List Int).sum)) = _
  rw [e]
theorem sum4t (a b c d : Nat) : gSum [.tup [.int (a : Int), .int (b : Int), .int (c : Int), .int (d : Int)]] = some (.val (.int ((a + (b + c + d) : Nat) : Int))) := sum4 a b c d
theorem sum3t (b c d : Nat) : gSum [.tup [.int (b : Int), .int (c : Int), .int (d : Int)]] = some (.val (.int ((b + c + d : Nat) : Int))) := by
  have e : ([(b : Int), (c : Int), (d : Int)] : List Int).sum = ((b + c + d : Nat) : Int) := by
    simp only [List.sum_cons, List.sum_nil]
    omega
  show some (Op.val (.int ([(b : Int), (c : Int), (d : Int)] : List Int).sum)) = _
  rw [e]
theorem meth_cnt {E : EnvS} {F G : M Op} {a : List Nat} {c : Nat} (h1 : F E = .ok (.val (.str a)) E) (h2 : G E = .ok (.val (.str [c])) E) : cMeth "str" gCountS F (cConsO G cNilO) E = .ok (.val (.int ((a.count c : Nat) : Int))) E := by
  simp [cMeth, M.bind, h1, lift1, deref, tyM, cConsO, h2, cNilO, mOk, liftN, derefs, count_sign]
def cntG (s : List Nat) : D → D
  | .str [c] => .int ((s.count c : Nat) : Int)
  | _ => .non
/-- the comprehension of all counts -/
theorem cnts {E : EnvS} {i : Nat} {s : List Nat} (hw : wipeE E [i] = E) (hr : restoreE E E [i] = E) (h0 : ∀ d, cVar 0 (E.set i (.val d)) = .ok (.val (.str s)) (E.set i (.val d))) (hi : ∀ d, cVar i (E.set i (.val d)) = .ok (.val d) (E.set i (.val d))) (hs : ∀ d, wipeE (E.set i (.val d)) [i] = E) :
    cLc [i] (.one i) (cItV (cC (.str [33, 38, 124, 94]))) (mOk true) (cMeth "str" gCountS (cVar 0) (cConsO (cVar i) (cNilO))) E = .ok (.fresh (.lst (cs s))) E := by
  have e1 : cItV (cC (.str [33, 38, 124, 94])) E = .ok [.str [33], .str [38], .str [124], .str [94]] E := rfl
  have e := compL_map (vs := [i]) (i := i) (ft := mOk true) (fe := cMeth "str" gCountS (cVar 0) (cConsO (cVar i) (cNilO))) (δ0 := E) (g := cntG s) [.str [33], .str [38], .str [124], .str [94]] [] (fun d hd => by
    have hx : ∃ c, d = .str [c] := by
      simp only [List.mem_cons, List.not_mem_nil, or_false] at hd
      rcases hd with rfl | rfl | rfl | rfl <;> exact ⟨_, rfl⟩
    obtain ⟨c, rfl⟩ := hx
    exact ⟨_, _, _, _, rfl, meth_cnt (h0 _) (hi _), rfl, hs _⟩) (by decide)
  have := cLc_eq (T := .one i) (fi := cItV (cC (.str [33, 38, 124, 94]))) e1 (hw.symm ▸ e)
  rw [this, hw, hr]
  rfl
theorem runF_fr1 {k : Nat} {b : MS} {sl : List Slot} {δ' : EnvS} {d : D} (h : b (sl ++ List.replicate (k - sl.length) .none) = .rt (.fresh d) δ') : runF k b sl = .ok (.fresh d) (exitS sl δ') := by
  unfold runF
  rw [h]
  rfl
theorem ret_fr {F : M Op} {E E1 : EnvS} {d : D} (h : F E = .ok (.fresh d) E1) : cSeq (cRet F) cNext E = .rt (.fresh d) E1 := by
  unfold cSeq cRet MS.of; rw [h]
theorem sc_ok (n : Nat) (s : List Nat) : callN tab (n + 1) "sign_counts" [.val (.str s)] = .ok (.fresh (.lst (cs s))) [.none] := by
  rw [call_sign_counts]
  have e := cnts (E := [.val (.str s), .none]) (i := 1) (s := s) rfl rfl (fun _ => rfl) (fun _ => rfl) (fun _ => rfl)
  exact runF_fr1 (k := 2) (sl := [.val (.str s)]) (ret_fr e)
theorem gc_ok (n : Nat) (t : Net) (ht : Net.ok t) (hl : (Net.txt t).length ≤ 60) : callN tab (n + 6) "gate_count" [.val (.str (Net.txt t))] = .ok (.val (.int ((tot (Net.txt t) : Nat) : Int))) [.none] := by
  rw [call_gate_count]
  have h1 : cCallF (callN tab (n + 5) "sign_counts") (takesN 1 (cAV (cVar 0) (cANil))) [.val (.str (Net.txt t))] = .ok (.fresh (.lst (cs (Net.txt t)))) [.val (.str (Net.txt t))] := callF_eq (fa := cAV (cVar 0) cANil) (k := 1) (as := [.v (.str (Net.txt t))]) (δ := [.val (.str (Net.txt t))]) (δ1 := [.val (.str (Net.txt t))]) rfl rfl rfl rfl (sc_ok (n + 4) (Net.txt t))
  have g : gSum [.lst (cs (Net.txt t))] = some (.val (.int ((tot (Net.txt t) : Nat) : Int))) := sum4 _ _ _ _
  have h2 : cCall gSum (cConsO (cCallF (callN tab (n + 5) "sign_counts") (takesN 1 (cAV (cVar 0) (cANil)))) (cNilO)) [.val (.str (Net.txt t))] = .ok (.val (.int ((tot (Net.txt t) : Nat) : Int))) [.val (.str (Net.txt t))] := by
    generalize cCallF (callN tab (n + 5) "sign_counts") (takesN 1 (cAV (cVar 0) (cANil))) = F at h1 ⊢
    simp [cCall, cConsO, M.bind, h1, cNilO, mOk, liftN, derefs, deref, g]
  exact two_gen (callF_eq (fa := cAV (cVar 0) cANil) (k := 1) (as := [.v (.str (Net.txt t))]) (δ := [.val (.str (Net.txt t))]) (δ1 := [.val (.str (Net.txt t))]) rfl rfl rfl rfl (can_ok n t ht hl)) h2
theorem sgn_ok (n : Nat) (t : Net) (ht : Net.ok t) (hl : (Net.txt t).length ≤ 60) : callN tab (n + 6) "signs_of" [.val (.str (Net.txt t))] = .ok (.val (.tup (cs (Net.txt t)))) [.none] := by
  rw [call_signs_of]
  have h1 : cCallF (callN tab (n + 5) "sign_counts") (takesN 1 (cAV (cVar 0) (cANil))) [.val (.str (Net.txt t))] = .ok (.fresh (.lst (cs (Net.txt t)))) [.val (.str (Net.txt t))] := callF_eq (fa := cAV (cVar 0) cANil) (k := 1) (as := [.v (.str (Net.txt t))]) (δ := [.val (.str (Net.txt t))]) (δ1 := [.val (.str (Net.txt t))]) rfl rfl rfl rfl (sc_ok (n + 4) (Net.txt t))
  have g : orG gTupC gTupT [.lst (cs (Net.txt t))] = some (.val (.tup (cs (Net.txt t)))) := rfl
  have h2 : cCall (orG gTupC gTupT) (cConsO (cCallF (callN tab (n + 5) "sign_counts") (takesN 1 (cAV (cVar 0) (cANil)))) (cNilO)) [.val (.str (Net.txt t))] = .ok (.val (.tup (cs (Net.txt t)))) [.val (.str (Net.txt t))] := by
    generalize cCallF (callN tab (n + 5) "sign_counts") (takesN 1 (cAV (cVar 0) (cANil))) = F at h1 ⊢
    simp [cCall, cConsO, M.bind, h1, cNilO, mOk, liftN, derefs, deref, g]
  exact two_gen (callF_eq (fa := cAV (cVar 0) cANil) (k := 1) (as := [.v (.str (Net.txt t))]) (δ := [.val (.str (Net.txt t))]) (δ1 := [.val (.str (Net.txt t))]) rfl rfl rfl rfl (can_ok n t ht hl)) h2
/-! ### the same -/
theorem same_i (n : Nat) (i : Int) : callN tab (n + 1) "_law_same" [.val (.int i), .val (.int i)] = .ok (.val (.bl true)) [.none, .none] := by
  rw [call_law_same]
  simp [runF, cSeq, cNext, cIfS, cRet, cRetN, cDrop, cAsg, cAssign, cPar, setVals, MS.of, M.bind, mOk, mBad, cBad, cVar, cC, deref, lift1, lift2, liftN, derefs, cBin, cCmp, cCmpT, cTru, cNot, cNotT, cAnd, cOr, cAndT, cOrT, truO, cIf, cUn, asT, cChain, cNil, cCons, cTup, cLst, cNilO, cConsO, cCall, cMeth, cMethO, ownTy, methO, orE, esc, setN, exitR, exitS, exitSlot, tgTup, tgCons, tgNil, tgName, tgIx, cCallF, callWithD, takesN, cKw, cANil, cAV, cAIo, ownAt, arSlots, ios, nodupB, putBack, putBackN, ioVal, backSlot, perm, gIx, gIxQ, gIxS, gIxD, seqD, atI, ixN, gSet, gSetL, gInt, gAdd, Ev.gSub, gMul, gDiv, gMod, gGt, gLt, gLe, gGe, gOrd, gDivmod, gIntC, gAbs, gCatS, gCatL, isi_str_str, isi_str_int, isi_str_bool, isi_str_list, isi_str_tuple, isi_str_dict, isi_int_str, isi_int_int, isi_int_bool, isi_int_list, isi_int_tuple, isi_int_dict, isi_bl_str, isi_bl_int, isi_bl_bool, isi_bl_list, isi_bl_tuple, isi_bl_dict, isi_lst_str, isi_lst_int, isi_lst_bool, isi_lst_list, isi_lst_tuple, isi_lst_dict, isi_tup_str, isi_tup_int, isi_tup_bool, isi_tup_list, isi_tup_tuple, isi_tup_dict, isi_non_str, isi_non_int, isi_non_bool, isi_non_list, isi_non_tuple, isi_non_dict, isi_dic_str, isi_dic_int, isi_dic_bool, isi_dic_list, isi_dic_tuple, isi_dic_dict, gAll, gAny, gBls, gLen, gEq, gNe, gEqS, gEqB, gEqDic, gEqDp, scalD, eqD, gIn, gInC, gIsC, isKind, isNonD, isBlD, gNotIn, tyM, truD, cItV, itemsD, cRng, tgF, wipeE, restoreE, keepVal, Tgt.slots, maskE, cNewD, fits, cb_law_same]
theorem same_t (n : Nat) (a b c d : Int) : callN tab (n + 2) "_law_same" [.val (.tup [.int a, .int b, .int c, .int d]), .val (.tup [.int a, .int b, .int c, .int d])] = .ok (.val (.bl true)) [.none, .none] := by
  rw [call_law_same]
  have e1 := same_i n a
  have e2 := same_i n b
  have e3 := same_i n c
  have e4 := same_i n d
  have r : rng1D [.int 4] = some [.int 0, .int 1, .int 2, .int 3] := rfl
  simp [runF, cSeq, cNext, cIfS, cRet, cRetN, cDrop, cAsg, cAssign, cPar, setVals, MS.of, M.bind, mOk, mBad, cBad, cVar, cC, deref, lift1, lift2, liftN, derefs, cBin, cCmp, cCmpT, cTru, cNot, cNotT, cAnd, cOr, cAndT, cOrT, truO, cIf, cUn, asT, cChain, cNil, cCons, cTup, cLst, cNilO, cConsO, cCall, cMeth, cMethO, ownTy, methO, orE, esc, setN, exitR, exitS, exitSlot, tgTup, tgCons, tgNil, tgName, tgIx, cCallF, callWithD, takesN, cKw, cANil, cAV, cAIo, ownAt, arSlots, ios, nodupB, putBack, putBackN, ioVal, backSlot, perm, gIx, gIxQ, gIxS, gIxD, seqD, atI, ixN, gSet, gSetL, gInt, gAdd, Ev.gSub, gMul, gDiv, gMod, gGt, gLt, gLe, gGe, gOrd, gDivmod, gIntC, gAbs, gCatS, gCatL, isi_str_str, isi_str_int, isi_str_bool, isi_str_list, isi_str_tuple, isi_str_dict, isi_int_str, isi_int_int, isi_int_bool, isi_int_list, isi_int_tuple, isi_int_dict, isi_bl_str, isi_bl_int, isi_bl_bool, isi_bl_list, isi_bl_tuple, isi_bl_dict, isi_lst_str, isi_lst_int, isi_lst_bool, isi_lst_list, isi_lst_tuple, isi_lst_dict, isi_tup_str, isi_tup_int, isi_tup_bool, isi_tup_list, isi_tup_tuple, isi_tup_dict, isi_non_str, isi_non_int, isi_non_bool, isi_non_list, isi_non_tuple, isi_non_dict, isi_dic_str, isi_dic_int, isi_dic_bool, isi_dic_list, isi_dic_tuple, isi_dic_dict, gAll, gAny, gBls, gLen, gEq, gNe, gEqS, gEqB, gEqDic, gEqDp, scalD, eqD, gIn, gInC, gIsC, isKind, isNonD, isBlD, gNotIn, tyM, truD, cItV, itemsD, cRng, tgF, wipeE, restoreE, keepVal, Tgt.slots, maskE, cNewD, fits, cb_law_same, cLc, compL, r, e1, e2, e3, e4, listD, blsD]
/-! ### what is asked of a net -/
theorem pick_fig {E : EnvS} {i : Nat} {s : List Nat} (hl : s.length ≤ 100) (hw : wipeE E [i] = E) (hr : restoreE E E [i] = E) (h0 : cItV (cVar 0) E = .ok (s.map fun c => D.str [c]) E) (hi : ∀ d, cVar i (E.set i (.val d)) = .ok (.val d) (E.set i (.val d))) (hs : ∀ d, wipeE (E.set i (.val d)) [i] = E) :
    ∃ xs : List D, xs.length = (s.filter Net.isFig).length ∧ cLc [i] (.one i) (cItV (cVar 0)) (cCmpT gIn (cVar i) (cC (.str [48, 49, 50, 51]))) (cVar i) E = .ok (.fresh (.lst xs)) E := by
  have key : ∀ (s : List Nat) (acc : List D), acc.length + s.length ≤ 1000 → ∃ xs : List D, xs.length = (s.filter Net.isFig).length ∧ compL [i] (.one i) (cCmpT gIn (cVar i) (cC (.str [48, 49, 50, 51]))) (cVar i) (s.map fun c => D.str [c]) acc E = .ok (acc ++ xs) E := by
    intro s
    induction s with
    | nil => exact fun acc _ => ⟨[], rfl, by simp [compL]⟩
    | cons c s ih =>
      intro acc ha
      have ha : acc.length + (s.length + 1) ≤ 1000 := ha
      have ht : cCmpT gIn (cVar i) (cC (.str [48, 49, 50, 51])) (E.set i (.val (.str [c]))) = .ok (Net.isFig c) (E.set i (.val (.str [c]))) := inT (hi _) rfl
      cases hf : Net.isFig c with
      | false =>
        rw [hf] at ht
        obtain ⟨xs, l, e⟩ := ih acc (by omega)
        refine ⟨xs, by rw [List.filter_cons_of_neg (by simp [hf])]; exact l, ?_⟩
        rw [List.map_cons]
        unfold compL
        simp only [tgF, M.bind, ht, Bool.false_eq_true, if_false, hs, e]
      | true =>
        rw [hf] at ht
        have hf2 : fits (acc.length + 1) = true := by unfold fits; simp; omega
        obtain ⟨xs, l, e⟩ := ih (acc ++ [.str [c]]) (by simp; omega)
        refine ⟨.str [c] :: xs, by rw [List.filter_cons_of_pos hf]; simp [l], ?_⟩
        rw [List.map_cons]
        have hv : (cVar i) (E.set i (.val (.str [c]))) = .ok (.val (.str [c])) (E.set i (.val (.str [c]))) := hi _
        generalize cVar i = V at hv ht e ⊢
        unfold compL
        simp [tgF, M.bind, mOk, ht, hv, Ev.esc, hf2, hs, e]
  obtain ⟨xs, l, e⟩ := key s [] (by simp; omega)
  refine ⟨xs, l, ?_⟩
  rw [List.nil_append] at e
  have := cLc_eq (T := .one i) (fi := cItV (cVar 0)) h0 (hw.symm ▸ e)
  rw [this, hw, hr]
theorem av2 {X Y : M Op} {E : EnvS} {x y : D} (h1 : X E = .ok (.val x) E) (h2 : Y E = .ok (.val y) E) : cAV X (cAV Y cANil) E = .ok [.v x, .v y] E := by
  simp [cAV, M.bind, h1, h2, Ev.esc, cANil, mOk]
theorem pbn_id {as : List AR} {ss : List Slot} (h : ∀ i, ioVal as ss i = none) : ∀ (n : Nat) (E : EnvS), putBackN as ss n E = E
  | _, [] => rfl
  | n, s :: E => by
    show backSlot s (ioVal as ss n) :: putBackN as ss (n + 1) E = s :: E
    rw [h n, pbn_id h (n + 1) E]
    rfl
theorem call_same {fn X Y : M Op} {E : EnvS} {x : D} (h1 : X E = .ok (.val x) E) (h2 : Y E = .ok (.val x) E) (hf : fn [.val x, .val x] = .ok (.val (.bl true)) [.none, .none]) : cCallF fn (takesN 2 (cAV X (cAV Y cANil))) E = .ok (.val (.bl true)) E := by
  have e := callF_eq (δ := E) (δ1 := E) (k := 2) (as := [.v x, .v x]) (av2 h1 h2) rfl rfl rfl hf
  rw [e]
  congr 1
  exact pbn_id (fun _ => rfl) 0 E
theorem call_1 {fn X : M Op} {E : EnvS} {x r : D} (h1 : X E = .ok (.val x) E) (hf : fn [.val x] = .ok (.val r) [.none]) : cCallF fn (takesN 1 (cAV X cANil)) E = .ok (.val r) E := by
  have hfa : cAV X cANil E = .ok [.v x] E := by simp [cAV, M.bind, h1, Ev.esc, cANil, mOk]
  have e := callF_eq (δ := E) (δ1 := E) (k := 1) (as := [.v x]) hfa rfl rfl rfl hf
  rw [e]
  congr 1
  exact pbn_id (fun _ => rfl) 0 E
theorem call_1k {fn X : M Op} {E : EnvS} {x r : D} (h1 : X E = .ok (.val x) E) (hf : fn [.val x] = .ok (.val r) [.none]) : cCallF fn (takesN 1 (cKw [0] 0 1 cANil (cAV X cANil))) E = .ok (.val r) E := by
  have hfa : cKw [0] 0 1 cANil (cAV X cANil) E = .ok [.v x] E := by
    simp [cKw, cAV, M.bind, h1, Ev.esc, cANil, mOk, perm]
  have e := callF_eq (δ := E) (δ1 := E) (k := 1) (as := [.v x]) hfa rfl rfl rfl hf
  rw [e]
  congr 1
  exact pbn_id (fun _ => rfl) 0 E
end La
set_option Elab.async false
set_option linter.all false
set_option autoImplicit false
set_option maxRecDepth 100000
set_option maxHeartbeats 4000000
namespace La
open PySem PySem.Spec L2 Ev
open PyProof.Rows hiding St
/-! ### a net is told rightly -/
section
variable (C : Str → M Op)
def aC (f : Str) : M Op := cCallF (C f) (takesN 1 (cAV (cVar 0) (cANil)))
def aK (f : Str) : M Op := cCallF (C f) (takesN 1 (cKw [0] 0 1 (cANil) (cAV (cVar 0) (cANil))))
def aS (X Y : M Op) : M Op := cCallF (C "_law_same") (takesN 2 (cAV X (cAV Y (cANil))))
def aN (f : Str) : M Op := cCallF (C f) (takesN 1 (cAV (cBin gAdd (cC (.str [33])) (cVar 0)) (cANil)))
end
def aT : M Op := cCall gSum (cConsO (cVar 1) (cNilO))
def aT2 : M Op := cCall gSum (cConsO (cSl (cVar 1) (cPart (some (cC (.int 1)))) (cPart none)) (cNilO))
def aCnt : M Op := cLc [2] (.one 2) (cItV (cC (.str [33, 38, 124, 94]))) (mOk true) (cMeth "str" gCountS (cVar 0) (cConsO (cVar 2) (cNilO)))
def aFig : M Op := cLc [2] (.one 2) (cItV (cVar 0)) (cCmpT gIn (cVar 2) (cC (.str [48, 49, 50, 51]))) (cVar 2)
def aR : MS := cSeq (cRet (cC (.bl false))) (cNext)
def aEnd (C : Str → M Op) : M Op := cOr (cCmp gGt (cCall gLen (cConsO (cVar 0) (cNilO))) (cC (.int 59))) (cAnd (cCmp gEq (aN C "net_depth") (cBin gAdd (aC C "net_depth") (cC (.int 1)))) (cCmp gEq (aN C "gate_count") (cBin gAdd (aC C "gate_count") (cC (.int 1)))))
theorem asked_split (C : Str → M Op) : cb_law_asked C = cSeq (cAsg 1 (cCall (orG gTupC gTupT) (cConsO aCnt (cNilO))))
    (cSeq (cIfS (cOrT (cNotT (cTru (aS C (aC C "signs_of") (cVar 1)))) (cNotT (cTru (aS C (aK C "signs_of") (cVar 1))))) aR (cNext))
    (cSeq (cIfS (cOrT (cNotT (cTru (aS C (aC C "gate_count") aT))) (cNotT (cTru (aS C (aK C "gate_count") aT)))) aR (cNext))
    (cSeq (cIfS (cOrT (cNotT (cTru (aS C (aC C "net_depth") (aC C "_law_depth")))) (cNotT (cTru (aS C (aK C "net_depth") (aC C "_law_depth"))))) aR (cNext))
    (cSeq (cIfS (cOrT (cCmpT gNe (cMeth "str" gCountS (cVar 0) (cConsO (cC (.str [40])) (cNilO))) aT2) (cCmpT gNe (cCall gLen (cConsO aFig (cNilO))) (cBin gAdd aT2 (cC (.int 1))))) aR (cNext))
    (cSeq (cRet (aEnd C)) (cNext)))))) := rfl
theorem ne_ii {F G : M Op} {E : EnvS} {i : Int} (h1 : F E = .ok (.val (.int i)) E) (h2 : G E = .ok (.val (.int i)) E) : cCmpT gNe F G E = .ok false E := by
  have : gNe (.int i) (.int i) = some false := by simp [runF, cSeq, cNext, cIfS, cRet, cRetN, cDrop, cAsg, cAssign, cPar, setVals, MS.of, M.bind, mOk, mBad, cBad, cVar, cC, deref, lift1, lift2, liftN, derefs, cBin, cCmp, cCmpT, cTru, cNot, cNotT, cAnd, cOr, cAndT, cOrT, truO, cIf, cUn, asT, cChain, cNil, cCons, cTup, cLst, cNilO, cConsO, cCall, cMeth, cMethO, ownTy, methO, orE, esc, setN, exitR, exitS, exitSlot, tgTup, tgCons, tgNil, tgName, tgIx, cCallF, callWithD, takesN, cKw, cANil, cAV, cAIo, ownAt, arSlots, ios, nodupB, putBack, putBackN, ioVal, backSlot, perm, gIx, gIxQ, gIxS, gIxD, seqD, atI, ixN, gSet, gSetL, gInt, gAdd, Ev.gSub, gMul, gDiv, gMod, gGt, gLt, gLe, gGe, gOrd, gDivmod, gIntC, gAbs, gCatS, gCatL, isi_str_str, isi_str_int, isi_str_bool, isi_str_list, isi_str_tuple, isi_str_dict, isi_int_str, isi_int_int, isi_int_bool, isi_int_list, isi_int_tuple, isi_int_dict, isi_bl_str, isi_bl_int, isi_bl_bool, isi_bl_list, isi_bl_tuple, isi_bl_dict, isi_lst_str, isi_lst_int, isi_lst_bool, isi_lst_list, isi_lst_tuple, isi_lst_dict, isi_tup_str, isi_tup_int, isi_tup_bool, isi_tup_list, isi_tup_tuple, isi_tup_dict, isi_non_str, isi_non_int, isi_non_bool, isi_non_list, isi_non_tuple, isi_non_dict, isi_dic_str, isi_dic_int, isi_dic_bool, isi_dic_list, isi_dic_tuple, isi_dic_dict, gAll, gAny, gBls, gLen, gEq, gNe, gEqS, gEqB, gEqDic, gEqDp, scalD, eqD, gIn, gInC, gIsC, isKind, isNonD, isBlD, gNotIn, tyM, truD, cItV, itemsD, cRng, tgF, wipeE, restoreE, keepVal, Tgt.slots, maskE, cNewD, fits]
  simp [cCmpT, M.bind, h1, h2, lift2, deref, this]
theorem eq_ii {F G : M Op} {E : EnvS} {i : Int} (h1 : F E = .ok (.val (.int i)) E) (h2 : G E = .ok (.val (.int i)) E) : cCmp gEq F G E = .ok (.val (.bl true)) E := by
  have : gEq (.int i) (.int i) = some true := by simp [runF, cSeq, cNext, cIfS, cRet, cRetN, cDrop, cAsg, cAssign, cPar, setVals, MS.of, M.bind, mOk, mBad, cBad, cVar, cC, deref, lift1, lift2, liftN, derefs, cBin, cCmp, cCmpT, cTru, cNot, cNotT, cAnd, cOr, cAndT, cOrT, truO, cIf, cUn, asT, cChain, cNil, cCons, cTup, cLst, cNilO, cConsO, cCall, cMeth, cMethO, ownTy, methO, orE, esc, setN, exitR, exitS, exitSlot, tgTup, tgCons, tgNil, tgName, tgIx, cCallF, callWithD, takesN, cKw, cANil, cAV, cAIo, ownAt, arSlots, ios, nodupB, putBack, putBackN, ioVal, backSlot, perm, gIx, gIxQ, gIxS, gIxD, seqD, atI, ixN, gSet, gSetL, gInt, gAdd, Ev.gSub, gMul, gDiv, gMod, gGt, gLt, gLe, gGe, gOrd, gDivmod, gIntC, gAbs, gCatS, gCatL, isi_str_str, isi_str_int, isi_str_bool, isi_str_list, isi_str_tuple, isi_str_dict, isi_int_str, isi_int_int, isi_int_bool, isi_int_list, isi_int_tuple, isi_int_dict, isi_bl_str, isi_bl_int, isi_bl_bool, isi_bl_list, isi_bl_tuple, isi_bl_dict, isi_lst_str, isi_lst_int, isi_lst_bool, isi_lst_list, isi_lst_tuple, isi_lst_dict, isi_tup_str, isi_tup_int, isi_tup_bool, isi_tup_list, isi_tup_tuple, isi_tup_dict, isi_non_str, isi_non_int, isi_non_bool, isi_non_list, isi_non_tuple, isi_non_dict, isi_dic_str, isi_dic_int, isi_dic_bool, isi_dic_list, isi_dic_tuple, isi_dic_dict, gAll, gAny, gBls, gLen, gEq, gNe, gEqS, gEqB, gEqDic, gEqDp, scalD, eqD, gIn, gInC, gIsC, isKind, isNonD, isBlD, gNotIn, tyM, truD, cItV, itemsD, cRng, tgF, wipeE, restoreE, keepVal, Tgt.slots, maskE, cNewD, fits]
  simp [cCmp, M.bind, h1, h2, lift2, deref, this]
theorem ifo_ff {A B : M Bool} {a b : MS} {E : EnvS} (h1 : A E = .ok false E) (h2 : B E = .ok false E) : cIfS (cOrT A B) a b E = b E := by
  refine ifS_f' ?_
  simp [cOrT, M.bind, h1, h2]
theorem and_tt {A B : M Op} {E : EnvS} (h1 : A E = .ok (.val (.bl true)) E) (h2 : B E = .ok (.val (.bl true)) E) : cAnd A B E = .ok (.val (.bl true)) E := by
  simp [cAnd, M.bind, h1, h2, truO, lift1, deref, truD]
theorem or_t1 {A B : M Op} {E : EnvS} (h1 : A E = .ok (.val (.bl true)) E) : cOr A B E = .ok (.val (.bl true)) E := by
  simp [cOr, M.bind, h1, truO, lift1, deref, truD, mOk]
theorem or_f2 {A B : M Op} {E : EnvS} (h1 : A E = .ok (.val (.bl false)) E) (h2 : B E = .ok (.val (.bl true)) E) : cOr A B E = .ok (.val (.bl true)) E := by
  simp [cOr, M.bind, h1, h2, truO, lift1, deref, truD]
theorem gt_lenV {F : M Op} {E : EnvS} {n : Nat} (k : Nat) (h : F E = .ok (.val (.int (n : Nat))) E) : cCmp gGt F (cC (.int (k : Nat))) E = .ok (.val (.bl (decide (k < n)))) E := by
  have e := gt_len k h
  have g : gGt (.int (n : Nat)) (.int (k : Nat)) = some (decide (k < n)) := by
    show some (decide (((n : Nat) : Int) > ((k : Nat) : Int))) = _
    congr 1
    rw [decide_eq_decide]
    omega
  simp [cCmp, M.bind, h, cC, mOk, lift2, deref, g]
theorem len_fr {F : M Op} {E : EnvS} {xs : List D} (h : F E = .ok (.fresh (.lst xs)) E) : cCall gLen (cConsO F (cNilO)) E = .ok (.val (.int ((xs.length : Nat) : Int))) E := by
  simp [cCall, cConsO, M.bind, h, cNilO, mOk, liftN, derefs, deref, gLen]
theorem tup_fr {F : M Op} {E : EnvS} {xs : List D} (h : F E = .ok (.fresh (.lst xs)) E) : cCall (orG gTupC gTupT) (cConsO F (cNilO)) E = .ok (.val (.tup xs)) E := by
  have g : orG gTupC gTupT [.lst xs] = some (.val (.tup xs)) := rfl
  simp [cCall, cConsO, M.bind, h, cNilO, mOk, liftN, derefs, deref, g]
theorem sum_v {F : M Op} {E : EnvS} {d : D} {i : Int} (h : F E = .ok (.val d) E) (g : gSum [d] = some (.val (.int i))) : cCall gSum (cConsO F (cNilO)) E = .ok (.val (.int i)) E := by
  simp [cCall, cConsO, M.bind, h, cNilO, mOk, liftN, derefs, deref, g]
theorem tot_neg (t : Net) : tot (33 :: Net.txt t) = tot (Net.txt t) + 1 := by
  simp [tot, two2, List.count_cons]
  omega
abbrev EA (s : List Nat) : EnvS := [.val (.str s), .val (.tup (cs s)), .none]
theorem add_i {F G : M Op} {E : EnvS} {i j : Int} (h1 : F E = .ok (.val (.int i)) E) (h2 : G E = .ok (.val (.int j)) E) : cBin gAdd F G E = .ok (.val (.int (i + j))) E :=
  bin_vw h1 h2 rfl
theorem asked_ok (n : Nat) (t : Net) (ht : Net.ok t) (hl : (Net.txt t).length ≤ 60) : callN tab (n + 7) "_law_asked" [.val (.str (Net.txt t))] = .ok (.val (.bl true)) [.none] := by
  rw [call_law_asked, asked_split]
  have v0 : cVar 0 (EA (Net.txt t)) = .ok (.val (.str (Net.txt t))) (EA (Net.txt t)) := rfl
  have v1 : cVar 1 (EA (Net.txt t)) = .ok (.val (.tup (cs (Net.txt t)))) (EA (Net.txt t)) := rfl
  -- the due counts
  have d1 : aCnt [.val (.str (Net.txt t)), .none, .none] = .ok (.fresh (.lst (cs (Net.txt t)))) [.val (.str (Net.txt t)), .none, .none] := cnts (E := [.val (.str (Net.txt t)), .none, .none]) (i := 2) (s := Net.txt t) rfl rfl (fun _ => rfl) (fun _ => rfl) (fun _ => rfl)
  have d2 : cAsg 1 (cCall (orG gTupC gTupT) (cConsO aCnt (cNilO))) [.val (.str (Net.txt t)), .none, .none] = .nx (EA (Net.txt t)) := asg_val (tup_fr d1)
  -- signs
  have s1 := call_1 (fn := callN tab (n + 6) "signs_of") v0 (sgn_ok n t ht hl)
  have s2 := call_1k (fn := callN tab (n + 6) "signs_of") v0 (sgn_ok n t ht hl)
  have s3 := call_same s1 v1 (same_t (n + 4) _ _ _ _)
  have s4 := call_same s2 v1 (same_t (n + 4) _ _ _ _)
  -- their sum
  have g0 : aT (EA (Net.txt t)) = .ok (.val (.int ((tot (Net.txt t) : Nat) : Int))) (EA (Net.txt t)) := sum_v v1 (sum4t _ _ _ _)
  have g1 := call_1 (fn := callN tab (n + 6) "gate_count") v0 (gc_ok n t ht hl)
  have g2 := call_1k (fn := callN tab (n + 6) "gate_count") v0 (gc_ok n t ht hl)
  have g3 := call_same g1 g0 (same_i (n + 5) _)
  have g4 := call_same g2 g0 (same_i (n + 5) _)
  -- depth
  have e0 := call_1 (fn := callN tab (n + 6) "_law_depth") v0 (ld_ok (n + 5) t ht hl)
  have e1 := call_1 (fn := callN tab (n + 6) "net_depth") v0 (dep_ok n t ht hl)
  have e2 := call_1k (fn := callN tab (n + 6) "net_depth") v0 (dep_ok n t ht hl)
  have e3 := call_same e1 e0 (same_i (n + 5) _)
  have e4 := call_same e2 e0 (same_i (n + 5) _)
  -- brackets and figures
  have f0 : aT2 (EA (Net.txt t)) = .ok (.val (.int ((two2 (Net.txt t) : Nat) : Int))) (EA (Net.txt t)) := sum_v (d := .tup [.int (((Net.txt t).count 38 : Nat) : Int), .int (((Net.txt t).count 124 : Nat) : Int), .int (((Net.txt t).count 94 : Nat) : Int)]) rfl (sum3t _ _ _)
  have f1 : cMeth "str" gCountS (cVar 0) (cConsO (cC (.str [40])) (cNilO)) (EA (Net.txt t)) = .ok (.val (.int ((two2 (Net.txt t) : Nat) : Int))) (EA (Net.txt t)) := by
    have := meth_cnt (G := cC (.str [40])) (c := 40) v0 rfl
    rw [Net.cnt_open t ht] at this
    exact this
  obtain ⟨xs, l, f2⟩ := pick_fig (E := EA (Net.txt t)) (i := 2) (s := Net.txt t) (by omega) rfl rfl rfl (fun _ => rfl) (fun _ => rfl)
  have f3 : cCall gLen (cConsO aFig (cNilO)) (EA (Net.txt t)) = .ok (.val (.int (((two2 (Net.txt t) : Nat) : Int) + 1))) (EA (Net.txt t)) := by
    have := len_fr (F := aFig) f2
    rw [l, Net.cnt_fig t ht] at this
    exact this
  have f4 := add_i (G := cC (.int 1)) f0 rfl
  -- the end
  have z : aEnd (callN tab (n + 6)) (EA (Net.txt t)) = .ok (.val (.bl true)) (EA (Net.txt t)) := by
    have a0 := gt_lenV 59 (len_tx (t := Net.txt t) (by omega) v0)
    by_cases h59 : 59 < (Net.txt t).length
    · rw [decide_eq_true h59] at a0
      exact or_t1 a0
    · rw [decide_eq_false h59] at a0
      have hl2 : (Net.txt (.neg t)).length ≤ 60 := by
        show (Net.txt t).length + 1 ≤ 60
        omega
      have hf : fits (1 + (Net.txt t).length) = true := by unfold fits; exact decide_eq_true (by omega)
      have gg : gAdd (.str [33]) (.str (Net.txt t)) = some (.val (.str (33 :: Net.txt t))) := by
        show ((gInt _ _ (.str [33]) (.str (Net.txt t))).orElse _) = _
        simp [gAdd, gInt, gCatS, gCatL, hf]
      have b0 : cBin gAdd (cC (.str [33])) (cVar 0) (EA (Net.txt t)) = .ok (.val (.str (33 :: Net.txt t))) (EA (Net.txt t)) := bin_vw (F := cC (.str [33])) (a := .str [33]) rfl v0 gg
      have b1 := call_1 (fn := callN tab (n + 6) "net_depth") b0 (dep_ok n (.neg t) ht hl2)
      have b2 := call_1 (fn := callN tab (n + 6) "gate_count") b0 (gc_ok n (.neg t) ht hl2)
      have c1 := add_i (G := cC (.int 1)) e1 rfl
      have c2 := add_i (G := cC (.int 1)) g1 rfl
      have k2 : ((tot (Net.txt (.neg t)) : Nat) : Int) = ((tot (Net.txt t) : Nat) : Int) + 1 := by
        show ((tot (33 :: Net.txt t) : Nat) : Int) = _
        rw [tot_neg]
        rfl
      rw [k2] at b2
      exact or_f2 a0 (and_tt (eq_ii b1 c1) (eq_ii b2 c2))
  refine runF_rt (k := 3) (sl := [.val (.str (Net.txt t))]) (δ' := EA (Net.txt t)) ?_
  refine (cSeq_nx (show cAsg 1 (cCall (orG gTupC gTupT) (cConsO aCnt (cNilO))) _ = _ from d2)).trans ?_
  refine (cSeq_nx ((if_ok2 s3 s4).trans rfl)).trans ?_
  refine (cSeq_nx ((if_ok2 g3 g4).trans rfl)).trans ?_
  refine (cSeq_nx ((if_ok2 e3 e4).trans rfl)).trans ?_
  refine (cSeq_nx ((ifo_ff (ne_ii f1 f0) (ne_ii f3 f4)).trans rfl)).trans ?_
  exact ret_val z
end La
set_option Elab.async false
set_option linter.all false
set_option autoImplicit false
set_option maxRecDepth 100000
set_option maxHeartbeats 4000000
namespace La
open PySem PySem.Spec L2 Ev
open PyProof.Rows hiding St
/-! ### draws -/
theorem take_ok (n : Nat) (w : D) (hw : W3 w) (m : Int) (h0 : 0 < m) (h1 : m < 1073741824) : ∃ v w', 0 ≤ v ∧ v < m ∧ W3 w' ∧ callN tab (n + 1) "_law_take" [.own true w, .val (.int m)] = .ok (.val (.int v)) [.own true w', .none] := by
  obtain ⟨a, b, c, rfl⟩ := hw
  rw [call_law_take]
  by_cases ha : 0 < a
  · refine ⟨a % m, .lst [.int (a / m), .int b, .int c], Int.emod_nonneg _ (by omega), Int.emod_lt_of_pos _ h0, ⟨_, _, _, rfl⟩, ?_⟩
    simp [runF, cSeq, cNext, cIfS, cRet, cRetN, cDrop, cAsg, cAssign, cPar, setVals, MS.of, M.bind, mOk, mBad, cBad, cVar, cC, deref, lift1, lift2, liftN, derefs, cBin, cCmp, cCmpT, cTru, cNot, cNotT, cAnd, cOr, cAndT, cOrT, truO, cIf, cUn, asT, cChain, cNil, cCons, cTup, cLst, cNilO, cConsO, cCall, cMeth, cMethO, ownTy, methO, orE, esc, setN, exitR, exitS, exitSlot, tgTup, tgCons, tgNil, tgName, tgIx, cCallF, callWithD, takesN, cKw, cANil, cAV, cAIo, ownAt, arSlots, ios, nodupB, putBack, putBackN, ioVal, backSlot, perm, gIx, gIxQ, gIxS, gIxD, seqD, atI, ixN, gSet, gSetL, gInt, gAdd, Ev.gSub, gMul, gDiv, gMod, gGt, gLt, gLe, gGe, gOrd, gDivmod, gIntC, gAbs, gCatS, gCatL, isi_str_str, isi_str_int, isi_str_bool, isi_str_list, isi_str_tuple, isi_str_dict, isi_int_str, isi_int_int, isi_int_bool, isi_int_list, isi_int_tuple, isi_int_dict, isi_bl_str, isi_bl_int, isi_bl_bool, isi_bl_list, isi_bl_tuple, isi_bl_dict, isi_lst_str, isi_lst_int, isi_lst_bool, isi_lst_list, isi_lst_tuple, isi_lst_dict, isi_tup_str, isi_tup_int, isi_tup_bool, isi_tup_list, isi_tup_tuple, isi_tup_dict, isi_non_str, isi_non_int, isi_non_bool, isi_non_list, isi_non_tuple, isi_non_dict, isi_dic_str, isi_dic_int, isi_dic_bool, isi_dic_list, isi_dic_tuple, isi_dic_dict, gAll, gAny, gBls, gLen, gEq, gNe, gEqS, gEqB, gEqDic, gEqDp, scalD, eqD, gIn, gInC, gIsC, isKind, isNonD, isBlD, gNotIn, tyM, truD, cItV, itemsD, cRng, tgF, wipeE, restoreE, keepVal, Tgt.slots, maskE, cNewD, fits, cb_law_take, ha, div_ok h0 h1]
  · have e1 : mulOk b (b % 28657 + 40009) = true := mul_r (by omega)
    have e2 : mulOk 50023 (c + 1) = true := mul_l (by decide)
    have e3 : divOk ((b * (b % 28657 + 40009) + 50023 * (c + 1) + 17) % 2147483563) 83 = true := div_ok (by decide) (by decide)
    refine ⟨((b * (b % 28657 + 40009) + 50023 * (c + 1) + 17) % 2147483563) / 83 % m, .lst [.int a, .int ((b * (b % 28657 + 40009) + 50023 * (c + 1) + 17) % 2147483563), .int (c + 1)], Int.emod_nonneg _ (by omega), Int.emod_lt_of_pos _ h0, ⟨_, _, _, rfl⟩, ?_⟩
    simp [runF, cSeq, cNext, cIfS, cRet, cRetN, cDrop, cAsg, cAssign, cPar, setVals, MS.of, M.bind, mOk, mBad, cBad, cVar, cC, deref, lift1, lift2, liftN, derefs, cBin, cCmp, cCmpT, cTru, cNot, cNotT, cAnd, cOr, cAndT, cOrT, truO, cIf, cUn, asT, cChain, cNil, cCons, cTup, cLst, cNilO, cConsO, cCall, cMeth, cMethO, ownTy, methO, orE, esc, setN, exitR, exitS, exitSlot, tgTup, tgCons, tgNil, tgName, tgIx, cCallF, callWithD, takesN, cKw, cANil, cAV, cAIo, ownAt, arSlots, ios, nodupB, putBack, putBackN, ioVal, backSlot, perm, gIx, gIxQ, gIxS, gIxD, seqD, atI, ixN, gSet, gSetL, gInt, gAdd, Ev.gSub, gMul, gDiv, gMod, gGt, gLt, gLe, gGe, gOrd, gDivmod, gIntC, gAbs, gCatS, gCatL, isi_str_str, isi_str_int, isi_str_bool, isi_str_list, isi_str_tuple, isi_str_dict, isi_int_str, isi_int_int, isi_int_bool, isi_int_list, isi_int_tuple, isi_int_dict, isi_bl_str, isi_bl_int, isi_bl_bool, isi_bl_list, isi_bl_tuple, isi_bl_dict, isi_lst_str, isi_lst_int, isi_lst_bool, isi_lst_list, isi_lst_tuple, isi_lst_dict, isi_tup_str, isi_tup_int, isi_tup_bool, isi_tup_list, isi_tup_tuple, isi_tup_dict, isi_non_str, isi_non_int, isi_non_bool, isi_non_list, isi_non_tuple, isi_non_dict, isi_dic_str, isi_dic_int, isi_dic_bool, isi_dic_list, isi_dic_tuple, isi_dic_dict, gAll, gAny, gBls, gLen, gEq, gNe, gEqS, gEqB, gEqDic, gEqDp, scalD, eqD, gIn, gInC, gIsC, isKind, isNonD, isBlD, gNotIn, tyM, truD, cItV, itemsD, cRng, tgF, wipeE, restoreE, keepVal, Tgt.slots, maskE, cNewD, fits, cb_law_take, ha, e1, e2, e3, h0]
theorem well_ok (n : Nat) (ns : List Int) (hl : ns.length ≤ 63) (k : Nat) : ∃ a b, callN tab (n + 1) "_law_well" [.val (.ext (ns.map D.int)), .val (.int k)] = .ok (.fresh (.lst [.int a, .int b, .int 0])) [.none, .none] := by
  rw [call_law_well]
  -- the first value
  have e1 : ∃ o : Int, cIf (cCmpT gLt (cVar 1) (cCall gLen (cConsO (cVar 0) (cNilO)))) (cCall gIntC (cConsO (cBin gIx (cVar 0) (cVar 1)) (cNilO))) (cBin gAdd (cBin gAdd (cBin gMul (cC (.int 7919)) (cVar 1)) (cBin gMod (cCall gIntC (cConsO (cCall gSum (cConsO (cSl (cVar 0) (cPart none) (cPart (some (cC (.int 3))))) (cNilO))) (cNilO))) (cC (.int 1000003)))) (cC (.int 29)))
      [.val (.ext (ns.map D.int)), .val (.int k), .none, .none, .none] = .ok (.val (.int o)) [.val (.ext (ns.map D.int)), .val (.int k), .none, .none, .none] := by
    have hf : ns.length ≤ 16777216 := by omega
    by_cases hk : k < ns.length
    · refine ⟨ns[k], ?_⟩
      have hk' : (k : Int) < ns.length := by omega
      simp [runF, cSeq, cNext, cIfS, cRet, cRetN, cDrop, cAsg, cAssign, cPar, setVals, MS.of, M.bind, mOk, mBad, cBad, cVar, cC, deref, lift1, lift2, liftN, derefs, cBin, cCmp, cCmpT, cTru, cNot, cNotT, cAnd, cOr, cAndT, cOrT, truO, cIf, cUn, asT, cChain, cNil, cCons, cTup, cLst, cNilO, cConsO, cCall, cMeth, cMethO, ownTy, methO, orE, esc, setN, exitR, exitS, exitSlot, tgTup, tgCons, tgNil, tgName, tgIx, cCallF, callWithD, takesN, cKw, cANil, cAV, cAIo, ownAt, arSlots, ios, nodupB, putBack, putBackN, ioVal, backSlot, perm, gIx, gIxQ, gIxS, gIxD, seqD, atI, ixN, gSet, gSetL, gInt, gAdd, Ev.gSub, gMul, gDiv, gMod, gGt, gLt, gLe, gGe, gOrd, gDivmod, gIntC, gAbs, gCatS, gCatL, isi_str_str, isi_str_int, isi_str_bool, isi_str_list, isi_str_tuple, isi_str_dict, isi_int_str, isi_int_int, isi_int_bool, isi_int_list, isi_int_tuple, isi_int_dict, isi_bl_str, isi_bl_int, isi_bl_bool, isi_bl_list, isi_bl_tuple, isi_bl_dict, isi_lst_str, isi_lst_int, isi_lst_bool, isi_lst_list, isi_lst_tuple, isi_lst_dict, isi_tup_str, isi_tup_int, isi_tup_bool, isi_tup_list, isi_tup_tuple, isi_tup_dict, isi_non_str, isi_non_int, isi_non_bool, isi_non_list, isi_non_tuple, isi_non_dict, isi_dic_str, isi_dic_int, isi_dic_bool, isi_dic_list, isi_dic_tuple, isi_dic_dict, gAll, gAny, gBls, gLen, gEq, gNe, gEqS, gEqB, gEqDic, gEqDp, scalD, eqD, gIn, gInC, gIsC, isKind, isNonD, isBlD, gNotIn, tyM, truD, cItV, itemsD, cRng, tgF, wipeE, restoreE, keepVal, Tgt.slots, maskE, cNewD, fits, hf, hk', hk]
    · have hk' : ¬ (k : Int) < ns.length := by omega
      have m1 : mulOk 7919 k = true := mul_l (by decide)
      have c1 := ints_cut ns none (some 3)
      have c2 := Ev.ints_map (Ev.cut ns none (some 3))
      refine ⟨7919 * k + (Ev.cut ns none (some 3)).sum % 1000003 + 29, ?_⟩
      simp [runF, cSeq, cNext, cIfS, cRet, cRetN, cDrop, cAsg, cAssign, cPar, setVals, MS.of, M.bind, mOk, mBad, cBad, cVar, cC, deref, lift1, lift2, liftN, derefs, cBin, cCmp, cCmpT, cTru, cNot, cNotT, cAnd, cOr, cAndT, cOrT, truO, cIf, cUn, asT, cChain, cNil, cCons, cTup, cLst, cNilO, cConsO, cCall, cMeth, cMethO, ownTy, methO, orE, esc, setN, exitR, exitS, exitSlot, tgTup, tgCons, tgNil, tgName, tgIx, cCallF, callWithD, takesN, cKw, cANil, cAV, cAIo, ownAt, arSlots, ios, nodupB, putBack, putBackN, ioVal, backSlot, perm, gIx, gIxQ, gIxS, gIxD, seqD, atI, ixN, gSet, gSetL, gInt, gAdd, Ev.gSub, gMul, gDiv, gMod, gGt, gLt, gLe, gGe, gOrd, gDivmod, gIntC, gAbs, gCatS, gCatL, isi_str_str, isi_str_int, isi_str_bool, isi_str_list, isi_str_tuple, isi_str_dict, isi_int_str, isi_int_int, isi_int_bool, isi_int_list, isi_int_tuple, isi_int_dict, isi_bl_str, isi_bl_int, isi_bl_bool, isi_bl_list, isi_bl_tuple, isi_bl_dict, isi_lst_str, isi_lst_int, isi_lst_bool, isi_lst_list, isi_lst_tuple, isi_lst_dict, isi_tup_str, isi_tup_int, isi_tup_bool, isi_tup_list, isi_tup_tuple, isi_tup_dict, isi_non_str, isi_non_int, isi_non_bool, isi_non_list, isi_non_tuple, isi_non_dict, isi_dic_str, isi_dic_int, isi_dic_bool, isi_dic_list, isi_dic_tuple, isi_dic_dict, gAll, gAny, gBls, gLen, gEq, gNe, gEqS, gEqB, gEqDic, gEqDp, scalD, eqD, gIn, gInC, gIsC, isKind, isNonD, isBlD, gNotIn, tyM, truD, cItV, itemsD, cRng, tgF, wipeE, restoreE, keepVal, Tgt.slots, maskE, cNewD, fits, hf, hk', hk, m1, cSl, cPart, gSl, c1, gSum, listD, c2]
  obtain ⟨o, e1⟩ := e1
  -- the cells
  have items : cItV (cBin gAdd (cSl (cVar 0) (cPart none) (cPart (some (cC (.int 6))))) (cLst (cCons (cVar 2) (cNil)))) [.val (.ext (ns.map D.int)), .val (.int k), .val (.int o), .val (.int (40127 + 977 * k)), .none] = .ok ((Ev.cut ns none (some 6) ++ [o]).map D.int) [.val (.ext (ns.map D.int)), .val (.int k), .val (.int o), .val (.int (40127 + 977 * k)), .none] := by
    have c1 := ints_cut ns none (some 6)
    have c2 := cut_len ns none (some 6)
    have c3 : (Ev.cut ns none (some 6)).length + 1 ≤ 16777216 := by omega
    simp [runF, cSeq, cNext, cIfS, cRet, cRetN, cDrop, cAsg, cAssign, cPar, setVals, MS.of, M.bind, mOk, mBad, cBad, cVar, cC, deref, lift1, lift2, liftN, derefs, cBin, cCmp, cCmpT, cTru, cNot, cNotT, cAnd, cOr, cAndT, cOrT, truO, cIf, cUn, asT, cChain, cNil, cCons, cTup, cLst, cNilO, cConsO, cCall, cMeth, cMethO, ownTy, methO, orE, esc, setN, exitR, exitS, exitSlot, tgTup, tgCons, tgNil, tgName, tgIx, cCallF, callWithD, takesN, cKw, cANil, cAV, cAIo, ownAt, arSlots, ios, nodupB, putBack, putBackN, ioVal, backSlot, perm, gIx, gIxQ, gIxS, gIxD, seqD, atI, ixN, gSet, gSetL, gInt, gAdd, Ev.gSub, gMul, gDiv, gMod, gGt, gLt, gLe, gGe, gOrd, gDivmod, gIntC, gAbs, gCatS, gCatL, isi_str_str, isi_str_int, isi_str_bool, isi_str_list, isi_str_tuple, isi_str_dict, isi_int_str, isi_int_int, isi_int_bool, isi_int_list, isi_int_tuple, isi_int_dict, isi_bl_str, isi_bl_int, isi_bl_bool, isi_bl_list, isi_bl_tuple, isi_bl_dict, isi_lst_str, isi_lst_int, isi_lst_bool, isi_lst_list, isi_lst_tuple, isi_lst_dict, isi_tup_str, isi_tup_int, isi_tup_bool, isi_tup_list, isi_tup_tuple, isi_tup_dict, isi_non_str, isi_non_int, isi_non_bool, isi_non_list, isi_non_tuple, isi_non_dict, isi_dic_str, isi_dic_int, isi_dic_bool, isi_dic_list, isi_dic_tuple, isi_dic_dict, gAll, gAny, gBls, gLen, gEq, gNe, gEqS, gEqB, gEqDic, gEqDp, scalD, eqD, gIn, gInC, gIsC, isKind, isNonD, isBlD, gNotIn, tyM, truD, cItV, itemsD, cRng, tgF, wipeE, restoreE, keepVal, Tgt.slots, maskE, cNewD, fits, cSl, cPart, gSl, c1, c3]
  have lp := forL_inv (m := [.val (.ext (ns.map D.int)), .val (.int k), .val (.int o), .val (.int (40127 + 977 * k)), .none]) (i := 4) (body := cSeq (cAsg 3 (cBin gMod (cCall gIntC (cConsO (cBin gAdd (cBin gAdd (cBin gMul (cVar 3) (cC (.int 48271))) (cBin gMod (cCall gIntC (cConsO (cVar 4) (cNilO))) (cC (.int 2147483399)))) (cC (.int 53))) (cNilO))) (cC (.int 2147483563)))) (cNext))
    (P := fun _ δ => ∃ x : Int, δ = [.val (.ext (ns.map D.int)), .val (.int k), .val (.int o), .val (.int x), .none]) ((Ev.cut ns none (some 6) ++ [o]).map D.int) [] [.val (.ext (ns.map D.int)), .val (.int k), .val (.int o), .val (.int (40127 + 977 * k)), .none] ⟨_, rfl⟩ (fun d hd done δ hp => by
      obtain ⟨c, hc, rfl⟩ := List.mem_map.mp hd
      obtain ⟨x, rfl⟩ := hp
      have m1 : mulOk x 48271 = true := mul_r (by decide)
      refine ⟨[.val (.ext (ns.map D.int)), .val (.int k), .val (.int o), .val (.int ((x * 48271 + c % 2147483399 + 53) % 2147483563)), .val (.int c)], .inl ?_, ⟨_, rfl⟩⟩
      simp [runF, cSeq, cNext, cIfS, cRet, cRetN, cDrop, cAsg, cAssign, cPar, setVals, MS.of, M.bind, mOk, mBad, cBad, cVar, cC, deref, lift1, lift2, liftN, derefs, cBin, cCmp, cCmpT, cTru, cNot, cNotT, cAnd, cOr, cAndT, cOrT, truO, cIf, cUn, asT, cChain, cNil, cCons, cTup, cLst, cNilO, cConsO, cCall, cMeth, cMethO, ownTy, methO, orE, esc, setN, exitR, exitS, exitSlot, tgTup, tgCons, tgNil, tgName, tgIx, cCallF, callWithD, takesN, cKw, cANil, cAV, cAIo, ownAt, arSlots, ios, nodupB, putBack, putBackN, ioVal, backSlot, perm, gIx, gIxQ, gIxS, gIxD, seqD, atI, ixN, gSet, gSetL, gInt, gAdd, Ev.gSub, gMul, gDiv, gMod, gGt, gLt, gLe, gGe, gOrd, gDivmod, gIntC, gAbs, gCatS, gCatL, isi_str_str, isi_str_int, isi_str_bool, isi_str_list, isi_str_tuple, isi_str_dict, isi_int_str, isi_int_int, isi_int_bool, isi_int_list, isi_int_tuple, isi_int_dict, isi_bl_str, isi_bl_int, isi_bl_bool, isi_bl_list, isi_bl_tuple, isi_bl_dict, isi_lst_str, isi_lst_int, isi_lst_bool, isi_lst_list, isi_lst_tuple, isi_lst_dict, isi_tup_str, isi_tup_int, isi_tup_bool, isi_tup_list, isi_tup_tuple, isi_tup_dict, isi_non_str, isi_non_int, isi_non_bool, isi_non_list, isi_non_tuple, isi_non_dict, isi_dic_str, isi_dic_int, isi_dic_bool, isi_dic_list, isi_dic_tuple, isi_dic_dict, gAll, gAny, gBls, gLen, gEq, gNe, gEqS, gEqB, gEqDic, gEqDp, scalD, eqD, gIn, gInC, gIsC, isKind, isNonD, isBlD, gNotIn, tyM, truD, cItV, itemsD, cRng, tgF, wipeE, restoreE, keepVal, Tgt.slots, maskE, cNewD, fits, m1])
  obtain ⟨δ', lp1, x, rfl⟩ := lp
  have hfor := cFor_eq (T := .one 4) items lp1
  have m2 : mulOk 977 (k : Int) = true := mul_l (by decide)
  have p17 : powOk 10 17 = true := by decide
  simp only [cb_law_well]
  generalize cIf (cCmpT gLt (cVar 1) (cCall gLen (cConsO (cVar 0) (cNilO)))) (cCall gIntC (cConsO (cBin gIx (cVar 0) (cVar 1)) (cNilO))) (cBin gAdd (cBin gAdd (cBin gMul (cC (.int 7919)) (cVar 1)) (cBin gMod (cCall gIntC (cConsO (cCall gSum (cConsO (cSl (cVar 0) (cPart none) (cPart (some (cC (.int 3))))) (cNilO))) (cNilO))) (cC (.int 1000003)))) (cC (.int 29))) = F1 at e1
  generalize cFor (.one 4) (cItV (cBin gAdd (cSl (cVar 0) (cPart none) (cPart (some (cC (.int 6))))) (cLst (cCons (cVar 2) (cNil))))) (cSeq (cAsg 3 (cBin gMod (cCall gIntC (cConsO (cBin gAdd (cBin gAdd (cBin gMul (cVar 3) (cC (.int 48271))) (cBin gMod (cCall gIntC (cConsO (cVar 4) (cNilO))) (cC (.int 2147483399)))) (cC (.int 53))) (cNilO))) (cC (.int 2147483563)))) (cNext)) = F2 at hfor
  by_cases h0 : o < 0
  · refine ⟨-o, x, ?_⟩
    simp [runF, cSeq, cNext, cIfS, cRet, cRetN, cDrop, cAsg, cAssign, cPar, setVals, MS.of, M.bind, mOk, mBad, cBad, cVar, cC, deref, lift1, lift2, liftN, derefs, cBin, cCmp, cCmpT, cTru, cNot, cNotT, cAnd, cOr, cAndT, cOrT, truO, cIf, cUn, asT, cChain, cNil, cCons, cTup, cLst, cNilO, cConsO, cCall, cMeth, cMethO, ownTy, methO, orE, esc, setN, exitR, exitS, exitSlot, tgTup, tgCons, tgNil, tgName, tgIx, cCallF, callWithD, takesN, cKw, cANil, cAV, cAIo, ownAt, arSlots, ios, nodupB, putBack, putBackN, ioVal, backSlot, perm, gIx, gIxQ, gIxS, gIxD, seqD, atI, ixN, gSet, gSetL, gInt, gAdd, Ev.gSub, gMul, gDiv, gMod, gGt, gLt, gLe, gGe, gOrd, gDivmod, gIntC, gAbs, gCatS, gCatL, isi_str_str, isi_str_int, isi_str_bool, isi_str_list, isi_str_tuple, isi_str_dict, isi_int_str, isi_int_int, isi_int_bool, isi_int_list, isi_int_tuple, isi_int_dict, isi_bl_str, isi_bl_int, isi_bl_bool, isi_bl_list, isi_bl_tuple, isi_bl_dict, isi_lst_str, isi_lst_int, isi_lst_bool, isi_lst_list, isi_lst_tuple, isi_lst_dict, isi_tup_str, isi_tup_int, isi_tup_bool, isi_tup_list, isi_tup_tuple, isi_tup_dict, isi_non_str, isi_non_int, isi_non_bool, isi_non_list, isi_non_tuple, isi_non_dict, isi_dic_str, isi_dic_int, isi_dic_bool, isi_dic_list, isi_dic_tuple, isi_dic_dict, gAll, gAny, gBls, gLen, gEq, gNe, gEqS, gEqB, gEqDic, gEqDp, scalD, eqD, gIn, gInC, gIsC, isKind, isNonD, isBlD, gNotIn, tyM, truD, cItV, itemsD, cRng, tgF, wipeE, restoreE, keepVal, Tgt.slots, maskE, cNewD, fits, e1, m2, hfor, p17, gPow, h0]
  · by_cases h1 : (10 : Int) ^ 17 ≤ o
    · refine ⟨o, x, ?_⟩
      simp at h1
      simp [runF, cSeq, cNext, cIfS, cRet, cRetN, cDrop, cAsg, cAssign, cPar, setVals, MS.of, M.bind, mOk, mBad, cBad, cVar, cC, deref, lift1, lift2, liftN, derefs, cBin, cCmp, cCmpT, cTru, cNot, cNotT, cAnd, cOr, cAndT, cOrT, truO, cIf, cUn, asT, cChain, cNil, cCons, cTup, cLst, cNilO, cConsO, cCall, cMeth, cMethO, ownTy, methO, orE, esc, setN, exitR, exitS, exitSlot, tgTup, tgCons, tgNil, tgName, tgIx, cCallF, callWithD, takesN, cKw, cANil, cAV, cAIo, ownAt, arSlots, ios, nodupB, putBack, putBackN, ioVal, backSlot, perm, gIx, gIxQ, gIxS, gIxD, seqD, atI, ixN, gSet, gSetL, gInt, gAdd, Ev.gSub, gMul, gDiv, gMod, gGt, gLt, gLe, gGe, gOrd, gDivmod, gIntC, gAbs, gCatS, gCatL, isi_str_str, isi_str_int, isi_str_bool, isi_str_list, isi_str_tuple, isi_str_dict, isi_int_str, isi_int_int, isi_int_bool, isi_int_list, isi_int_tuple, isi_int_dict, isi_bl_str, isi_bl_int, isi_bl_bool, isi_bl_list, isi_bl_tuple, isi_bl_dict, isi_lst_str, isi_lst_int, isi_lst_bool, isi_lst_list, isi_lst_tuple, isi_lst_dict, isi_tup_str, isi_tup_int, isi_tup_bool, isi_tup_list, isi_tup_tuple, isi_tup_dict, isi_non_str, isi_non_int, isi_non_bool, isi_non_list, isi_non_tuple, isi_non_dict, isi_dic_str, isi_dic_int, isi_dic_bool, isi_dic_list, isi_dic_tuple, isi_dic_dict, gAll, gAny, gBls, gLen, gEq, gNe, gEqS, gEqB, gEqDic, gEqDp, scalD, eqD, gIn, gInC, gIsC, isKind, isNonD, isBlD, gNotIn, tyM, truD, cItV, itemsD, cRng, tgF, wipeE, restoreE, keepVal, Tgt.slots, maskE, cNewD, fits, e1, m2, hfor, p17, gPow, h0, h1]
    · refine ⟨0, x, ?_⟩
      simp at h1
      have h2 : ¬ (100000000000000000 : Int) ≤ o := by omega
      simp [runF, cSeq, cNext, cIfS, cRet, cRetN, cDrop, cAsg, cAssign, cPar, setVals, MS.of, M.bind, mOk, mBad, cBad, cVar, cC, deref, lift1, lift2, liftN, derefs, cBin, cCmp, cCmpT, cTru, cNot, cNotT, cAnd, cOr, cAndT, cOrT, truO, cIf, cUn, asT, cChain, cNil, cCons, cTup, cLst, cNilO, cConsO, cCall, cMeth, cMethO, ownTy, methO, orE, esc, setN, exitR, exitS, exitSlot, tgTup, tgCons, tgNil, tgName, tgIx, cCallF, callWithD, takesN, cKw, cANil, cAV, cAIo, ownAt, arSlots, ios, nodupB, putBack, putBackN, ioVal, backSlot, perm, gIx, gIxQ, gIxS, gIxD, seqD, atI, ixN, gSet, gSetL, gInt, gAdd, Ev.gSub, gMul, gDiv, gMod, gGt, gLt, gLe, gGe, gOrd, gDivmod, gIntC, gAbs, gCatS, gCatL, isi_str_str, isi_str_int, isi_str_bool, isi_str_list, isi_str_tuple, isi_str_dict, isi_int_str, isi_int_int, isi_int_bool, isi_int_list, isi_int_tuple, isi_int_dict, isi_bl_str, isi_bl_int, isi_bl_bool, isi_bl_list, isi_bl_tuple, isi_bl_dict, isi_lst_str, isi_lst_int, isi_lst_bool, isi_lst_list, isi_lst_tuple, isi_lst_dict, isi_tup_str, isi_tup_int, isi_tup_bool, isi_tup_list, isi_tup_tuple, isi_tup_dict, isi_non_str, isi_non_int, isi_non_bool, isi_non_list, isi_non_tuple, isi_non_dict, isi_dic_str, isi_dic_int, isi_dic_bool, isi_dic_list, isi_dic_tuple, isi_dic_dict, gAll, gAny, gBls, gLen, gEq, gNe, gEqS, gEqB, gEqDic, gEqDp, scalD, eqD, gIn, gInC, gIsC, isKind, isNonD, isBlD, gNotIn, tyM, truD, cItV, itemsD, cRng, tgF, wipeE, restoreE, keepVal, Tgt.slots, maskE, cNewD, fits, e1, m2, hfor, p17, gPow, h0, h1, h2]
theorem compL_pick {vs : List Nat} {i : Nat} {ft : M Bool} {fe : M Op} {δ0 : EnvS} {p : D → Bool} {g : D → D} : ∀ (ds acc : List D), (∀ d ∈ ds, ∃ δ1, ft (δ0.set i (.val d)) = .ok (p d) δ1 ∧ (p d = false → wipeE δ1 vs = δ0) ∧ (p d = true → ∃ δ2 δ3 o, fe δ1 = .ok o δ2 ∧ Ev.esc o δ2 = .ok (g d) δ3 ∧ wipeE δ3 vs = δ0)) → acc.length + ds.length ≤ 16777216 →
    compL vs (.one i) ft fe ds acc δ0 = .ok (acc ++ (ds.filter p).map g) δ0
  | [], acc, _, _ => by simp [compL]
  | d :: ds, acc, h, hl => by
    obtain ⟨δ1, h1, hf, ht⟩ := h d (by simp)
    cases hp : p d with
    | false =>
      have ih := compL_pick (p := p) (g := g) (fe := fe) ds acc (fun z hz => h z (by simp [hz])) (by simp at hl ⊢; omega)
      rw [hp] at h1
      unfold compL
      simp only [tgF, M.bind, h1, Bool.false_eq_true, if_false, hf hp, ih]
      rw [List.filter_cons_of_neg (by simp [hp])]
    | true =>
      obtain ⟨δ2, δ3, o, h2, h3, h4⟩ := ht hp
      have hl' : acc.length + 1 ≤ 16777216 := by simp at hl; omega
      have ih := compL_pick (p := p) (g := g) (fe := fe) ds (acc ++ [g d]) (fun z hz => h z (by simp [hz])) (by simp at hl ⊢; omega)
      rw [hp] at h1
      unfold compL
      simp only [tgF, M.bind, h1, h2, h3, if_true, h4, ih]
      rw [List.filter_cons_of_pos hp]
      simp [fits, hl']
/-- a comprehension over a range that keeps some of its ints -/
theorem cLc_rng {i m : Nat} {fi : M (List D)} {ft : M Bool} {δ : EnvS} {p : Nat → Bool} (hm : m ≤ 1000) (h1 : fi δ = .ok (rng 0 m) δ) (hw : wipeE δ [i] = δ) (hr : restoreE δ δ [i] = δ) (hv : ∀ d : D, (δ.set i (.val d))[i]? = some (.val d)) (hs : ∀ d : D, wipeE (δ.set i (.val d)) [i] = δ)
    (ht : ∀ k : Nat, k < m → ft (δ.set i (.val (.int k))) = .ok (p k) (δ.set i (.val (.int k)))) :
    cLc [i] (.one i) fi ft (cVar i) δ = .ok (.fresh (.lst (((List.range m).filter p).map fun k => D.int (k : Nat)))) δ := by
  have e := compL_pick (vs := [i]) (i := i) (ft := ft) (fe := cVar i) (δ0 := δ) (p := fun d => match d with | .int z => p z.toNat | _ => false) (g := fun d => d) (rng 0 m) [] (fun d hd => by
    obtain ⟨k, hk, rfl⟩ := List.mem_map.mp hd
    have hk := List.mem_range.mp hk
    rw [Int.zero_add]
    have hn : ((k : Int)).toNat = k := by omega
    refine ⟨δ.set i (.val (.int k)), ht k hk, fun _ => hs _, fun _ => ⟨δ.set i (.val (.int k)), δ.set i (.val (.int k)), .val (.int k), ?_, rfl, hs _⟩⟩
    unfold cVar
    rw [hv]) (by simp [rng]; omega)
  rw [List.nil_append] at e
  have e2 : ((rng 0 m).filter fun d => match d with | .int z => p z.toNat | _ => false).map (fun d => d) = ((List.range m).filter p).map fun k => D.int (k : Nat) := by
    unfold rng
    rw [List.filter_map, List.map_map]
    congr 1
    · funext k
      simp
    · congr 1
      funext k
      simp [Function.comp]
  rw [e2] at e
  have := cLc_eq (T := .one i) (fi := fi) h1 (hw.symm ▸ e)
  rw [this, hw, hr]

theorem pickL_gen {C : Str → M Op} {w w' : D} {v : Int} {xs : List D} (h0 : 0 ≤ v) (h1 : v < xs.length) (ht : C "_law_take" [.own true w, .val (.int xs.length)] = .ok (.val (.int v)) [.own true w', .none]) : ∃ x, x ∈ xs ∧ runF 2 (cb_law_pick C) [.own true w, .val (.lst xs)] = .ok (.val x) [.own true w', .none] := by
  obtain ⟨x, hx, e⟩ := at_lst v h0 h1
  refine ⟨x, hx, ?_⟩
  have q : cCallF (C "_law_take") (takesN 2 (cAIo 0 (cAV (cCall gLen (cConsO (cVar 1) (cNilO))) (cANil)))) [.own true w, .val (.lst xs)] = .ok (.val (.int v)) [.own true w', .val (.lst xs)] :=
    callF_eq (δ := [.own true w, .val (.lst xs)]) (δ1 := [.own true w, .val (.lst xs)]) (k := 2) (as := [.io 0, .v (.int xs.length)]) rfl rfl rfl rfl ht
  unfold cb_law_pick
  generalize cCallF (C "_law_take") (takesN 2 (cAIo 0 (cAV (cCall gLen (cConsO (cVar 1) (cNilO))) (cANil)))) = F at q ⊢
  simp [runF, cSeq, cRet, MS.of, cBin, M.bind, cVar, q, lift2, deref, e, exitR, exitS, exitSlot]
theorem pickL (n : Nat) (w : D) (hw : W3 w) (xs : List D) (h : 0 < xs.length) (h2 : xs.length < 1000000) : ∃ x w', x ∈ xs ∧ W3 w' ∧ callN tab (n + 2) "_law_pick" [.own true w, .val (.lst xs)] = .ok (.val x) [.own true w', .none] := by
  obtain ⟨v, w', h0, h1, h3, e⟩ := take_ok n w hw xs.length (by omega) (by omega)
  rw [call_law_pick]
  obtain ⟨x, hx, e2⟩ := pickL_gen h0 h1 e
  exact ⟨x, w', hx, h3, e2⟩
theorem pickS_gen {C : Str → M Op} {w w' : D} {v : Int} {s : List Nat} (h0 : 0 ≤ v) (h1 : v < s.length) (hl : s.length ≤ 1000) (ht : C "_law_take" [.own true w, .val (.int s.length)] = .ok (.val (.int v)) [.own true w', .none]) : ∃ c, c ∈ s ∧ runF 2 (cb_law_pick C) [.own true w, .val (.str s)] = .ok (.val (.str [c])) [.own true w', .none] := by
  obtain ⟨c, hc, _, e⟩ := at_ge (xs := s) h0 h1
  refine ⟨c, hc, ?_⟩
  have hf : fits s.length = true := by unfold fits; exact decide_eq_true (by omega)
  have hf2 : s.length ≤ 16777216 := by omega
  have e : gIx (.str s) (.int v) = some (.val (.str [c])) := by
    simp [gIx, gIxQ, seqD, gIxS, fits, hf2, e]
  have a0 : cAIo 0 (cAV (cCall gLen (cConsO (cVar 1) (cNilO))) (cANil)) [.own true w, .val (.str s)] = .ok [.io 0, .v (.int s.length)] [.own true w, .val (.str s)] := by
    have l := len_tx (t := s) hl (E := [.own true w, .val (.str s)]) (i := 1) rfl
    generalize cCall gLen (cConsO (cVar 1) (cNilO)) = L at l ⊢
    simp [cAIo, ownAt, cAV, M.bind, l, Ev.esc, mOk, cANil]
  have q : cCallF (C "_law_take") (takesN 2 (cAIo 0 (cAV (cCall gLen (cConsO (cVar 1) (cNilO))) (cANil)))) [.own true w, .val (.str s)] = .ok (.val (.int v)) [.own true w', .val (.str s)] :=
    callF_eq (δ := [.own true w, .val (.str s)]) (δ1 := [.own true w, .val (.str s)]) (k := 2) (as := [.io 0, .v (.int s.length)]) a0 rfl rfl rfl ht
  unfold cb_law_pick
  generalize cCallF (C "_law_take") (takesN 2 (cAIo 0 (cAV (cCall gLen (cConsO (cVar 1) (cNilO))) (cANil)))) = F at q ⊢
  simp [runF, cSeq, cRet, MS.of, cBin, M.bind, cVar, q, lift2, deref, e, exitR, exitS, exitSlot]
theorem pickS (n : Nat) (w : D) (hw : W3 w) (s : List Nat) (h : 0 < s.length) (h2 : s.length ≤ 1000) : ∃ c w', c ∈ s ∧ W3 w' ∧ callN tab (n + 2) "_law_pick" [.own true w, .val (.str s)] = .ok (.val (.str [c])) [.own true w', .none] := by
  obtain ⟨v, w', h0, h1, h3, e⟩ := take_ok n w hw s.length (by omega) (by omega)
  rw [call_law_pick]
  obtain ⟨x, hx, e2⟩ := pickS_gen h0 h1 h2 e
  exact ⟨x, w', hx, h3, e2⟩
/-! ### a drawn net -/
theorem cut_to {α : Type} (s : List α) (k : Nat) (h : k ≤ s.length) : Ev.cut s none (some (k : Int)) = s.take k := by
  unfold Ev.cut
  rw [HT.sIx_none, HT.sIx_nat, List.drop_zero, Nat.sub_zero, Nat.min_eq_left h]
theorem cut_from {α : Type} (s : List α) (k : Nat) (h : k ≤ s.length) : Ev.cut s (some (k : Int)) none = s.drop k := by
  unfold Ev.cut
  rw [HT.sIx_none, HT.sIx_nat, Nat.min_eq_left h, List.take_of_length_le (by simp)]
theorem str_4 (v : Int) (h0 : 0 ≤ v) (h1 : v < 4) : ∃ c, (c = 48 ∨ c = 49 ∨ c = 50 ∨ c = 51) ∧ orG gStrC gStrS [.int v] = some (.val (.str [c])) := by
  have : v = 0 ∨ v = 1 ∨ v = 2 ∨ v = 3 := by omega
  rcases this with rfl | rfl | rfl | rfl
  · exact ⟨48, by decide, by kernel_rfl⟩
  · exact ⟨49, by decide, by kernel_rfl⟩
  · exact ⟨50, by decide, by kernel_rfl⟩
  · exact ⟨51, by decide, by kernel_rfl⟩
abbrev EW (w : D) (m : Int) (most : Nat) (sg : List Nat) (net : List Nat) (x5 x6 x7 x8 x9 : Slot) : EnvS := [.own true w, .val (.int m), .val (.int (most : Nat)), .val (.str sg), .val (.str net), x5, x6, x7, x8, x9]
def wTake (C : Str → M Op) : M Op := cCallF (C "_law_take") (takesN 2 (cAIo 0 (cAV (cVar 1) (cANil))))
def wTake14 (C : Str → M Op) : M Op := cCallF (C "_law_take") (takesN 2 (cAIo 0 (cAV (cC (.int 14)) (cANil))))
def wStr (C : Str → M Op) : M Op := cCall (orG gStrC gStrS) (cConsO (wTake C) (cNilO))
def wPick (C : Str → M Op) (i : Nat) : M Op := cCallF (C "_law_pick") (takesN 2 (cAIo 0 (cAV (cVar i) (cANil))))
def wPl : M Op := cLc [6] (.one 6) (cRng rng1D (cCons (cCall gLen (cConsO (cVar 4) (cNilO))) (cNil))) (cCmpT gIn (cBin gIx (cVar 4) (cVar 6)) (cC (.str [48, 49, 50, 51]))) (cVar 6)
def wPart (C : Str → M Op) : M Op := cIf (cCmpT gEq (cVar 8) (cC (.str [33]))) (cBin gAdd (cC (.str [33])) (cBin gIx (cVar 4) (cVar 6))) (cBin gAdd (cBin gAdd (cBin gAdd (cBin gAdd (cC (.str [40])) (cBin gIx (cVar 4) (cVar 6))) (cVar 8)) (wStr C)) (cC (.str [41])))
def wFits : M Bool := cCmpT gLe (cBin gSub (cBin gAdd (cCall gLen (cConsO (cVar 4) (cNilO))) (cCall gLen (cConsO (cVar 9) (cNilO)))) (cC (.int 1))) (cVar 2)
def wTurned : M Bool := cNotT (cAndT (cCmpT gGt (cVar 6) (cC (.int 0))) (cAndT (cCmpT gEq (cBin gIx (cVar 4) (cBin gSub (cVar 6) (cC (.int 1)))) (cC (.str [33]))) (cCmpT gNotIn (cC (.str [94])) (cVar 3))))
def wPut : M Op := cBin gAdd (cBin gAdd (cSl (cVar 4) (cPart none) (cPart (some (cVar 6)))) (cVar 9)) (cSl (cVar 4) (cPart (some (cBin gAdd (cVar 6) (cC (.int 1))))) (cPart none))
def wB (C : Str → M Op) : MS := cSeq (cAsg 7 wPl) (cSeq (cPar [6, 8] (cCons (wPick C 7) (cCons (wPick C 3) (cNil)))) (cSeq (cAsg 9 (wPart C)) (cSeq (cIfS (cAndT wFits wTurned) (cSeq (cAsg 4 wPut) (cNext)) (cNext)) (cNext))))
theorem net_split (C : Str → M Op) : cb_law_net C = cSeq (cAsg 4 (wStr C)) (cSeq (cFor (.one 5) (cRng rng1D (cCons (wTake14 C) (cNil))) (wB C)) (cSeq (cRet (cVar 4)) (cNext))) := rfl
section
variable {m : Int} {most : Nat} {sg : List Nat}
theorem ix_net {net : List Nat} (hl : net.length ≤ 60) (k : Nat) (hk : k < net.length) {E : EnvS} (h4 : cVar 4 E = .ok (.val (.str net)) E) {G : M Op} (hG : G E = .ok (.val (.int (k : Nat))) E) : cBin gIx (cVar 4) G E = .ok (.val (.str [net[k]])) E := by
  have e : gIx (.str net) (.int (k : Nat)) = some (.val (.str [net[k]])) := by
    have hf2 : net.length ≤ 16777216 := by omega
    have : atI net ((k : Nat) : Int) = some net[k] := by
      unfold atI ixN
      rw [if_pos (by omega), if_pos (by omega)]
      show net[((k : Nat) : Int).toNat]? = _
      rw [Int.toNat_natCast, List.getElem?_eq_getElem hk]
    simp [gIx, gIxQ, seqD, gIxS, fits, hf2, this]
  exact ix_vl h4 hG e
theorem wPl_ok (w : D) {net : List Nat} (hl : net.length ≤ 60) (x5 : Slot) : wPl (EW w m most sg net x5 .none .none .none .none) = .ok (.fresh (.lst (((List.range net.length).filter fun k => Net.isFig (net.getD k 0)).map fun k => D.int (k : Nat)))) (EW w m most sg net x5 .none .none .none .none) := by
  refine cLc_rng (i := 6) (m := net.length) (p := fun k => Net.isFig (net.getD k 0)) (by omega) ?_ rfl rfl (fun _ => rfl) (fun _ => rfl) fun k hk => ?_
  · have l := len_tx (t := net) (by omega) (E := EW w m most sg net x5 .none .none .none .none) (i := 4) rfl
    have r : rngB ((net.length : Nat) : Int) = true := by unfold rngB; simp; omega
    have r2 := rng1_ok r
    rw [Int.toNat_natCast] at r2
    refine cRng_eq (ds := [.int net.length]) ?_ r2
    generalize cCall gLen (cConsO (cVar 4) (cNilO)) = L at l ⊢
    simp [cCons, M.bind, l, Ev.esc, mOk, cNil]
  · have h := ix_net hl k hk (E := (EW w m most sg net x5 .none .none .none .none).set 6 (.val (.int (k : Nat)))) rfl (G := cVar 6) rfl
    have := inT (t := [48, 49, 50, 51]) (G := cC (.str [48, 49, 50, 51])) h rfl
    rw [this]
    have e : net.getD k 0 = net[k] := by simp [List.getD, hk]
    rw [e]
    rfl
end
end La
set_option Elab.async false
set_option linter.all false
set_option autoImplicit false
set_option maxRecDepth 100000
set_option maxHeartbeats 4000000
namespace La
open PySem PySem.Spec L2 Ev
open PyProof.Rows hiding St
/-! ### `_law_net` draws a net -/
section
variable {m : Int} {most : Nat} {sg : List Nat}
theorem wTake_ok (n : Nat) {w : D} (hw : W3 w) (h0 : 0 < m) (h1 : m < 5) (net : List Nat) (x5 x6 x7 x8 x9 : Slot) : ∃ v w', 0 ≤ v ∧ v < m ∧ W3 w' ∧ wTake (callN tab (n + 1)) (EW w m most sg net x5 x6 x7 x8 x9) = .ok (.val (.int v)) (EW w' m most sg net x5 x6 x7 x8 x9) := by
  obtain ⟨v, w', a, b, c, e⟩ := take_ok n w hw m h0 (by omega)
  exact ⟨v, w', a, b, c, callF_eq (δ := EW w m most sg net x5 x6 x7 x8 x9) (δ1 := EW w m most sg net x5 x6 x7 x8 x9) (k := 2) (as := [.io 0, .v (.int m)]) rfl rfl rfl rfl e⟩
theorem str_fr {F : M Op} {E E1 : EnvS} {v : Int} {r : D} (h : F E = .ok (.val (.int v)) E1) (g : orG gStrC gStrS [.int v] = some (.val r)) : cCall (orG gStrC gStrS) (cConsO F (cNilO)) E = .ok (.val r) E1 := by
  simp [cCall, cConsO, M.bind, h, cNilO, mOk, liftN, derefs, deref, g]
theorem wStr_ok (n : Nat) {w : D} (hw : W3 w) (h0 : 0 < m) (h1 : m < 5) (net : List Nat) (x5 x6 x7 x8 x9 : Slot) : ∃ c w', (c = 48 ∨ c = 49 ∨ c = 50 ∨ c = 51) ∧ W3 w' ∧ wStr (callN tab (n + 1)) (EW w m most sg net x5 x6 x7 x8 x9) = .ok (.val (.str [c])) (EW w' m most sg net x5 x6 x7 x8 x9) := by
  obtain ⟨v, w', a, b, c, e⟩ := wTake_ok (most := most) (sg := sg) n hw h0 h1 net x5 x6 x7 x8 x9
  obtain ⟨f, hf, g⟩ := str_4 v a (by omega)
  exact ⟨f, w', hf, c, str_fr e g⟩
theorem gadd_s (a b : List Nat) (h : a.length + b.length ≤ 1000) : gAdd (.str a) (.str b) = some (.val (.str (a ++ b))) := by
  have hf : fits (a.length + b.length) = true := by unfold fits; exact decide_eq_true (by omega)
  simp [gAdd, gInt, gCatS, hf]
theorem if_t {c : M Bool} {F G : M Op} {E E1 : EnvS} (h : c E = .ok true E1) : cIf c F G E = F E1 := by
  unfold cIf M.bind
  rw [h]
  rfl
theorem if_f {c : M Bool} {F G : M Op} {E E1 : EnvS} (h : c E = .ok false E1) : cIf c F G E = G E1 := by
  unfold cIf M.bind
  rw [h]
  rfl
theorem wPart_ok (n : Nat) {w : D} (hw : W3 w) (h0 : 0 < m) (h1 : m < 5) {net : List Nat} (hl : net.length ≤ 60) {k : Nat} (hk : k < net.length) (hd : Net.isFig net[k] = true) {c : Nat} (hc : c = 33 ∨ c = 38 ∨ c = 124 ∨ c = 94) (x5 x7 : Slot) :
    ∃ q w', (∃ u, Net.ok u ∧ q = Net.txt u) ∧ q.length ≤ 5 ∧ W3 w' ∧ wPart (callN tab (n + 1)) (EW w m most sg net x5 (.val (.int (k : Nat))) x7 (.val (.str [c])) .none) = .ok (.val (.str q)) (EW w' m most sg net x5 (.val (.int (k : Nat))) x7 (.val (.str [c])) .none) := by
  have fd := Net.fig_of hd
  have i1 := ix_net hl k hk (E := EW w m most sg net x5 (.val (.int (k : Nat))) x7 (.val (.str [c])) .none) rfl (G := cVar 6) rfl
  have t := eqT_ss (F := cVar 8) (G := cC (.str [33])) (E := EW w m most sg net x5 (.val (.int (k : Nat))) x7 (.val (.str [c])) .none) (a := [c]) (c := [33]) rfl rfl
  by_cases h : c = 33
  · subst h
    refine ⟨[33, net[k]], w, ⟨.neg (.fig net[k]), fd, rfl⟩, by simp, hw, ?_⟩
    unfold wPart
    rw [if_t t]
    exact bin_vw (F := cC (.str [33])) (a := .str [33]) rfl i1 (gadd_s [33] [net[k]] (by simp))
  · have hn : decide ([c] = [33]) = false := decide_eq_false (by simpa using h)
    rw [hn] at t
    obtain ⟨f, w', hf, hw', e⟩ := wStr_ok (most := most) (sg := sg) n hw h0 h1 net x5 (.val (.int (k : Nat))) x7 (.val (.str [c])) .none
    refine ⟨[40, net[k], c, f, 41], w', ⟨.pair c (.fig net[k]) (.fig f), ⟨by omega, fd, hf⟩, rfl⟩, Nat.le_refl _, hw', ?_⟩
    unfold wPart
    rw [if_f t]
    have b1 := bin_vw (F := cC (.str [40])) (a := .str [40]) rfl i1 (gadd_s [40] [net[k]] (by simp))
    have b2 := bin_vw (G := cVar 8) (b := .str [c]) b1 rfl (gadd_s [40, net[k]] [c] (by simp))
    have b3 := bin_vw b2 e (gadd_s [40, net[k], c] [f] (by simp))
    exact bin_vw (G := cC (.str [41])) (b := .str [41]) b3 rfl (gadd_s [40, net[k], c, f] [41] (by simp))
theorem le_ii {F G : M Op} {E : EnvS} {i j : Int} (h1 : F E = .ok (.val (.int i)) E) (h2 : G E = .ok (.val (.int j)) E) : cCmpT gLe F G E = .ok (decide (i ≤ j)) E := by
  have : gLe (.int i) (.int j) = some (decide (i ≤ j)) := rfl
  simp [cCmpT, M.bind, h1, h2, lift2, deref, this]
theorem wFits_ok {w : D} {net q : List Nat} (hl : net.length ≤ 60) (hq : q.length ≤ 5) (x5 x6 x7 x8 : Slot) : wFits (EW w m most sg net x5 x6 x7 x8 (.val (.str q))) = .ok (decide ((net.length : Int) + (q.length : Int) - 1 ≤ (most : Nat))) (EW w m most sg net x5 x6 x7 x8 (.val (.str q))) := by
  have l1 := len_tx (t := net) (by omega) (E := EW w m most sg net x5 x6 x7 x8 (.val (.str q))) (i := 4) rfl
  have l2 := len_tx (t := q) (by omega) (E := EW w m most sg net x5 x6 x7 x8 (.val (.str q))) (i := 9) rfl
  have l3 := add_i l1 l2
  have l4 := bin_vw (G := cC (.int 1)) (b := .int 1) (g := Ev.gSub) l3 rfl (r := .int ((net.length : Int) + (q.length : Int) - 1)) rfl
  exact le_ii l4 rfl
theorem notin_v (c : Nat) (t : List Nat) : gNotIn (.str [c]) (.str t) = some (!decide (c ∈ t)) := by
  simp [gNotIn, gInC]
theorem not_b {A : M Bool} {E : EnvS} {b : Bool} (h : A E = .ok b E) : cNotT A E = .ok (!b) E := by
  simp [cNotT, M.bind, h, mOk]
theorem wTurned_ok {w : D} {net q : List Nat} (hl : net.length ≤ 60) {k : Nat} (hk : k < net.length) (x5 x7 x8 : Slot) : ∃ b, wTurned (EW w m most sg net x5 (.val (.int (k : Nat))) x7 x8 (.val (.str q))) = .ok b (EW w m most sg net x5 (.val (.int (k : Nat))) x7 x8 (.val (.str q))) := by
  have h1 : cCmpT gGt (cVar 6) (cC (.int 0)) (EW w m most sg net x5 (.val (.int (k : Nat))) x7 x8 (.val (.str q))) = .ok (decide (0 < k)) (EW w m most sg net x5 (.val (.int (k : Nat))) x7 x8 (.val (.str q))) := gt_len 0 rfl
  have h3 : cCmpT gNotIn (cC (.str [94])) (cVar 3) (EW w m most sg net x5 (.val (.int (k : Nat))) x7 x8 (.val (.str q))) = .ok (!decide (94 ∈ sg)) (EW w m most sg net x5 (.val (.int (k : Nat))) x7 x8 (.val (.str q))) := by
    have a1 : cC (.str [94]) (EW w m most sg net x5 (.val (.int (k : Nat))) x7 x8 (.val (.str q))) = .ok (.val (.str [94])) (EW w m most sg net x5 (.val (.int (k : Nat))) x7 x8 (.val (.str q))) := rfl
    have a2 : cVar 3 (EW w m most sg net x5 (.val (.int (k : Nat))) x7 x8 (.val (.str q))) = .ok (.val (.str sg)) (EW w m most sg net x5 (.val (.int (k : Nat))) x7 x8 (.val (.str q))) := rfl
    generalize EW w m most sg net x5 (.val (.int (k : Nat))) x7 x8 (.val (.str q)) = E at a1 a2 ⊢
    simp [cCmpT, M.bind, a1, a2, lift2, deref, notin_v]
  by_cases h0 : 0 < k
  · have s1 : cBin gSub (cVar 6) (cC (.int 1)) (EW w m most sg net x5 (.val (.int (k : Nat))) x7 x8 (.val (.str q))) = .ok (.val (.int ((k - 1 : Nat) : Int))) (EW w m most sg net x5 (.val (.int (k : Nat))) x7 x8 (.val (.str q))) := by
      have e : Ev.gSub (.int ((k : Nat) : Int)) (.int 1) = some (.val (.int ((k - 1 : Nat) : Int))) := by
        show some (Op.val (.int (((k : Nat) : Int) - 1))) = _
        congr 3
        omega
      exact bin_vw (F := cVar 6) (G := cC (.int 1)) (a := .int ((k : Nat) : Int)) (b := .int 1) rfl rfl e
    have i1 := ix_net hl (k - 1) (by omega) (E := EW w m most sg net x5 (.val (.int (k : Nat))) x7 x8 (.val (.str q))) rfl s1
    have t := eqT_ss (G := cC (.str [33])) (c := [33]) i1 rfl
    exact ⟨_, not_b (andT h1 fun _ => andT t fun _ => h3)⟩
  · rw [decide_eq_false h0] at h1
    exact ⟨_, not_b (andT (b := false) h1 fun z => nomatch z)⟩
theorem sl_to {E : EnvS} {i : Nat} {s : List Nat} {G : M Op} {k : Nat} (hs : s.length ≤ 1000) (hk : k ≤ s.length) (h1 : cVar i E = .ok (.val (.str s)) E) (h2 : G E = .ok (.val (.int (k : Nat))) E) : cSl (cVar i) (cPart none) (cPart (some G)) E = .ok (.val (.str (s.take k))) E := by
  have hf : fits s.length = true := by unfold fits; exact decide_eq_true (by omega)
  simp [cSl, cPart, M.bind, h1, h2, mOk, lift1, deref, gSl, hf, cut_to s k hk]
theorem sl_from {E : EnvS} {i : Nat} {s : List Nat} {G : M Op} {k : Nat} (hs : s.length ≤ 1000) (hk : k ≤ s.length) (h1 : cVar i E = .ok (.val (.str s)) E) (h2 : G E = .ok (.val (.int (k : Nat))) E) : cSl (cVar i) (cPart (some G)) (cPart none) E = .ok (.val (.str (s.drop k))) E := by
  have hf : fits s.length = true := by unfold fits; exact decide_eq_true (by omega)
  simp [cSl, cPart, M.bind, h1, h2, mOk, lift1, deref, gSl, hf, cut_from s k hk]
theorem wPut_ok {w : D} {net q : List Nat} (hl : net.length ≤ 60) (hq : q.length ≤ 5) {k : Nat} (hk : k < net.length) (x5 x7 x8 : Slot) : wPut (EW w m most sg net x5 (.val (.int (k : Nat))) x7 x8 (.val (.str q))) = .ok (.val (.str (net.take k ++ (q ++ net.drop (k + 1))))) (EW w m most sg net x5 (.val (.int (k : Nat))) x7 x8 (.val (.str q))) := by
  have a1 := sl_to (G := cVar 6) (k := k) (s := net) (E := EW w m most sg net x5 (.val (.int (k : Nat))) x7 x8 (.val (.str q))) (i := 4) (by omega) (by omega) rfl rfl
  have a2 : cBin gAdd (cVar 6) (cC (.int 1)) (EW w m most sg net x5 (.val (.int (k : Nat))) x7 x8 (.val (.str q))) = .ok (.val (.int ((k + 1 : Nat) : Int))) (EW w m most sg net x5 (.val (.int (k : Nat))) x7 x8 (.val (.str q))) := bin_vw (F := cVar 6) (G := cC (.int 1)) (a := .int ((k : Nat) : Int)) (b := .int 1) rfl rfl (add_one k)
  have a3 := sl_from (s := net) (i := 4) (by omega) (by omega) rfl a2
  have b1 := bin_vw (G := cVar 9) (b := .str q) a1 rfl (gadd_s (net.take k) q (by rw [List.length_take]; omega))
  have b2 := bin_vw b1 a3 (gadd_s (net.take k ++ q) (net.drop (k + 1)) (by rw [List.length_append, List.length_take, List.length_drop]; omega))
  rw [List.append_assoc] at b2
  exact b2
theorem par2 {F1 F2 : M Op} {δ δ1 δ2 : EnvS} {a b : D} {i j : Nat} (h1 : F1 δ = .ok (.val a) δ1) (h2 : F2 δ1 = .ok (.val b) δ2) : cPar [i, j] (cCons F1 (cCons F2 cNil)) δ = .nx (setVals δ2 [i, j] [a, b]) := by
  simp [cPar, MS.of, cCons, M.bind, h1, h2, Ev.esc, mOk, cNil]
theorem fig_at {net : List Nat} (h : 0 < (net.filter Net.isFig).length) : ∃ k, k ∈ (List.range net.length).filter fun k => Net.isFig (net.getD k 0) := by
  obtain ⟨c, hc⟩ := List.exists_mem_of_length_pos h
  obtain ⟨h1, h2⟩ := List.mem_filter.mp hc
  obtain ⟨k, hk, rfl⟩ := List.mem_iff_getElem.mp h1
  refine ⟨k, List.mem_filter.mpr ⟨List.mem_range.mpr hk, ?_⟩⟩
  have : net.getD k 0 = net[k] := by simp [List.getD, hk]
  rw [this]
  exact h2
theorem split_at {net : List Nat} {k : Nat} (hk : k < net.length) : net = net.take k ++ net[k] :: net.drop (k + 1) := by
  rw [← List.drop_eq_getElem_cons hk, List.take_append_drop]
def Gat (sg : List Nat) : Prop := 0 < sg.length ∧ sg.length ≤ 4 ∧ ∀ c ∈ sg, c = 33 ∨ c = 38 ∨ c = 124 ∨ c = 94
theorem wB_ok (n : Nat) (hg : Gat sg) (h60 : most ≤ 60) {w : D} (hw : W3 w) (h0 : 0 < m) (h1 : m < 5) {t : Net} (ht : Net.ok t) (hl : (Net.txt t).length ≤ most) (d : D) :
    ∃ w' t' x6 x7 x8 x9, W3 w' ∧ Net.ok t' ∧ (Net.txt t').length ≤ most ∧ wB (callN tab (n + 2)) (EW w m most sg (Net.txt t) (.val d) .none .none .none .none) = .nx (EW w' m most sg (Net.txt t') (.val d) x6 x7 x8 x9) := by
  obtain ⟨k0, hk0⟩ := fig_at (Net.has_fig t ht)
  have p1 := wPl_ok (m := m) (most := most) (sg := sg) w (net := Net.txt t) (by omega) (.val d)
  generalize hP : (List.range (Net.txt t).length).filter (fun k => Net.isFig ((Net.txt t).getD k 0)) = P at p1 hk0
  have hPl : P.length ≤ (Net.txt t).length := by
    rw [← hP]
    refine Nat.le_trans (List.length_filter_le ..) ?_
    simp
  have hP0 : 0 < P.length := List.length_pos_of_mem hk0
  have p2 : cAsg 7 wPl (EW w m most sg (Net.txt t) (.val d) .none .none .none .none) = .nx (EW w m most sg (Net.txt t) (.val d) .none (.own false (.lst (P.map fun k => D.int (k : Nat)))) .none .none) := asg_fresh p1
  obtain ⟨x, w1, hx, hw1, q1⟩ := pickL n w hw (P.map fun k => D.int (k : Nat)) (by simpa using hP0) (by simp; omega)
  obtain ⟨k, hk, rfl⟩ := List.mem_map.mp hx
  rw [← hP] at hk
  obtain ⟨hk1, hk2⟩ := List.mem_filter.mp hk
  have hk1 := List.mem_range.mp hk1
  have hk2 : Net.isFig (Net.txt t)[k] = true := by
    have e : (Net.txt t).getD k 0 = (Net.txt t)[k] := by simp [List.getD, hk1]
    rw [e] at hk2
    exact hk2
  obtain ⟨c, w2, hc, hw2, q2⟩ := pickS n w1 hw1 sg hg.1 (by have := hg.2.1; omega)
  generalize hL : D.lst (P.map fun k => D.int (k : Nat)) = L at p2 q1
  have r1 : wPick (callN tab (n + 2)) 7 (EW w m most sg (Net.txt t) (.val d) .none (.own false L) .none .none) = .ok (.val (.int (k : Nat))) (EW w1 m most sg (Net.txt t) (.val d) .none (.val L) .none .none) :=
    callF_eq (δ := EW w m most sg (Net.txt t) (.val d) .none (.own false L) .none .none) (δ1 := EW w m most sg (Net.txt t) (.val d) .none (.val L) .none .none) (k := 2) (as := [.io 0, .v L]) rfl rfl rfl rfl q1
  have r2 : wPick (callN tab (n + 2)) 3 (EW w1 m most sg (Net.txt t) (.val d) .none (.val L) .none .none) = .ok (.val (.str [c])) (EW w2 m most sg (Net.txt t) (.val d) .none (.val L) .none .none) :=
    callF_eq (δ := EW w1 m most sg (Net.txt t) (.val d) .none (.val L) .none .none) (δ1 := EW w1 m most sg (Net.txt t) (.val d) .none (.val L) .none .none) (k := 2) (as := [.io 0, .v (.str sg)]) rfl rfl rfl rfl q2
  have r3 : cPar [6, 8] (cCons (wPick (callN tab (n + 2)) 7) (cCons (wPick (callN tab (n + 2)) 3) (cNil))) (EW w m most sg (Net.txt t) (.val d) .none (.own false L) .none .none) = .nx (EW w2 m most sg (Net.txt t) (.val d) (.val (.int (k : Nat))) (.val L) (.val (.str [c])) .none) := par2 r1 r2
  obtain ⟨q, w3, hq, hql, hw3, e1⟩ := wPart_ok (most := most) (sg := sg) (n + 1) hw2 h0 h1 (net := Net.txt t) (by omega) hk1 hk2 (hg.2.2 c hc) (.val d) (.val L)
  have e2 : cAsg 9 (wPart (callN tab (n + 2))) (EW w2 m most sg (Net.txt t) (.val d) (.val (.int (k : Nat))) (.val L) (.val (.str [c])) .none) = .nx (EW w3 m most sg (Net.txt t) (.val d) (.val (.int (k : Nat))) (.val L) (.val (.str [c])) (.val (.str q))) := asg_val e1
  have f1 := wFits_ok (m := m) (most := most) (sg := sg) (w := w3) (net := Net.txt t) (by omega) hql (.val d) (.val (.int (k : Nat))) (.val L) (.val (.str [c]))
  obtain ⟨b, f2⟩ := wTurned_ok (m := m) (most := most) (sg := sg) (w := w3) (net := Net.txt t) (q := q) (by omega) hk1 (.val d) (.val L) (.val (.str [c]))
  have f3 := andT f1 (b := b) fun _ => f2
  cases hb : (decide (((Net.txt t).length : Int) + (q.length : Int) - 1 ≤ (most : Nat)) && b) with
  | false =>
    rw [hb] at f3
    refine ⟨w3, t, .val (.int (k : Nat)), .val L, .val (.str [c]), .val (.str q), hw3, ht, hl, ?_⟩
    exact (cSeq_nx p2).trans ((cSeq_nx r3).trans ((cSeq_nx e2).trans ((cSeq_nx ((ifS_f' f3).trans rfl)).trans rfl)))
  | true =>
    rw [hb] at f3
    rw [Bool.and_eq_true] at hb
    have hb1 := of_decide_eq_true hb.1
    obtain ⟨u, hu, eu⟩ := Net.put hq t ht _ _ _ hk2 (split_at hk1)
    refine ⟨w3, u, .val (.int (k : Nat)), .val L, .val (.str [c]), .val (.str q), hw3, hu, ?_, ?_⟩
    · rw [← eu]
      rw [List.length_append, List.length_append, List.length_take, List.length_drop]
      omega
    · have g := wPut_ok (m := m) (most := most) (sg := sg) (w := w3) (net := Net.txt t) (q := q) (by omega) hql hk1 (.val d) (.val L) (.val (.str [c]))
      rw [eu] at g
      have g2 : cAsg 4 wPut (EW w3 m most sg (Net.txt t) (.val d) (.val (.int (k : Nat))) (.val L) (.val (.str [c])) (.val (.str q))) = .nx (EW w3 m most sg (Net.txt u) (.val d) (.val (.int (k : Nat))) (.val L) (.val (.str [c])) (.val (.str q))) := asg_val g
      exact (cSeq_nx p2).trans ((cSeq_nx r3).trans ((cSeq_nx e2).trans ((cSeq_nx ((cIfS_true f3).trans ((cSeq_nx g2).trans rfl))).trans rfl)))
theorem net_ok (n : Nat) (hg : Gat sg) (h60 : most ≤ 60) (h1m : 1 ≤ most) {w : D} (hw : W3 w) (h0 : 0 < m) (h1 : m < 5) :
    ∃ w' t, W3 w' ∧ Net.ok t ∧ (Net.txt t).length ≤ most ∧ callN tab (n + 3) "_law_net" [.own true w, .val (.int m), .val (.int (most : Nat)), .val (.str sg)] = .ok (.val (.str (Net.txt t))) [.own true w', .none, .none, .none] := by
  rw [call_law_net, net_split]
  -- the first figure
  obtain ⟨v, w1, v0, v1, hw1, e1⟩ := take_ok (n + 1) w hw m h0 (by omega)
  obtain ⟨f, hf, g1⟩ := str_4 v v0 (by omega)
  have a1 : wTake (callN tab (n + 2)) [.own true w, .val (.int m), .val (.int (most : Nat)), .val (.str sg), .none, .none, .none, .none, .none, .none] = .ok (.val (.int v)) [.own true w1, .val (.int m), .val (.int (most : Nat)), .val (.str sg), .none, .none, .none, .none, .none, .none] :=
    callF_eq (δ := [.own true w, .val (.int m), .val (.int (most : Nat)), .val (.str sg), .none, .none, .none, .none, .none, .none]) (δ1 := [.own true w, .val (.int m), .val (.int (most : Nat)), .val (.str sg), .none, .none, .none, .none, .none, .none]) (k := 2) (as := [.io 0, .v (.int m)]) rfl rfl rfl rfl e1
  have a2 : cAsg 4 (wStr (callN tab (n + 2))) [.own true w, .val (.int m), .val (.int (most : Nat)), .val (.str sg), .none, .none, .none, .none, .none, .none] = .nx (EW w1 m most sg (Net.txt (.fig f)) .none .none .none .none .none) := asg_val (str_fr a1 g1)
  -- how many turns
  obtain ⟨v2, w2, v20, v21, hw2, e2⟩ := take_ok (n + 1) w1 hw1 14 (by decide) (by decide)
  have b1 : wTake14 (callN tab (n + 2)) (EW w1 m most sg (Net.txt (.fig f)) .none .none .none .none .none) = .ok (.val (.int v2)) (EW w2 m most sg (Net.txt (.fig f)) .none .none .none .none .none) :=
    callF_eq (δ := EW w1 m most sg (Net.txt (.fig f)) .none .none .none .none .none) (δ1 := EW w1 m most sg (Net.txt (.fig f)) .none .none .none .none .none) (k := 2) (as := [.io 0, .v (.int 14)]) rfl rfl rfl rfl e2
  have b2 : cRng rng1D (cCons (wTake14 (callN tab (n + 2))) (cNil)) (EW w1 m most sg (Net.txt (.fig f)) .none .none .none .none .none) = .ok (rng 0 v2.toNat) (EW w2 m most sg (Net.txt (.fig f)) .none .none .none .none .none) := by
    refine cRng_eq (ds := [.int v2]) ?_ (rng1_ok (by unfold rngB; simp; omega))
    generalize wTake14 (callN tab (n + 2)) = F at b1 ⊢
    simp [cCons, M.bind, b1, Ev.esc, mOk, cNil]
  obtain ⟨δ', c1, w3, t, hw3, ht, hl, rfl⟩ := forL_inv (m := EW w2 m most sg (Net.txt (.fig f)) .none .none .none .none .none) (i := 5) (body := wB (callN tab (n + 2)))
    (P := fun _ δ => ∃ w t, W3 w ∧ Net.ok t ∧ (Net.txt t).length ≤ most ∧ δ = EW w m most sg (Net.txt t) .none .none .none .none .none) (rng 0 v2.toNat) [] (EW w2 m most sg (Net.txt (.fig f)) .none .none .none .none .none) ⟨w2, .fig f, hw2, hf, h1m, rfl⟩ (fun d hd done δ hp => by
      obtain ⟨w4, t4, hw4, ht4, hl4, rfl⟩ := hp
      obtain ⟨w5, t5, x6, x7, x8, x9, hw5, ht5, hl5, e⟩ := wB_ok (sg := sg) n hg h60 hw4 h0 h1 ht4 hl4 d
      exact ⟨_, .inl e, w5, t5, hw5, ht5, hl5, rfl⟩)
  have c2 := cFor_eq (T := .one 5) b2 c1
  refine ⟨w3, t, hw3, ht, hl, ?_⟩
  refine runF_rt (k := 10) (sl := [.own true w, .val (.int m), .val (.int (most : Nat)), .val (.str sg)]) (δ' := EW w3 m most sg (Net.txt t) .none .none .none .none .none) ?_
  exact (cSeq_nx a2).trans ((cSeq_nx c2).trans (ret_val rfl))
end
end La
set_option Elab.async false
set_option linter.all false
set_option autoImplicit false
set_option maxRecDepth 100000
set_option maxHeartbeats 4000000
namespace La
open PySem PySem.Spec L2 Ev
open PyProof.Rows hiding St
/-! ### a turn -/
abbrev ET (w : D) (x1 x2 x3 x4 : Slot) : EnvS := [.own true w, x1, x2, x3, x4]
def t4 (C : Str → M Op) : M Op := cBin gAdd (cC (.int 1)) (cCallF (C "_law_take") (takesN 2 (cAIo 0 (cAV (cC (.int 4)) (cANil)))))
def tP1 (C : Str → M Op) : M Op := cCallF (C "_law_pick") (takesN 2 (cAIo 0 (cAV (cLst (cCons (cC (.str [33, 38, 124, 94])) (cCons (cC (.str [38, 124])) (cCons (cC (.str [33, 94])) (cCons (cC (.str [33])) (cNil)))))) (cANil))))
def tP3 (C : Str → M Op) : M Op := cCallF (C "_law_pick") (takesN 2 (cAIo 0 (cAV (cC (.str [38, 124, 94])) (cANil))))
def tN1 (C : Str → M Op) : M Op := cCallF (C "_law_net") (takesN 4 (cAIo 0 (cAV (t4 C) (cAV (cC (.int 60)) (cAV (tP1 C) (cANil))))))
def tN2 (C : Str → M Op) : M Op := cCallF (C "_law_net") (takesN 4 (cAIo 0 (cAV (t4 C) (cAV (cC (.int 20)) (cAV (cC (.str [33, 38, 124, 94])) (cANil))))))
def tC (C : Str → M Op) (f : Str) (i : Nat) : M Op := cCallF (C f) (takesN 1 (cAV (cVar i) (cANil)))
def tLen : M Bool := cCmpT gGt (cBin gAdd (cCall gLen (cConsO (cVar 1) (cNilO))) (cCall gLen (cConsO (cVar 2) (cNilO)))) (cC (.int 57))
def tBoth : M Op := cBin gAdd (cBin gAdd (cBin gAdd (cBin gAdd (cC (.str [40])) (cVar 1)) (cVar 3)) (cVar 2)) (cC (.str [41]))
def tEnd (C : Str → M Op) : M Op := cAnd (tC C "_law_asked" 4) (cAnd (cCmp gEq (tC C "net_depth" 4) (cBin gAdd (cC (.int 1)) (cCall gMax2 (cConsO (tC C "net_depth" 1) (cConsO (tC C "net_depth" 2) (cNilO)))))) (cCmp gEq (tC C "gate_count" 4) (cBin gAdd (cBin gAdd (tC C "gate_count" 1) (tC C "gate_count" 2)) (cC (.int 1)))))
theorem turn_split (C : Str → M Op) : cb_law_turn C = cSeq (cAsg 1 (tN1 C)) (cSeq (cAsg 2 (tN2 C)) (cSeq (cIfS (cOrT (cNotT (cTru (tC C "_law_asked" 1))) (cNotT (cTru (tC C "_law_asked" 2)))) aR (cNext)) (cSeq (cIfS tLen (cSeq (cRet (cC (.bl true))) (cNext)) (cNext)) (cSeq (cAsg 3 (tP3 C)) (cSeq (cAsg 4 tBoth) (cSeq (cRet (tEnd C)) (cNext))))))) := rfl
theorem t4_ok (n : Nat) {w : D} (hw : W3 w) (x1 x2 x3 x4 : Slot) : ∃ m w', 0 < m ∧ m < 5 ∧ W3 w' ∧ t4 (callN tab (n + 1)) (ET w x1 x2 x3 x4) = .ok (.val (.int m)) (ET w' x1 x2 x3 x4) := by
  obtain ⟨v, w', a, b, c, e⟩ := take_ok n w hw 4 (by decide) (by decide)
  have q : cCallF (callN tab (n + 1) "_law_take") (takesN 2 (cAIo 0 (cAV (cC (.int 4)) (cANil)))) (ET w x1 x2 x3 x4) = .ok (.val (.int v)) (ET w' x1 x2 x3 x4) := callF_eq (δ := ET w x1 x2 x3 x4) (δ1 := ET w x1 x2 x3 x4) (k := 2) (as := [.io 0, .v (.int 4)]) rfl rfl rfl rfl e
  refine ⟨1 + v, w', by omega, by omega, c, bin_vw (F := cC (.int 1)) (a := .int 1) rfl q rfl⟩
theorem gat_1 : ∀ d ∈ [D.str [33, 38, 124, 94], .str [38, 124], .str [33, 94], .str [33]], ∃ sg, d = .str sg ∧ Gat sg := by
  intro d hd
  simp only [List.mem_cons, List.not_mem_nil, or_false] at hd
  rcases hd with rfl | rfl | rfl | rfl
  · exact ⟨_, rfl, by decide, by decide, fun c hc => by simpa using hc⟩
  · exact ⟨_, rfl, by decide, by decide, fun c hc => by
      have : c = 38 ∨ c = 124 := by simpa using hc
      omega⟩
  · exact ⟨_, rfl, by decide, by decide, fun c hc => by
      have : c = 33 ∨ c = 94 := by simpa using hc
      omega⟩
  · exact ⟨_, rfl, by decide, by decide, fun c hc => by
      have : c = 33 := by simpa using hc
      omega⟩
theorem tN1_ok (n : Nat) {w : D} (hw : W3 w) (x1 x2 x3 x4 : Slot) : ∃ w' t, W3 w' ∧ Net.ok t ∧ (Net.txt t).length ≤ 60 ∧ tN1 (callN tab (n + 3)) (ET w x1 x2 x3 x4) = .ok (.val (.str (Net.txt t))) (ET w' x1 x2 x3 x4) := by
  obtain ⟨m, w1, m0, m1, hw1, e1⟩ := t4_ok (n + 2) hw x1 x2 x3 x4
  obtain ⟨d, w2, hd, hw2, e2⟩ := pickL (n + 1) w1 hw1 [D.str [33, 38, 124, 94], .str [38, 124], .str [33, 94], .str [33]] (by decide) (by decide)
  obtain ⟨sg, rfl, hg⟩ := gat_1 d hd
  have q2 : tP1 (callN tab (n + 3)) (ET w1 x1 x2 x3 x4) = .ok (.val (.str sg)) (ET w2 x1 x2 x3 x4) := callF_eq (δ := ET w1 x1 x2 x3 x4) (δ1 := ET w1 x1 x2 x3 x4) (k := 2) (as := [.io 0, .v (.lst [D.str [33, 38, 124, 94], .str [38, 124], .str [33, 94], .str [33]])]) rfl rfl rfl rfl e2
  obtain ⟨w3, t, hw3, ht, hl, e3⟩ := net_ok (most := 60) (sg := sg) n hg (by decide) (by decide) hw2 m0 m1
  refine ⟨w3, t, hw3, ht, hl, callF_eq (δ := ET w x1 x2 x3 x4) (δ1 := ET w2 x1 x2 x3 x4) (k := 4) (as := [.io 0, .v (.int m), .v (.int 60), .v (.str sg)]) ?_ rfl rfl rfl e3⟩
  have q1 : ownAt 0 (ET w x1 x2 x3 x4) = .ok () (ET w x1 x2 x3 x4) := rfl
  have q3 : cC (.int 60) (ET w1 x1 x2 x3 x4) = .ok (.val (.int 60)) (ET w1 x1 x2 x3 x4) := rfl
  generalize t4 (callN tab (n + 3)) = F at e1 ⊢
  generalize tP1 (callN tab (n + 3)) = G at q2 ⊢
  simp [cAIo, cAV, M.bind, q1, e1, q3, q2, Ev.esc, mOk, cANil]
theorem tN2_ok (n : Nat) {w : D} (hw : W3 w) (x1 x2 x3 x4 : Slot) : ∃ w' t, W3 w' ∧ Net.ok t ∧ (Net.txt t).length ≤ 20 ∧ tN2 (callN tab (n + 3)) (ET w x1 x2 x3 x4) = .ok (.val (.str (Net.txt t))) (ET w' x1 x2 x3 x4) := by
  obtain ⟨m, w1, m0, m1, hw1, e1⟩ := t4_ok (n + 2) hw x1 x2 x3 x4
  have hg : Gat [33, 38, 124, 94] := ⟨by decide, by decide, fun c hc => by simpa using hc⟩
  obtain ⟨w3, t, hw3, ht, hl, e3⟩ := net_ok (most := 20) (sg := [33, 38, 124, 94]) n hg (by decide) (by decide) hw1 m0 m1
  refine ⟨w3, t, hw3, ht, hl, callF_eq (δ := ET w x1 x2 x3 x4) (δ1 := ET w1 x1 x2 x3 x4) (k := 4) (as := [.io 0, .v (.int m), .v (.int 20), .v (.str [33, 38, 124, 94])]) ?_ rfl rfl rfl e3⟩
  have q1 : ownAt 0 (ET w x1 x2 x3 x4) = .ok () (ET w x1 x2 x3 x4) := rfl
  have q3 : cC (.int 20) (ET w1 x1 x2 x3 x4) = .ok (.val (.int 20)) (ET w1 x1 x2 x3 x4) := rfl
  have q4 : cC (.str [33, 38, 124, 94]) (ET w1 x1 x2 x3 x4) = .ok (.val (.str [33, 38, 124, 94])) (ET w1 x1 x2 x3 x4) := rfl
  generalize t4 (callN tab (n + 3)) = F at e1 ⊢
  simp [cAIo, cAV, M.bind, q1, e1, q3, q4, Ev.esc, mOk, cANil]
theorem turn_ok (n : Nat) {w : D} (hw : W3 w) : ∃ w', callN tab (n + 8) "_law_turn" [.own true w] = .ok (.val (.bl true)) [.own true w'] := by
  rw [call_law_turn, turn_split]
  obtain ⟨w1, a, hw1, ha, la, e1⟩ := tN1_ok (n + 4) hw .none .none .none .none
  obtain ⟨w2, b, hw2, hb, lb, e2⟩ := tN2_ok (n + 4) hw1 (.val (.str (Net.txt a))) .none .none .none
  have s1 : cAsg 1 (tN1 (callN tab (n + 7))) (ET w .none .none .none .none) = .nx (ET w1 (.val (.str (Net.txt a))) .none .none .none) := asg_val e1
  have s2 : cAsg 2 (tN2 (callN tab (n + 7))) (ET w1 (.val (.str (Net.txt a))) .none .none .none) = .nx (ET w2 (.val (.str (Net.txt a))) (.val (.str (Net.txt b))) .none .none) := asg_val e2
  have k1 : tC (callN tab (n + 7)) "_law_asked" 1 (ET w2 (.val (.str (Net.txt a))) (.val (.str (Net.txt b))) .none .none) = .ok (.val (.bl true)) (ET w2 (.val (.str (Net.txt a))) (.val (.str (Net.txt b))) .none .none) := call_1 rfl (asked_ok n a ha la)
  have k2 : tC (callN tab (n + 7)) "_law_asked" 2 (ET w2 (.val (.str (Net.txt a))) (.val (.str (Net.txt b))) .none .none) = .ok (.val (.bl true)) (ET w2 (.val (.str (Net.txt a))) (.val (.str (Net.txt b))) .none .none) := call_1 rfl (asked_ok n b hb (by omega))
  have l1 := len_tx (t := Net.txt a) (by omega) (E := ET w2 (.val (.str (Net.txt a))) (.val (.str (Net.txt b))) .none .none) (i := 1) rfl
  have l2 := len_tx (t := Net.txt b) (by omega) (E := ET w2 (.val (.str (Net.txt a))) (.val (.str (Net.txt b))) .none .none) (i := 2) rfl
  have l3 := bin_vw (g := gAdd) (r := .int (((Net.txt a).length + (Net.txt b).length : Nat) : Int)) l1 l2 rfl
  have l4 : tLen (ET w2 (.val (.str (Net.txt a))) (.val (.str (Net.txt b))) .none .none) = .ok (decide (57 < (Net.txt a).length + (Net.txt b).length)) (ET w2 (.val (.str (Net.txt a))) (.val (.str (Net.txt b))) .none .none) := gt_len 57 l3
  by_cases h57 : 57 < (Net.txt a).length + (Net.txt b).length
  · rw [decide_eq_true h57] at l4
    refine ⟨w2, ?_⟩
    refine runF_rt (k := 5) (sl := [.own true w]) (δ' := ET w2 (.val (.str (Net.txt a))) (.val (.str (Net.txt b))) .none .none) ?_
    refine (cSeq_nx s1).trans ((cSeq_nx s2).trans ((cSeq_nx ((if_ok2 k1 k2).trans rfl)).trans (cSeq_rt ?_)))
    rw [cIfS_true l4]
    rfl
  · rw [decide_eq_false h57] at l4
    obtain ⟨g, w3, hg, hw3, e3⟩ := pickS (n + 5) w2 hw2 [38, 124, 94] (by decide) (by decide)
    have hg : g = 38 ∨ g = 124 ∨ g = 94 := by simpa using hg
    have q3 : tP3 (callN tab (n + 7)) (ET w2 (.val (.str (Net.txt a))) (.val (.str (Net.txt b))) .none .none) = .ok (.val (.str [g])) (ET w3 (.val (.str (Net.txt a))) (.val (.str (Net.txt b))) .none .none) := callF_eq (δ := ET w2 (.val (.str (Net.txt a))) (.val (.str (Net.txt b))) .none .none) (δ1 := ET w2 (.val (.str (Net.txt a))) (.val (.str (Net.txt b))) .none .none) (k := 2) (as := [.io 0, .v (.str [38, 124, 94])]) rfl rfl rfl rfl e3
    have s3 : cAsg 3 (tP3 (callN tab (n + 7))) (ET w2 (.val (.str (Net.txt a))) (.val (.str (Net.txt b))) .none .none) = .nx (ET w3 (.val (.str (Net.txt a))) (.val (.str (Net.txt b))) (.val (.str [g])) .none) := asg_val q3
    have hp : Net.ok (.pair g a b) := ⟨hg, ha, hb⟩
    have ep : (([40] ++ Net.txt a) ++ [g]) ++ Net.txt b ++ [41] = Net.txt (.pair g a b) := by simp [Net.txt]
    have lp : (Net.txt (.pair g a b)).length ≤ 60 := by
      rw [← ep]
      simp
      omega
    have c1 := bin_vw (F := cC (.str [40])) (G := cVar 1) (E := ET w3 (.val (.str (Net.txt a))) (.val (.str (Net.txt b))) (.val (.str [g])) .none) (a := .str [40]) (b := .str (Net.txt a)) rfl rfl (gadd_s [40] (Net.txt a) (by simp; omega))
    have c2 := bin_vw (G := cVar 3) (b := .str [g]) c1 rfl (gadd_s _ [g] (by simp; omega))
    have c3 := bin_vw (G := cVar 2) (b := .str (Net.txt b)) c2 rfl (gadd_s _ (Net.txt b) (by simp; omega))
    have c4 := bin_vw (G := cC (.str [41])) (b := .str [41]) c3 rfl (gadd_s _ [41] (by simp; omega))
    rw [ep] at c4
    have s4 : cAsg 4 tBoth (ET w3 (.val (.str (Net.txt a))) (.val (.str (Net.txt b))) (.val (.str [g])) .none) = .nx (ET w3 (.val (.str (Net.txt a))) (.val (.str (Net.txt b))) (.val (.str [g])) (.val (.str (Net.txt (.pair g a b))))) := asg_val c4
    have z1 : tC (callN tab (n + 7)) "_law_asked" 4 (ET w3 (.val (.str (Net.txt a))) (.val (.str (Net.txt b))) (.val (.str [g])) (.val (.str (Net.txt (.pair g a b))))) = .ok (.val (.bl true)) (ET w3 (.val (.str (Net.txt a))) (.val (.str (Net.txt b))) (.val (.str [g])) (.val (.str (Net.txt (.pair g a b))))) := call_1 rfl (asked_ok n _ hp lp)
    have d4 : tC (callN tab (n + 7)) "net_depth" 4 (ET w3 (.val (.str (Net.txt a))) (.val (.str (Net.txt b))) (.val (.str [g])) (.val (.str (Net.txt (.pair g a b))))) = .ok (.val (.int (Net.dep (.pair g a b) : Nat))) (ET w3 (.val (.str (Net.txt a))) (.val (.str (Net.txt b))) (.val (.str [g])) (.val (.str (Net.txt (.pair g a b))))) := call_1 rfl (dep_ok (n + 1) _ hp lp)
    have d1 : tC (callN tab (n + 7)) "net_depth" 1 (ET w3 (.val (.str (Net.txt a))) (.val (.str (Net.txt b))) (.val (.str [g])) (.val (.str (Net.txt (.pair g a b))))) = .ok (.val (.int (Net.dep a : Nat))) (ET w3 (.val (.str (Net.txt a))) (.val (.str (Net.txt b))) (.val (.str [g])) (.val (.str (Net.txt (.pair g a b))))) := call_1 rfl (dep_ok (n + 1) a ha la)
    have d2 : tC (callN tab (n + 7)) "net_depth" 2 (ET w3 (.val (.str (Net.txt a))) (.val (.str (Net.txt b))) (.val (.str [g])) (.val (.str (Net.txt (.pair g a b))))) = .ok (.val (.int (Net.dep b : Nat))) (ET w3 (.val (.str (Net.txt a))) (.val (.str (Net.txt b))) (.val (.str [g])) (.val (.str (Net.txt (.pair g a b))))) := call_1 rfl (dep_ok (n + 1) b hb (by omega))
    have f4 : tC (callN tab (n + 7)) "gate_count" 4 (ET w3 (.val (.str (Net.txt a))) (.val (.str (Net.txt b))) (.val (.str [g])) (.val (.str (Net.txt (.pair g a b))))) = .ok (.val (.int (tot (Net.txt (.pair g a b)) : Nat))) (ET w3 (.val (.str (Net.txt a))) (.val (.str (Net.txt b))) (.val (.str [g])) (.val (.str (Net.txt (.pair g a b))))) := call_1 rfl (gc_ok (n + 1) _ hp lp)
    have f1 : tC (callN tab (n + 7)) "gate_count" 1 (ET w3 (.val (.str (Net.txt a))) (.val (.str (Net.txt b))) (.val (.str [g])) (.val (.str (Net.txt (.pair g a b))))) = .ok (.val (.int (tot (Net.txt a) : Nat))) (ET w3 (.val (.str (Net.txt a))) (.val (.str (Net.txt b))) (.val (.str [g])) (.val (.str (Net.txt (.pair g a b))))) := call_1 rfl (gc_ok (n + 1) a ha la)
    have f2 : tC (callN tab (n + 7)) "gate_count" 2 (ET w3 (.val (.str (Net.txt a))) (.val (.str (Net.txt b))) (.val (.str [g])) (.val (.str (Net.txt (.pair g a b))))) = .ok (.val (.int (tot (Net.txt b) : Nat))) (ET w3 (.val (.str (Net.txt a))) (.val (.str (Net.txt b))) (.val (.str [g])) (.val (.str (Net.txt (.pair g a b))))) := call_1 rfl (gc_ok (n + 1) b hb (by omega))
    have ed : ((Net.dep (.pair g a b) : Nat) : Int) = 1 + ((max (Net.dep a) (Net.dep b) : Nat) : Int) := by
      have : Net.dep (.pair g a b) = max (Net.dep b) (Net.dep a) + 1 := rfl
      rw [this]
      omega
    have eg : ((tot (Net.txt (.pair g a b)) : Nat) : Int) = ((tot (Net.txt a) : Nat) : Int) + ((tot (Net.txt b) : Nat) : Int) + 1 := by
      have : tot (Net.txt (.pair g a b)) = tot (Net.txt a) + tot (Net.txt b) + 1 := by
        rw [← ep]
        unfold tot two2
        rcases hg with rfl | rfl | rfl <;> simp [List.count_cons, List.count_append] <;> omega
      rw [this]
      omega
    rw [ed] at d4
    rw [eg] at f4
    have dm := add_i (F := cC (.int 1)) rfl (call2_vw d1 d2 (gmax (Net.dep a) (Net.dep b)))
    have fm := add_i (G := cC (.int 1)) (add_i f1 f2) rfl
    have z : tEnd (callN tab (n + 7)) (ET w3 (.val (.str (Net.txt a))) (.val (.str (Net.txt b))) (.val (.str [g])) (.val (.str (Net.txt (.pair g a b))))) = .ok (.val (.bl true)) (ET w3 (.val (.str (Net.txt a))) (.val (.str (Net.txt b))) (.val (.str [g])) (.val (.str (Net.txt (.pair g a b))))) := and_tt z1 (and_tt (eq_ii d4 dm) (eq_ii f4 fm))
    refine ⟨w3, ?_⟩
    refine runF_rt (k := 5) (sl := [.own true w]) (δ' := ET w3 (.val (.str (Net.txt a))) (.val (.str (Net.txt b))) (.val (.str [g])) (.val (.str (Net.txt (.pair g a b))))) ?_
    exact (cSeq_nx s1).trans ((cSeq_nx s2).trans ((cSeq_nx ((if_ok2 k1 k2).trans rfl)).trans ((cSeq_nx ((ifS_f' l4).trans rfl)).trans ((cSeq_nx s3).trans ((cSeq_nx s4).trans (ret_val z))))))
/-! ### the law -/
def lI : M (List D) := cRng rng1D (cCons (cCall gMax2 (cConsO (cC (.int 6)) (cConsO (cCall gMin2 (cConsO (cCall gLen (cConsO (cVar 0) (cNilO))) (cConsO (cC (.int 10)) (cNilO)))) (cNilO)))) (cNil))
def lW (C : Str → M Op) : M Op := cCallF (C "_law_well") (takesN 2 (cAV (cVar 0) (cAV (cVar 1) (cANil))))
def lB (C : Str → M Op) : MS := cSeq (cIfS (cNotT (cTru (cCallH (C "_law_turn") 1 (lW C) (cANil)))) aR (cNext)) (cNext)
def lT : M (List D) := cItV (cLst (cCons (cC (.str [48])) (cCons (cC (.str [51])) (cCons (cBin gAdd (cBin gMul (cC (.str [33])) (cC (.int 59))) (cC (.str [49]))) (cCons (cBin gAdd (cBin gAdd (cBin gMul (cC (.str [40])) (cC (.int 14))) (cC (.str [48]))) (cBin gMul (cC (.str [38, 49, 41])) (cC (.int 14)))) (cNil))))))
theorem law_split (C : Str → M Op) : cb_law C = cSeq (cFor (.one 1) lI (lB C)) (cSeq (cRet (cCall gAll (cConsO (cLc [2] (.one 2) lT (mOk true) (tC C "_law_asked" 2)) (cNilO)))) (cNext)) := rfl
theorem rng1_nat2 (N : Nat) (h : N ≤ 1000) : rng1D [.int N] = some (rng 0 N) := by
  have : rngB (N : Int) = true := by unfold rngB; simp; omega
  have := rng1_ok this
  simpa using this
theorem turns_ok (ns : List Int) : ∃ t : Nat, t ≤ 10 ∧ lI [.val (.ext (ns.map D.int)), .none, .none] = .ok (rng 0 t) [.val (.ext (ns.map D.int)), .none, .none] := by
  obtain ⟨t, h4, e⟩ : ∃ t : Nat, t ≤ 10 ∧ (let i : Int := (if (10 : Int) < ns.length then (10 : Int) else ns.length); if i > 6 then i else 6) = (t : Int) := by
    dsimp only
    by_cases c : (10 : Int) < ns.length
    · exact ⟨10, by decide, by rw [if_pos c]; rfl⟩
    · rw [if_neg c]
      by_cases c2 : (ns.length : Int) > 6
      · exact ⟨ns.length, by omega, by rw [if_pos c2]⟩
      · exact ⟨6, by decide, by rw [if_neg c2]; rfl⟩
  refine ⟨t, h4, cRng_eq (ds := [.int t]) ?_ (rng1_nat2 t (by omega))⟩
  simp only [← e]
  simp [cCons, M.bind, cCall, cConsO, cVar, cC, mOk, deref, cNilO, liftN, derefs, gLen, gMin2, gMax2, gII, Ev.esc, cNil]
theorem callH_eq {fn F : M Op} {d d' r x y : D} (h : F [.val x, .val y, .none] = .ok (.fresh d) [.val x, .val y, .none]) (hf : fn [.own true d] = .ok (.val r) [.own true d']) : cCallH fn 1 F cANil [.val x, .val y, .none] = .ok (.val r) [.val x, .val y, .none] := by
  have q : callWithD fn [.io 3] [.val x, .val y, .none, .own false d] = .ok (.val r) [.val x, .val y, .none, .own false d'] := by
    unfold callWithD
    simp [ios, nodupB, arSlots, hf, putBack, putBackN, ioVal, backSlot]
  simp [cCallH, M.bind, h, cANil, mOk, callTmpD, q]
def nn : Nat → Net
  | 0 => .fig 49
  | k + 1 => .neg (nn k)
def pp : Nat → Net
  | 0 => .fig 48
  | k + 1 => .pair 38 (pp k) (.fig 49)
theorem nn_ok : ∀ k, Net.ok (nn k)
  | 0 => .inr (.inl rfl)
  | k + 1 => nn_ok k
theorem pp_ok : ∀ k, Net.ok (pp k)
  | 0 => .inl rfl
  | k + 1 => ⟨.inl rfl, pp_ok k, .inr (.inl rfl)⟩
theorem lT_ok (x : D) : lT [.val x, .none, .none] = .ok [.str (Net.txt (.fig 48)), .str (Net.txt (.fig 51)), .str (Net.txt (nn 59)), .str (Net.txt (pp 14))] [.val x, .none, .none] := by kernel_rfl
theorem law_true (_ : Nat) (ns : List Int) (hn : ns.length ≤ 63) : ∃ sl, callN tab 9 "law" [.val (.ext (ns.map D.int))] = .ok (.val (.bl true)) sl := by
  have ec := call_law 8
  rw [show 8 + 1 = 9 from rfl] at ec
  rw [ec, law_split]
  obtain ⟨t, ht, e1⟩ := turns_ok ns
  obtain ⟨δ', c1, rfl⟩ := forL_inv (m := [.val (.ext (ns.map D.int)), .none, .none]) (i := 1) (body := lB (callN tab 8)) (P := fun _ δ => δ = [.val (.ext (ns.map D.int)), .none, .none]) (rng 0 t) [] [.val (.ext (ns.map D.int)), .none, .none] rfl (fun d hd done δ hp => by
    subst hp
    obtain ⟨k, hk, rfl⟩ := List.mem_map.mp hd
    rw [Int.zero_add]
    obtain ⟨a, b, ew⟩ := well_ok 7 ns hn k
    obtain ⟨w', er⟩ := turn_ok 0 (w := .lst [.int a, .int b, .int 0]) ⟨_, _, _, rfl⟩
    generalize D.ext (ns.map D.int) = sc at ew ⊢
    have q : lW (callN tab 8) [.val sc, .val (.int k), .none] = .ok (.fresh (.lst [.int a, .int b, .int 0])) [.val sc, .val (.int k), .none] := callF_eq (fa := cAV (cVar 0) (cAV (cVar 1) cANil)) (δ := [.val sc, .val (.int k), .none]) (δ1 := [.val sc, .val (.int k), .none]) (k := 2) (as := [.v sc, .v (.int k)]) rfl rfl rfl rfl ew
    refine ⟨[.val sc, .val (.int k), .none], .inl ?_, rfl⟩
    exact (cSeq_nx ((if_ok (callH_eq q er)).trans rfl)).trans rfl)
  have c2 := cFor_eq (T := .one 1) e1 c1
  generalize D.ext (ns.map D.int) = sc at c2 ⊢
  have asked : ∀ (d : D), d ∈ [D.str (Net.txt (.fig 48)), .str (Net.txt (.fig 51)), .str (Net.txt (nn 59)), .str (Net.txt (pp 14))] → callN tab 8 "_law_asked" [.val d] = .ok (.val (.bl true)) [.none] := by
    intro d hd
    simp only [List.mem_cons, List.not_mem_nil, or_false] at hd
    rcases hd with rfl | rfl | rfl | rfl
    · exact asked_ok 1 (.fig 48) (.inl rfl) (by decide)
    · exact asked_ok 1 (.fig 51) (.inr (.inr (.inr rfl))) (by decide)
    · exact asked_ok 1 (nn 59) (nn_ok 59) (by decide)
    · exact asked_ok 1 (pp 14) (pp_ok 14) (by decide)
  have e := compL_map (vs := [2]) (i := 2) (ft := mOk true) (fe := tC (callN tab 8) "_law_asked" 2) (δ0 := [.val sc, .none, .none]) (g := fun _ => D.bl true) [D.str (Net.txt (.fig 48)), .str (Net.txt (.fig 51)), .str (Net.txt (nn 59)), .str (Net.txt (pp 14))] [] (fun d hd => by
    have q : tC (callN tab 8) "_law_asked" 2 [.val sc, .none, .val d] = .ok (.val (.bl true)) [.val sc, .none, .val d] := call_1 rfl (asked d hd)
    exact ⟨_, _, _, _, rfl, q, rfl, rfl⟩) (by decide)
  have e3 := cLc_eq (T := .one 2) (lT_ok sc) e
  have g : gAll [.lst ([] ++ [D.str (Net.txt (.fig 48)), .str (Net.txt (.fig 51)), .str (Net.txt (nn 59)), .str (Net.txt (pp 14))].map fun _ => D.bl true)] = some (.val (.bl true)) := rfl
  have e4 : cCall gAll (cConsO (cLc [2] (.one 2) lT (mOk true) (tC (callN tab 8) "_law_asked" 2)) (cNilO)) [.val sc, .none, .none] = .ok (.val (.bl true)) [.val sc, .none, .none] := by
    generalize cLc [2] (.one 2) lT (mOk true) (tC (callN tab 8) "_law_asked" 2) = F at e3 ⊢
    unfold cCall cConsO M.bind
    rw [e3]
    simp only [cNilO, mOk, M.bind, liftN, derefs, deref]
    rw [g]
    rfl
  exact ⟨_, runF_rt (k := 3) (sl := [.val sc]) ((cSeq_nx c2).trans (ret_val e4))⟩
end La
set_option Elab.async false
set_option linter.all false
set_option autoImplicit false
set_option maxRecDepth 100000
set_option maxHeartbeats 0
namespace Hd
open PySem PySem.Spec PyProof.Rows L2
abbrev R : PySem.W.OpenRow := PySem.W.OpenLaw.row PySem.Challenge.rw_lamptables_k58_gates_of_nets
abbrev hk : PySem.W.Hook := Ev.hookX 4 (Ev.factsX La.lw La.tab) (Ev.fnX La.lw La.tab) La.lw.xt La.lw.top
def ob (s : PySem.W.SharedT) : He.AlD × Bool := (He.obsDG 4 (Ev.factsX La.lw La.tab) (Ev.fnX La.lw La.tab) (HandSHeadRun.getT s), Ev.xAllB La.lw.xt La.lw.top (He.frG (HandSHeadRun.getT s) (He.asD (HandSHeadRun.getT s) 4)))
theorem ob_eq (s : PySem.W.SharedT) : ob s = hk.obs s.abs := Ev.obX_eq (HandSHeadRun.getT_eq s)
def loose0 : List PySem.Str := ["LampError", "InvalidNet", "MOST_SWITCHES", "FIGURES", "NOT", "GATES", "OPENS", "CLOSES", "LONGEST", "WHOLE", "close_turned", "is_closed_pair", "steps_of", "is_net_of", "is_any_net", "sign_counts", "net_depth_by", "check_any_net", "gate_count", "net_depth", "signs_of", "_law_well", "_law_take", "_law_pick", "_law_same", "_law_settings", "_law_lamp", "_law_table", "_law_net", "_law_places"]
def loose1 : List PySem.Str := ["_law_depth", "_law_asked", "_law_turn"]
def loose : List PySem.Str := loose0 ++ loose1
theorem run (w : World) : HandSHeadRun.RunEq R (PySem.W.view R.prog [37]) hk ob 4000 loose w := by
  intro os
  kernel_rfl
theorem walk : PySem.W.WalkO (PySem.W.view R.prog [37]) loose (PySem.W.XL (PySem.W.view R.prog [37]) []) hk.says R.toRowW (HandSHeadRun.topDef (PySem.W.OpenLaw.row PySem.Challenge.rw_lamptables_k58_gates_of_nets).prog 37) [] fun f vs => PySem.call f vs :=
  Ev.law_end (l := PySem.Challenge.rw_lamptables_k58_gates_of_nets) (n := 63) (k := 9) (dl := La.d_law) (x := "script") rfl (by decide) rfl ⟨rfl, by decide, by decide⟩ (by kernel_rfl) rfl (by kernel_rfl) La.ok_all rfl La.xc_plain (fun ns hn => La.law_true 0 ns hn)
end Hd
open PySem PySem.W PySem.Calls PyProof.Rows
theorem PySem.Challenge.cw_lamptables_k58_gates_of_nets_holds : PySem.Challenge.rw_lamptables_k58_gates_of_nets.Holds := by
  w_on; o_law
  refine HandSHeadRun.head_any (r := OpenLaw.row PySem.Challenge.rw_lamptables_k58_gates_of_nets) (q := view (OpenLaw.row PySem.Challenge.rw_lamptables_k58_gates_of_nets).prog [37]) (H := Hd.hk) (ob := Hd.ob) (M := 4000) (loose := Hd.loose) (d := HandSHeadRun.topDef (OpenLaw.row PySem.Challenge.rw_lamptables_k58_gates_of_nets).prog 37) (kwd := []) Hd.ob_eq
    (by kernel_rfl) (fun s => by kernel_rfl) Hd.run (by kernel_rfl) (by kernel_rfl) (by kernel_rfl) (by rfl) (by first | assumption | decide +kernel) (by decide +kernel) ⟨rfl, rfl, rfl, rfl, rfl, by decide +kernel⟩ ?hw ?hc
  case hw => w_witness2
  case hc => exact Hd.walk
