import PyProof.Rows.All
import Wide.All
import OpenK.AllK
import Wide.FinOn
import HandS.ForMost
import HandS.Flow
import HandS.TupAny
import HandS.Walk
import HandS.Style
import HandS.Star
import HandS.StrMore
import HandS.IsInst
import HandS.SortInts
import HandS.Codes
import HandS.TupMul
import PySem.Challenge.RW_oncemail_k42_talk_commands_whole
set_option Elab.async false
set_option linter.all false
set_option maxRecDepth 100000
/-! The data layer: plain values as data, mutable objects in a small symbolic heap. -/
namespace DL
open PySem PySem.Spec L2

/-- plain data; .frz: a list that is only read (the script); .rf: an object of the symbolic heap -/
inductive D where
  | non | bl (b : Bool) | int (i : Int) | str (s : List Nat) | ty (n : String) | tup (xs : List D) | frz (xs : List D) | rf (p : Addr)
/-- an object of the symbolic heap -/
inductive MO where
  | lst (xs : List D)
  | ins (C : Addr) (fs : List (Str × D))
abbrev Sh := Addr → Option MO
def su (S : Sh) (p : Addr) (o : MO) : Sh := fun q => if q = p then some o else S q
theorem su_same {S : Sh} {p : Addr} {o : MO} : su S p o p = some o := by unfold su; rw [if_pos rfl]
theorem su_ne {S : Sh} {p q : Addr} {o : MO} (h : q ≠ p) : su S p o q = S q := by unfold su; rw [if_neg h]
theorem su_su {S : Sh} {p : Addr} {o u : MO} : su (su S p o) p u = su S p u := by
  funext q; unfold su; split <;> rfl
def Sle (S S' : Sh) : Prop := ∀ p o, S p = some o → S' p = some o
theorem Sle.refl (S : Sh) : Sle S S := fun _ _ h => h
theorem Sle.trans {S S1 S2 : Sh} (a : Sle S S1) (b : Sle S1 S2) : Sle S S2 := fun p o h => b p o (a p o h)
theorem Sle.new {S : Sh} {p : Addr} {o : MO} (h : S p = none) : Sle S (su S p o) := fun q u e => by
  rw [su_ne (fun z => by rw [z, h] at e; cases e)]; exact e

/-- a list that nobody changes: locked, or of the written part -/
def SqF (K : PySem.W.Frag) (H : Hp) (a : Addr) (xs : List V) : Prop :=
  (∃ o, H a = some (.frz o (.lst xs))) ∨
    ∃ (o : Obj) (its : Array Value) (n : Nat), K.lookup a = some o ∧ o.cls = .type "list" ∧ o.dict = none ∧ o.data = .seq its n ∧ its.size ≤ sizeLine ∧ Vals xs its.toList
theorem SqF.l {K : PySem.W.Frag} {H : Hp} {a : Addr} {xs : List V} (h : SqF K H a xs) : SqL K H a xs := by
  rcases h with ⟨o, h⟩ | h
  · exact .inl (.inr ⟨o, h⟩)
  · exact .inr h
section
variable (K : PySem.W.Frag) (H : Hp)
mutual
def Rep : D → V → Prop
  | .non, v => v = .non
  | .bl b, v => v = .bl b
  | .int i, v => v = .int i
  | .str s, v => v = .str ⟨s.toArray⟩
  | .ty n, v => v = .ty n
  | .tup ds, v => ∃ a vs, v = .ref a ∧ SqT K H a vs ∧ Reps ds vs
  | .frz ds, v => ∃ a vs, v = .ref a ∧ SqF K H a vs ∧ Reps ds vs
  | .rf p, v => v = .ref p
def Reps : List D → List V → Prop
  | [], vs => vs = []
  | d :: ds, vs => ∃ v r, vs = v :: r ∧ Rep d v ∧ Reps ds r
end
def RepF : List (Str × D) → List (Str × V) → Prop
  | [], fs => fs = []
  | (x, d) :: ds, fs => ∃ v r, fs = (x, v) :: r ∧ Rep K H d v ∧ RepF ds r
def RepO : MO → HO → Prop
  | .lst ds, o => ∃ vs, o = .lst vs ∧ Reps K H ds vs
  | .ins C ds, o => ∃ dx fs, o = .ins C dx fs ∧ RepF K H ds fs
/-- the symbolic heap is held -/
def Wd (S : Sh) : Prop := ∀ p o, S p = some o → ∃ h, H p = some h ∧ RepO K H o h
end
/-- what is tracked and no object of S stands as it was -/
def Ext (S : Sh) (H H' : Hp) : Prop := ∀ a o, H a = some o → S a = none → H' a = some o

section
variable {K : PySem.W.Frag} {H H' H1 H2 : Hp} {S S1 S2 : Sh}
theorem Wd.notup (w : Wd K H S) {a : Addr} {xs : List V} (h : H a = some (.tup xs)) : S a = none := by
  cases e : S a with
  | none => rfl
  | some o =>
    obtain ⟨ho, e1, r⟩ := w a o e
    rw [h] at e1; cases e1
    cases o with
    | lst ds => obtain ⟨vs, z, _⟩ := r; cases z
    | ins C ds => obtain ⟨_, _, z, _⟩ := r; cases z
theorem Wd.nofrz (w : Wd K H S) {a : Addr} {o : Obj} {u : HO} (h : H a = some (.frz o u)) : S a = none := by
  cases e : S a with
  | none => rfl
  | some o =>
    obtain ⟨ho, e1, r⟩ := w a o e
    rw [h] at e1; cases e1
    cases o with
    | lst ds => obtain ⟨vs, z, _⟩ := r; cases z
    | ins C ds => obtain ⟨_, _, z, _⟩ := r; cases z
theorem Wd.le (w : Wd K H S) (h : Sle S1 S) : Wd K H S1 := fun p o e => w p o (h p o e)
theorem Ext.refl (S : Sh) (H : Hp) : Ext S H H := fun _ _ h _ => h
/-- an address that is tracked stays outside of S1 -/
def Out (S S1 : Sh) (H : Hp) : Prop := ∀ a o, H a = some o → S a = none → S1 a = none
theorem Out.refl (S : Sh) (H : Hp) : Out S S H := fun _ _ _ h => h
/-- a step of the world: from (S, H) to (S', H') -/
structure Go (K : PySem.W.Frag) (S : Sh) (H : Hp) (S' : Sh) (H' : Hp) : Prop where
  ext : Ext S H H'
  out : Out S S' H
  wd : Wd K H' S'
  th : ∀ a, H' a = none → H a = none
theorem Go.refl (w : Wd K H S) : Go K S H S H := ⟨Ext.refl S H, Out.refl S H, w, fun _ h => h⟩
theorem Go.trans (a : Go K S H S1 H1) (b : Go K S1 H1 S2 H2) : Go K S H S2 H2 :=
  ⟨fun x o h1 h2 => b.ext x o (a.ext x o h1 h2) (a.out x o h1 h2), fun x o h1 h2 => b.out x o (a.ext x o h1 h2) (a.out x o h1 h2), b.wd, fun x h => a.th x (b.th x h)⟩
theorem Go.le (a : Go K S H S1 H1) (h : Sle S2 S1) : Go K S H S2 H1 := by
  refine ⟨a.ext, fun x o h1 h2 => ?_, a.wd.le h, a.th⟩
  cases e : S2 x with
  | none => rfl
  | some u =>
    have z := h x u e
    rw [a.out x o h1 h2] at z
    cases z

/-- the immutables are kept -/
structure Im (K : PySem.W.Frag) (H H' : Hp) : Prop where
  t : ∀ a xs, SqT K H a xs → SqT K H' a xs
  f : ∀ a xs, SqF K H a xs → SqF K H' a xs
theorem Wd.im (w : Wd K H S) (e : Ext S H H') : Im K H H' where
  t := fun a xs r => by
    rcases r with (r | ⟨o, r⟩) | r
    · exact .inl (.inl (e _ _ r (w.notup r)))
    · exact .inl (.inr ⟨o, e _ _ r (w.nofrz r)⟩)
    · exact .inr r
  f := fun a xs r => by
    rcases r with ⟨o, r⟩ | r
    · exact .inl ⟨o, e _ _ r (w.nofrz r)⟩
    · exact .inr r
theorem Im.refl (K : PySem.W.Frag) (H : Hp) : Im K H H := ⟨fun _ _ h => h, fun _ _ h => h⟩
mutual
theorem Rep.im (m : Im K H H') : ∀ {d : D} {v : V}, Rep K H d v → Rep K H' d v
  | .non, _, h => h
  | .bl _, _, h => h
  | .int _, _, h => h
  | .str _, _, h => h
  | .ty _, _, h => h
  | .rf _, _, h => h
  | .tup ds, v, h =>
    let ⟨a, vs, e, q, r⟩ := h
    ⟨a, vs, e, m.t _ _ q, Reps.im m r⟩
  | .frz ds, v, h =>
    let ⟨a, vs, e, q, r⟩ := h
    ⟨a, vs, e, m.f _ _ q, Reps.im m r⟩
theorem Reps.im (m : Im K H H') : ∀ {ds : List D} {vs : List V}, Reps K H ds vs → Reps K H' ds vs
  | [], _, h => h
  | _ :: _, _, h =>
    let ⟨v, r, e, h1, h2⟩ := h
    ⟨v, r, e, Rep.im m h1, Reps.im m h2⟩
end
theorem RepF.im (m : Im K H H') : ∀ {ds : List (Str × D)} {fs : List (Str × V)}, RepF K H ds fs → RepF K H' ds fs
  | [], _, h => h
  | (_, _) :: _, _, h =>
    let ⟨v, r, e, h1, h2⟩ := h
    ⟨v, r, e, h1.im m, RepF.im m h2⟩
theorem RepO.im (m : Im K H H') {o : MO} {h : HO} (r : RepO K H o h) : RepO K H' o h := by
  cases o with
  | lst ds => obtain ⟨vs, e, q⟩ := r; exact ⟨vs, e, Reps.im m q⟩
  | ins C ds => obtain ⟨dx, fs, e, q⟩ := r; exact ⟨dx, fs, e, q.im m⟩
theorem Go.im (g : Go K S H S1 H1) (w : Wd K H S) : Im K H H1 := w.im g.ext
theorem Reps.length : ∀ {ds : List D} {vs : List V}, Reps K H ds vs → ds.length = vs.length
  | [], _, h => by rw [show _ = ([] : List V) from h]; rfl
  | _ :: _, _, h => by
    obtain ⟨v, r, e, _, h2⟩ := h
    rw [e, List.length_cons, List.length_cons, Reps.length h2]
theorem Reps.get : ∀ {ds : List D} {vs : List V} {i : Nat} {d : D}, Reps K H ds vs → ds[i]? = some d → ∃ v, vs[i]? = some v ∧ Rep K H d v
  | [], _, _, _, _, h => by simp at h
  | d :: ds, vs, 0, _, h, e => by
    obtain ⟨v, r, rfl, h1, h2⟩ := h
    simp at e; subst e
    exact ⟨v, rfl, h1⟩
  | _ :: _, _, i + 1, _, h, e => by
    obtain ⟨v, r, rfl, h1, h2⟩ := h
    obtain ⟨u, a, b⟩ := Reps.get (i := i) h2 (by simpa using e)
    exact ⟨u, by simpa using a, b⟩
theorem Reps.append : ∀ {ds es : List D} {vs us : List V}, Reps K H ds vs → Reps K H es us → Reps K H (ds ++ es) (vs ++ us)
  | [], _, _, _, h, k => by rw [show _ = ([] : List V) from h]; exact k
  | _ :: _, _, _, _, h, k => by
    obtain ⟨v, r, rfl, h1, h2⟩ := h
    exact ⟨v, _, rfl, h1, Reps.append h2 k⟩
theorem Reps.drop : ∀ {ds : List D} {vs : List V} (n : Nat), Reps K H ds vs → Reps K H (ds.drop n) (vs.drop n)
  | _, _, 0, h => h
  | [], _, n + 1, h => by rw [show _ = ([] : List V) from h]; exact rfl
  | _ :: _, _, n + 1, h => by
    obtain ⟨v, r, rfl, h1, h2⟩ := h
    exact Reps.drop n h2
theorem Reps.take : ∀ {ds : List D} {vs : List V} (n : Nat), Reps K H ds vs → Reps K H (ds.take n) (vs.take n)
  | _, _, 0, h => rfl
  | [], _, n + 1, h => by rw [show _ = ([] : List V) from h]; exact rfl
  | _ :: _, _, n + 1, h => by
    obtain ⟨v, r, rfl, h1, h2⟩ := h
    exact ⟨v, _, rfl, h1, Reps.take n h2⟩
theorem Reps.set : ∀ {ds : List D} {vs : List V} (n : Nat) {d : D} {v : V}, Reps K H ds vs → Rep K H d v → Reps K H (ds.set n d) (vs.set n v)
  | [], _, _, _, _, h, _ => by rw [show _ = ([] : List V) from h]; exact rfl
  | _ :: _, _, 0, _, _, h, k => by
    obtain ⟨v, r, rfl, h1, h2⟩ := h
    exact ⟨_, r, rfl, k, h2⟩
  | _ :: _, _, n + 1, _, _, h, k => by
    obtain ⟨v, r, rfl, h1, h2⟩ := h
    exact ⟨v, _, rfl, h1, Reps.set n h2 k⟩
theorem Reps.one {d : D} {v : V} (h : Rep K H d v) : Reps K H [d] [v] := ⟨v, [], rfl, h, rfl⟩
theorem Reps.ints : ∀ {ns : List Int} {vs : List V}, Reps K H (ns.map D.int) vs → vs = ns.map V.int
  | [], _, h => h
  | _ :: _, _, h => by
    obtain ⟨v, r, rfl, h1, h2⟩ := h
    rw [show v = V.int _ from h1, Reps.ints h2]; rfl
theorem Reps.of_ints : ∀ {ns : List Int}, Reps K H (ns.map D.int) (ns.map V.int)
  | [] => rfl
  | _ :: _ => ⟨_, _, rfl, rfl, Reps.of_ints⟩

/-! ### worlds made -/
theorem upd_none {H : Hp} {p a : Addr} {u : HO} (h : upd H p u a = none) : H a = none := by
  unfold upd at h
  split at h
  · cases h
  · exact h
theorem Go.new (w : Wd K H S) {p : Addr} {u : HO} (h : H p = none) : Go K S H S (upd H p u) := by
  have e : Ext S H (upd H p u) := fun a o h1 _ => by rw [upd_ne (ne_of_none h1 h)]; exact h1
  refine ⟨e, Out.refl S H, fun q o hq => ?_, fun _ h => upd_none h⟩
  obtain ⟨ho, h1, r⟩ := w q o hq
  exact ⟨ho, by rw [upd_ne (ne_of_none h1 h)]; exact h1, r.im (w.im e)⟩
theorem Wd.free (w : Wd K H S) {p : Addr} (h : H p = none) : S p = none := by
  cases e : S p with
  | none => rfl
  | some o => obtain ⟨ho, e1, _⟩ := w p o e; rw [h] at e1; cases e1
/-- a new object of S -/
theorem Go.newS (w : Wd K H S) {p : Addr} {u : HO} {o : MO} (h : H p = none) (r : RepO K (upd H p u) o u) : Go K S H (su S p o) (upd H p u) := by
  have g := Go.new (u := u) w h
  refine ⟨g.ext, fun a x h1 h2 => ?_, fun q x hq => ?_, fun _ h => upd_none h⟩
  · rw [su_ne (ne_of_none h1 h)]; exact h2
  · by_cases e : q = p
    · subst e
      rw [su_same] at hq; cases hq
      exact ⟨u, upd_same, r⟩
    · rw [su_ne e] at hq
      exact g.wd q x hq
/-- an object of S is changed -/
theorem Go.wr (w : Wd K H S) {p : Addr} {u : HO} {o o' : MO} (h : S p = some o) (r : ∀ H', Im K H H' → RepO K H' o' u) : Go K S H (su S p o') (upd H p u) := by
  have e : Ext S H (upd H p u) := fun a x h1 h2 => by rw [upd_ne (fun z => by rw [z, h] at h2; cases h2)]; exact h1
  refine ⟨e, fun a x h1 h2 => ?_, fun q x hq => ?_, fun _ h => upd_none h⟩
  · rw [su_ne (fun z => by rw [z, h] at h2; cases h2)]; exact h2
  · by_cases z : q = p
    · subst z
      rw [su_same] at hq; cases hq
      exact ⟨u, upd_same, r _ (w.im e)⟩
    · rw [su_ne z] at hq
      obtain ⟨ho, h1, r'⟩ := w q x hq
      exact ⟨ho, by rw [upd_ne z]; exact h1, r'.im (w.im e)⟩
end

/-! ### the places -/
abbrev Sl := List (Option D)
def SlOk (K : PySem.W.Frag) (H : Hp) (σ : L2.St) (δ : Sl) : Prop := σ.length = δ.length ∧ ∀ (i : Nat) (d : D), δ[i]? = some (some d) → ∃ v, σ[i]? = some (some v) ∧ Rep K H d v
theorem SlOk.im {K : PySem.W.Frag} {H H' : Hp} {σ : L2.St} {δ : Sl} (m : Im K H H') (h : SlOk K H σ δ) : SlOk K H' σ δ := ⟨h.1, fun i d e => by
  obtain ⟨v, a, b⟩ := h.2 i d e
  exact ⟨v, a, b.im m⟩⟩
theorem SlOk.set {K : PySem.W.Frag} {H : Hp} {σ : L2.St} {δ : Sl} (h : SlOk K H σ δ) (i : Nat) {d : D} {v : V} (r : Rep K H d v) : SlOk K H (σ.set i (some v)) (δ.set i (some d)) := by
  refine ⟨by rw [List.length_set, List.length_set]; exact h.1, fun j e q => ?_⟩
  by_cases z : i = j
  · subst z
    rw [List.getElem?_set_self'] at q ⊢
    cases hq : δ[i]? with
    | none => rw [hq] at q; cases q
    | some x =>
      rw [hq] at q
      have hi : i < σ.length := by rw [h.1]; exact (List.getElem?_eq_some_iff.mp hq).1
      rw [List.getElem?_eq_getElem hi]
      cases q
      exact ⟨v, rfl, r⟩
  · rw [List.getElem?_set_ne z] at q ⊢
    exact h.2 j e q

abbrev QD := D → Sh → Prop
abbrev ED := Sl → Sh → QD → Prop
abbrev TD := Sl → Sh → (Bool → Sh → Prop) → Prop
abbrev AD := Sl → Sh → (List D → Sh → Prop) → Prop
structure EndsD where
  nx : Sl → Sh → Prop
  rt : QD
  bk : Sl → Sh → Prop := fun _ _ => False
  ct : Sl → Sh → Prop := fun _ _ => False
abbrev SD := EndsD → Sl → Sh → Prop
abbrev GD := D → Sl → Sh → (Sl → Sh → Prop) → Prop
abbrev GsD := List D → Sl → Sh → (Sl → Sh → Prop) → Prop
abbrev ID := Sl → Sh → (List D → (Sh → Prop) → Sh → Prop) → Prop
abbrev R2D := D → D → Sh → QD → Prop
abbrev CD := List D → Sh → QD → Prop

def SimE (K : PySem.W.Frag) (t : TE) (τ : ED) : Prop := ∀ σ H δ S, Wd K H S → SlOk K H σ δ → ∀ (Q : QD) (R : VK), (∀ v H' d S', Go K S H S' H' → Rep K H' d v → Q d S' → R v H') → τ δ S Q → t σ H R
def SimT (K : PySem.W.Frag) (t : TT) (τ : TD) : Prop := ∀ σ H δ S, Wd K H S → SlOk K H σ δ → ∀ (Q : Bool → Sh → Prop) (R : Bool → Hp → Prop), (∀ b H' S', Go K S H S' H' → Q b S' → R b H') → τ δ S Q → t σ H R
def SimA (K : PySem.W.Frag) (t : TA) (τ : AD) : Prop := ∀ σ H δ S, Wd K H S → SlOk K H σ δ → ∀ (Q : List D → Sh → Prop) (R : List V → Hp → Prop), (∀ vs H' ds S', Go K S H S' H' → Reps K H' ds vs → Q ds S' → R vs H') → τ δ S Q → t σ H R
/-- a list that need not be an object of S -/
def SimL (K : PySem.W.Frag) (t : TE) (τ : AD) : Prop := ∀ σ H δ S, Wd K H S → SlOk K H σ δ → ∀ (Q : List D → Sh → Prop) (R : VK), (∀ a H' vs ds S', Go K S H S' H' → SqL K H' a vs → Reps K H' ds vs → Q ds S' → R (.ref a) H') → τ δ S Q → t σ H R
/-- a new list that is no object of S -/
def SimN (K : PySem.W.Frag) (t : TE) (τ : AD) : Prop := ∀ σ H δ S, Wd K H S → SlOk K H σ δ → ∀ (Q : List D → Sh → Prop) (R : VK), (∀ a H' vs ds S', Go K S H S' H' → H a = none → H' a = some (.lst vs) → S' a = none → Reps K H' ds vs → Q ds S' → R (.ref a) H') → τ δ S Q → t σ H R
def SimS (K : PySem.W.Frag) (t : TS) (τ : SD) : Prop := ∀ σ H δ S, Wd K H S → SlOk K H σ δ → ∀ (F : EndsD) (G : Ends),
  (∀ σ' H' δ' S', Go K S H S' H' → SlOk K H' σ' δ' → F.nx δ' S' → G.nx σ' H') → (∀ v H' d S', Go K S H S' H' → Rep K H' d v → F.rt d S' → G.rt v H') →
  (∀ σ' H' δ' S', Go K S H S' H' → SlOk K H' σ' δ' → F.bk δ' S' → G.bk σ' H') → (∀ σ' H' δ' S', Go K S H S' H' → SlOk K H' σ' δ' → F.ct δ' S' → G.ct σ' H') → τ F δ S → t G σ H
def SimG (K : PySem.W.Frag) (t : TG) (τ : GD) : Prop := ∀ σ H δ S v d, Wd K H S → SlOk K H σ δ → Rep K H d v → ∀ (Q : Sl → Sh → Prop) (R : L2.St → Hp → Prop), (∀ σ' H' δ' S', Go K S H S' H' → SlOk K H' σ' δ' → Q δ' S' → R σ' H') → τ d δ S Q → t v σ H R
def SimGs (K : PySem.W.Frag) (t : TGs) (τ : GsD) : Prop := ∀ σ H δ S vs ds, Wd K H S → SlOk K H σ δ → Reps K H ds vs → ∀ (Q : Sl → Sh → Prop) (R : L2.St → Hp → Prop), (∀ σ' H' δ' S', Go K S H S' H' → SlOk K H' σ' δ' → Q δ' S' → R σ' H') → τ ds δ S Q → t vs σ H R
def SimJ (K : PySem.W.Frag) (S0 : Sh) (H0 : Hp) (J : It) (xs : List D) (ck : Sh → Prop) : Prop := ∀ S H, Go K S0 H0 S H → ck S → ∀ i : Nat,
  (∀ d, xs[i]? = some d → J.go i H ∧ ∀ x H', J.yld i H x H' → Go K S H S H' ∧ Rep K H' d x) ∧ (xs.length ≤ i → J.stop i H)
def SimI (K : PySem.W.Frag) (t : TI) (τ : ID) : Prop := ∀ σ H δ S, Wd K H S → SlOk K H σ δ → ∀ (Q : List D → (Sh → Prop) → Sh → Prop) (R : It → Hp → Prop), (∀ J H' S' xs ck, Go K S H S' H' → SimJ K S' H' J xs ck → ck S' → Q xs ck S' → R J H') → τ δ S Q → t σ H R
def SimR2 (K : PySem.W.Frag) (r : R2) (ρ : R2D) : Prop := ∀ H S x y dx dy, Wd K H S → Rep K H dx x → Rep K H dy y → ∀ (Q : QD) (R : VK), (∀ v H' d S', Go K S H S' H' → Rep K H' d v → Q d S' → R v H') → ρ dx dy S Q → r x y H R
def SimC (K : PySem.W.Frag) (r : List V → Hp → VK → Prop) (ρ : CD) : Prop := ∀ H S vs ds, Wd K H S → Reps K H ds vs → ∀ (Q : QD) (R : VK), (∀ v H' d S', Go K S H S' H' → Rep K H' d v → Q d S' → R v H') → ρ ds S Q → r vs H R

def E (X : Cx) (e : Expr) (τ : ED) : Prop := ∃ t, PE X e t ∧ SimE X.K t τ
def T (X : Cx) (e : Expr) (τ : TD) : Prop := ∃ t, PT X e t ∧ SimT X.K t τ
def W (X : Cx) (e : Expr) (τ : TD) : Prop := ∃ t, PW X e t ∧ SimT X.K t τ
def A (X : Cx) (es : List Expr) (τ : AD) : Prop := ∃ t, PA X es t ∧ SimA X.K t τ
def L (X : Cx) (e : Expr) (τ : AD) : Prop := ∃ t, PE X e t ∧ SimL X.K t τ
def N (X : Cx) (e : Expr) (τ : AD) : Prop := ∃ t, PE X e t ∧ SimN X.K t τ
def S1 (X : Cx) (st : Stmt) (τ : SD) : Prop := ∃ t, PS X st t ∧ SimS X.K t τ
def B (X : Cx) (st : List Stmt) (τ : SD) : Prop := ∃ t, PSs X st t ∧ SimS X.K t τ
def G (X : Cx) (e : Expr) (τ : GD) : Prop := ∃ t, PG X e t ∧ SimG X.K t τ
def Gs (X : Cx) (es : List Expr) (τ : GsD) : Prop := ∃ t, PGs X es t ∧ SimGs X.K t τ
def I (X : Cx) (tg e : Expr) (τ : ID) : Prop := ∃ t, PI X tg e t ∧ SimI X.K t τ
def O (X : Cx) (f : Value → Value → Sem Value) (ρ : R2D) : Prop := ∃ r, OpR X f r ∧ SimR2 X.K r ρ
def C (X : Cx) (f : Value) (ρ : CD) : Prop := ∃ r, CallR X f r ∧ SimC X.K r ρ
end DL

set_option Elab.async false
set_option linter.all false
set_option maxRecDepth 100000
namespace DL
open PySem PySem.Spec L2

/-! ### expressions -/
def dVar (i : Nat) : ED := fun δ S Q => match δ[i]? with | some (some d) => Q d S | _ => False
def dC (d : D) : ED := fun _ S Q => Q d S
def dOp (ρ : R2D) (a b : ED) : ED := fun δ S Q => a δ S fun x S1 => b δ S1 fun y S2 => ρ x y S2 Q
def dUn (ρ : D → Sh → QD → Prop) (a : ED) : ED := fun δ S Q => a δ S fun x S1 => ρ x S1 Q
section
variable {K : PySem.W.Frag}
theorem sim_var {i : Nat} : SimE K (tVar i) (dVar i) := fun σ H δ S w sl Q R k h => by
  unfold dVar at h
  cases e : δ[i]? with
  | none => rw [e] at h; exact h.elim
  | some o =>
    cases o with
    | none => rw [e] at h; exact h.elim
    | some d =>
      rw [e] at h
      obtain ⟨v, a, b⟩ := sl.2 i d e
      exact ⟨v, a, k v H d S (Go.refl w) b h⟩
theorem sim_c {d : D} {v : V} (h : ∀ H, Rep K H d v) : SimE K (tC v) (dC d) := fun _ H _ S w _ _ _ k q => k v H d S (Go.refl w) (h H) q
theorem sim_op {r : R2} {ρ : R2D} {ta tb : TE} {τa τb : ED} (hr : SimR2 K r ρ) (ha : SimE K ta τa) (hb : SimE K tb τb) : SimE K (tOp r ta tb) (dOp ρ τa τb) := fun σ H δ S w sl Q R k h => by
  refine ha σ H δ S w sl _ _ (fun x H1 dx S1 g1 r1 q1 => ?_) h
  refine hb σ H1 δ S1 g1.wd (sl.im (g1.im w)) _ _ (fun y H2 dy S2 g2 r2 q2 => ?_) q1
  exact hr H2 S2 x y dx dy g2.wd (r1.im (g2.im g1.wd)) r2 Q R (fun v H3 d S3 g3 r3 q3 => k v H3 d S3 ((g1.trans g2).trans g3) r3 q3) q2
end
def canE (K : PySem.W.Frag) (τ : ED) : TE := fun σ H R => ∃ δ S Q, Wd K H S ∧ SlOk K H σ δ ∧ (∀ v H' d S', Go K S H S' H' → Rep K H' d v → Q d S' → R v H') ∧ τ δ S Q
theorem sim_can {K : PySem.W.Frag} {τ : ED} : SimE K (canE K τ) τ := fun σ H δ S w sl Q R k h => ⟨δ, S, Q, w, sl, k, h⟩
theorem E.can {X : Cx} {e : Expr} {τ : ED} (h : E X e τ) : PE X e (canE X.K τ) := by
  obtain ⟨t, h1, h2⟩ := h
  refine ⟨fun pins s σ H R I q => ?_⟩
  obtain ⟨δ, S, Q, w, sl, k, q⟩ := q
  exact h1.run pins s σ H R I (h2 σ H δ S w sl Q R k q)
def canT (K : PySem.W.Frag) (τ : TD) : TT := fun σ H R => ∃ δ S Q, Wd K H S ∧ SlOk K H σ δ ∧ (∀ b H' S', Go K S H S' H' → Q b S' → R b H') ∧ τ δ S Q
theorem sim_canT {K : PySem.W.Frag} {τ : TD} : SimT K (canT K τ) τ := fun σ H δ S w sl Q R k h => ⟨δ, S, Q, w, sl, k, h⟩
theorem T.can {X : Cx} {e : Expr} {τ : TD} (h : T X e τ) : PT X e (canT X.K τ) := by
  obtain ⟨t, h1, h2⟩ := h
  refine ⟨fun pins s σ H R I q => ?_⟩
  obtain ⟨δ, S, Q, w, sl, k, q⟩ := q
  exact h1.run pins s σ H R I (h2 σ H δ S w sl Q R k q)
section
variable {X : Cx} {a b c e : Expr} {pos : Pos} {τa τb τc τ : ED}
theorem e_var (i : Nat) {x : Str} {pos : Pos} (hN : X.N[i]? = some x := by rfl) (hv : Vis X.env.scope x := by first | exact Or.inl rfl | exact Or.inr (Or.inl rfl) | exact Or.inr (Or.inr rfl)) (hd : (x == ("__debug__" : Str)) = false := by decide)
    (hcd : (x == ("__classdict__" : Str)) = false := by decide) : E X (.Name x pos) (dVar i) := ⟨_, pe_var hN hv hd hcd, sim_var⟩
theorem e_int {i : Int} {j pos} : E X (.Constant (.int i) j pos) (dC (.int i)) := ⟨_, pe_int, sim_c fun _ => rfl⟩
theorem e_bl {b : Bool} {j pos} : E X (.Constant (.bool b) j pos) (dC (.bl b)) := ⟨_, pe_bl, sim_c fun _ => rfl⟩
theorem e_non {j pos} : E X (.Constant .none j pos) (dC .non) := ⟨_, pe_non, sim_c fun _ => rfl⟩
theorem e_str {x : Str} {j pos} (s : List Nat) (h : x = ⟨s.toArray⟩ := by decide +kernel) : E X (.Constant (.str x) j pos) (dC (.str s)) := ⟨_, pe_str, sim_c fun _ => by rw [h]; rfl⟩
theorem e_op {op : Operator} {ρ : R2D} (ho : O X (binaryOp op) ρ) (ha : E X a τa) (hb : E X b τb) : E X (.BinOp a op b pos) (dOp ρ τa τb) := by
  obtain ⟨r, h1, h2⟩ := ho
  obtain ⟨ta, a1, a2⟩ := ha
  obtain ⟨tb, b1, b2⟩ := hb
  exact ⟨_, pe_op h1 a1 b1, sim_op h2 a2 b2⟩
theorem e_cmp {op : CmpOp} {ρ : R2D} (ho : O X (compareOp op) ρ) (ha : E X a τa) (hb : E X b τb) (hm : behindInMarks op b = false := by first | exact nomark _ | rfl) : E X (.Compare a [op] [b] pos) (dOp ρ τa τb) := by
  obtain ⟨r, h1, h2⟩ := ho
  obtain ⟨ta, a1, a2⟩ := ha
  obtain ⟨tb, b1, b2⟩ := hb
  exact ⟨_, pe_cmpR h1 a1 b1 hm, sim_op h2 a2 b2⟩
theorem O.or {f : Value → Value → Sem Value} {ρ ρ' : R2D} (h : O X f ρ) (h' : O X f ρ') : O X f (fun x y S Q => ρ x y S Q ∨ ρ' x y S Q) := by
  obtain ⟨r, a1, a2⟩ := h
  obtain ⟨r', b1, b2⟩ := h'
  refine ⟨_, a1.or b1, fun H S x y dx dy w rx ry Q R k q => ?_⟩
  rcases q with q | q
  · exact .inl (a2 H S x y dx dy w rx ry Q R k q)
  · exact .inr (b2 H S x y dx dy w rx ry Q R k q)
theorem O.imp {f : Value → Value → Sem Value} {ρ ρ' : R2D} (h : O X f ρ) (hi : ∀ x y S Q, ρ' x y S Q → ρ x y S Q) : O X f ρ' := by
  obtain ⟨r, a1, a2⟩ := h
  exact ⟨r, a1, fun H S x y dx dy w rx ry Q R k q => a2 H S x y dx dy w rx ry Q R k (hi _ _ _ _ q)⟩
theorem C.or {f : Value} {ρ ρ' : CD} (h : C X f ρ) (h' : C X f ρ') : C X f (fun xs S Q => ρ xs S Q ∨ ρ' xs S Q) := by
  obtain ⟨r, a1, a2⟩ := h
  obtain ⟨r', b1, b2⟩ := h'
  refine ⟨_, CallR.or a1 b1, fun H S vs ds w r Q R k q => ?_⟩
  rcases q with q | q
  · exact .inl (a2 H S vs ds w r Q R k q)
  · exact .inr (b2 H S vs ds w r Q R k q)
theorem C.imp {f : Value} {ρ ρ' : CD} (h : C X f ρ) (hi : ∀ xs S Q, ρ' xs S Q → ρ xs S Q) : C X f ρ' := by
  obtain ⟨r, a1, a2⟩ := h
  exact ⟨r, a1, fun H S vs ds w r Q R k q => a2 H S vs ds w r Q R k (hi _ _ _ q)⟩

/-! ### operators -/
def rII (g : Int → Int → D) : R2D := fun x y S Q => match x, y with | .int i, .int j => Q (g i j) S | _, _ => False
def rIIc (c : Int → Int → Prop) (g : Int → Int → D) : R2D := fun x y S Q => match x, y with | .int i, .int j => c i j ∧ Q (g i j) S | _, _ => False
theorem o_II {f : Value → Value → Sem Value} {g : Int → Int → V} {g' : Int → Int → D} (h : OpR X f (rI0 g)) (hg : ∀ K H i j, Rep K H (g' i j) (g i j)) : O X f (rII g') := by
  refine ⟨_, h, fun H S x y dx dy w rx ry Q R k q => ?_⟩
  cases dx <;> cases dy <;> first | exact False.elim q | skip
  rename_i i j
  exact ⟨i, j, rx, ry, k _ H _ S (Go.refl w) (hg _ _ _ _) q⟩
theorem o_IIc {f : Value → Value → Sem Value} {c : Int → Int → Prop} {g : Int → Int → V} {g' : Int → Int → D} (h : OpR X f (rI c g)) (hg : ∀ K H i j, Rep K H (g' i j) (g i j)) : O X f (rIIc c g') := by
  refine ⟨_, h, fun H S x y dx dy w rx ry Q R k q => ?_⟩
  cases dx <;> cases dy <;> first | exact False.elim q | skip
  rename_i i j
  exact ⟨i, j, rx, ry, q.1, k _ H _ S (Go.refl w) (hg _ _ _ _) q.2⟩
def dAddS : R2D := fun x y S Q => match x, y with | .str a, .str b => a.length + b.length ≤ sizeLine ∧ Q (.str (a ++ b)) S | _, _ => False
theorem str_len (s : List Nat) : (⟨s.toArray⟩ : Str).length = s.length := by show s.toArray.size = _; simp
theorem str_app (a b : List Nat) : (⟨a.toArray⟩ : Str) ++ ⟨b.toArray⟩ = ⟨(a ++ b).toArray⟩ := by show (⟨a.toArray ++ b.toArray⟩ : Str) = _; simp
theorem o_addS : O X (binaryOp .Add) dAddS := by
  refine ⟨_, op_add_str, fun H S x y dx dy w rx ry Q R k q => ?_⟩
  cases dx <;> cases dy <;> first | exact False.elim q | skip
  rename_i s t
  exact ⟨_, _, rx, ry, by rw [str_len, str_len]; exact q.1, by rw [str_app]; exact k _ H (.str (s ++ t)) S (Go.refl w) rfl q.2⟩
def dAddT : R2D := fun x y S Q => match x, y with | .tup a, .tup b => a.length + b.length ≤ sizeLine ∧ Q (.tup (a ++ b)) S | _, _ => False
theorem o_addT : O X (binaryOp .Add) dAddT := by
  refine ⟨_, op_catA, fun H S x y dx dy w rx ry Q R k q => ?_⟩
  cases dx <;> cases dy <;> first | exact False.elim q | skip
  rename_i s t
  obtain ⟨a, vs, rfl, ha, ra⟩ := rx
  obtain ⟨b, us, rfl, hb, rb⟩ := ry
  refine ⟨a, b, vs, us, rfl, rfl, ha, hb, by rw [← ra.length, ← rb.length]; exact q.1, fun e => ?_, fun _ e => ?_, fun _ _ p hp => ?_⟩
  · have : s = [] := List.eq_nil_of_length_eq_zero (by rw [ra.length, e]; rfl)
    subst this
    exact k _ H (.tup ([] ++ t)) S (Go.refl w) ⟨b, us, rfl, hb, rb⟩ q.2
  · have : t = [] := List.eq_nil_of_length_eq_zero (by rw [rb.length, e]; rfl)
    subst this
    refine k _ H (.tup (s ++ [])) S (Go.refl w) ⟨a, vs, rfl, ha, ?_⟩ q.2
    rw [List.append_nil]; exact ra
  · have g := Go.new (u := .tup (vs ++ us)) w hp
    exact k _ _ (.tup (s ++ t)) S g ⟨p, vs ++ us, rfl, SqT.of upd_same, (ra.append rb).im (g.im w)⟩ q.2
/-- + of two ints, texts, tuples -/
def dAdd : R2D := fun x y S Q => match x, y with
  | .int i, .int j => Q (.int (i + j)) S
  | .str a, .str b => a.length + b.length ≤ sizeLine ∧ Q (.str (a ++ b)) S
  | .tup a, .tup b => a.length + b.length ≤ sizeLine ∧ Q (.tup (a ++ b)) S
  | _, _ => False
theorem o_add : O X (binaryOp .Add) dAdd := by
  refine O.imp ((o_II (g' := fun i j => .int (i + j)) op_add fun _ _ _ _ => rfl).or (o_addS.or o_addT)) fun x y S Q q => ?_
  cases x <;> cases y <;> first | exact False.elim q | exact .inl q | exact .inr (.inl q) | exact .inr (.inr q)
def dSub : R2D := rII fun i j => .int (i - j)
def dMul : R2D := rIIc CMul fun i j => .int (i * j)
def dMod : R2D := rIIc (fun _ j => 0 < j) fun i j => .int (i % j)
def dFdiv : R2D := rIIc CDiv fun i j => .int (i / j)
def dPow : R2D := rIIc CPow fun i j => .int (i ^ j.toNat)
theorem o_sub : O X (binaryOp .Sub) dSub := o_II op_sub fun _ _ _ _ => rfl
theorem o_mul : O X (binaryOp .Mult) dMul := o_IIc op_mul fun _ _ _ _ => rfl
theorem o_mod : O X (binaryOp .Mod) dMod := o_IIc op_mod fun _ _ _ _ => rfl
theorem o_fdiv : O X (binaryOp .FloorDiv) dFdiv := o_IIc op_fdiv fun _ _ _ _ => rfl
theorem o_pow : O X (binaryOp .Pow) dPow := o_IIc op_pow fun _ _ _ _ => rfl
def dLt : R2D := rII fun i j => .bl (decide (i < j))
def dLe : R2D := rII fun i j => .bl (decide (i ≤ j))
def dGt : R2D := rII fun i j => .bl (decide (j < i))
def dGe : R2D := rII fun i j => .bl (decide (j ≤ i))
theorem o_lt : O X (compareOp .Lt) dLt := o_II op_lt fun _ _ _ _ => rfl
theorem o_le : O X (compareOp .LtE) dLe := o_II op_le fun _ _ _ _ => rfl
theorem o_gt : O X (compareOp .Gt) dGt := o_II op_gt fun _ _ _ _ => rfl
theorem o_ge : O X (compareOp .GtE) dGe := o_II op_ge fun _ _ _ _ => rfl
theorem str_inj {a b : List Nat} : ((⟨a.toArray⟩ : Str) = ⟨b.toArray⟩) ↔ a = b := by
  constructor
  · intro h; injection h with h; simpa using h
  · rintro rfl; rfl
/-- == of scalars -/
def scd : D → D → Option Bool
  | .int i, .int j => some (decide (i = j))
  | .str i, .str j => some (decide (i = j))
  | .bl i, .bl j => some (decide (i = j))
  | .non, .non => some true
  | .non, .int _ => some false | .int _, .non => some false | .non, .bl _ => some false | .bl _, .non => some false | .non, .str _ => some false | .str _, .non => some false
  | .int _, .str _ => some false | .str _, .int _ => some false | .bl _, .str _ => some false | .str _, .bl _ => some false
  | _, _ => none
theorem scd_ok {K : PySem.W.Frag} {H : Hp} {dx dy : D} {x y : V} (rx : Rep K H dx x) (ry : Rep K H dy y) {b : Bool} (h : scd dx dy = some b) : scal x y = true ∧ decide (x = y) = b := by
  cases dx <;> cases dy <;> simp only [scd, reduceCtorEq, Option.some.injEq] at h
  all_goals (obtain rfl := rx; obtain rfl := ry; subst h; refine ⟨rfl, ?_⟩; simp [str_inj])
def dEq : R2D := fun x y S Q => match scd x y with | some b => Q (.bl b) S | none => False
def dNe : R2D := fun x y S Q => match scd x y with | some b => Q (.bl (!b)) S | none => False
theorem o_eq : O X (compareOp .Eq) dEq := by
  refine ⟨_, op_eq, fun H S x y dx dy w rx ry Q R k q => ?_⟩
  unfold dEq at q
  cases e : scd dx dy with
  | none => rw [e] at q; exact q.elim
  | some b =>
    rw [e] at q
    obtain ⟨h1, h2⟩ := scd_ok rx ry e
    exact ⟨h1, k _ H (.bl b) S (Go.refl w) (by rw [h2]; rfl) q⟩
theorem o_ne : O X (compareOp .NotEq) dNe := by
  refine ⟨_, op_ne, fun H S x y dx dy w rx ry Q R k q => ?_⟩
  unfold dNe at q
  cases e : scd dx dy with
  | none => rw [e] at q; exact q.elim
  | some b =>
    rw [e] at q
    obtain ⟨h1, h2⟩ := scd_ok rx ry e
    exact ⟨h1, k _ H (.bl (!b)) S (Go.refl w) (by rw [h2]; rfl) q⟩
/-- is None -/
def dIsN : R2D := fun x y S Q => match y with | .non => Q (.bl (match x with | .non => true | _ => false)) S | _ => False
def dNotN : R2D := fun x y S Q => match y with | .non => Q (.bl (match x with | .non => false | _ => true)) S | _ => False
theorem o_isN : O X (compareOp .Is) dIsN := by
  refine ⟨_, op_isN, fun H S x y dx dy w rx ry Q R k q => ?_⟩
  cases dy <;> first | exact False.elim q | skip
  obtain rfl := ry
  refine ⟨rfl, k _ H _ S (Go.refl w) ?_ q⟩
  cases dx <;> first | (obtain rfl := rx; rfl) | (obtain ⟨_, _, rfl, _⟩ := rx; rfl)
theorem o_notN : O X (compareOp .IsNot) dNotN := by
  refine ⟨_, op_notN, fun H S x y dx dy w rx ry Q R k q => ?_⟩
  cases dy <;> first | exact False.elim q | skip
  obtain rfl := ry
  refine ⟨rfl, k _ H _ S (Go.refl w) ?_ q⟩
  cases dx <;> first | (obtain rfl := rx; rfl) | (obtain ⟨_, _, rfl, _⟩ := rx; rfl)
def dNeg : D → Sh → QD → Prop := fun x S Q => match x with | .int i => Q (.int (-i)) S | _ => False
theorem e_neg (ha : E X a τa) : E X (.UnaryOp .USub a pos) (dUn dNeg τa) := by
  obtain ⟨ta, a1, a2⟩ := ha
  refine ⟨_, pe_un un_neg a1, fun σ H δ S w sl Q R k h => ?_⟩
  refine a2 σ H δ S w sl _ _ (fun x H1 dx S1 g1 r1 q1 => ?_) h
  cases dx <;> first | exact False.elim q1 | skip
  rename_i i
  exact ⟨_, r1, k _ H1 (.int (-i)) S1 g1 rfl q1⟩

/-! ### tests -/
def dTruS (S : Sh) : D → Option Bool
  | .non => some false
  | .bl b => some b
  | .int i => some (decide (i ≠ 0))
  | .str s => if s.length ≤ sizeLine then some (!s.isEmpty) else none
  | .tup ds => some (!ds.isEmpty)
  | .frz ds => some (!ds.isEmpty)
  | .rf p => match S p with | some (.lst ds) => some (!ds.isEmpty) | _ => none
  | .ty _ => none
theorem tru_rep {K : PySem.W.Frag} {H : Hp} {S : Sh} {d : D} {v : V} {b : Bool} (w : Wd K H S) (r : Rep K H d v) (h : dTruS S d = some b) : TruV K v H b := by
  cases d with
  | non => obtain rfl := r; cases h; rfl
  | bl c => obtain rfl := r; cases h; rfl
  | int i => obtain rfl := r; cases h; show _ = _; rw [Bool.eq_iff_iff]; simp
  | str s =>
    obtain rfl := r
    simp only [dTruS] at h
    split at h
    · rename_i hl
      cases h
      refine ⟨by rw [str_len]; exact hl, ?_⟩
      rw [str_len]
      cases s <;> simp <;> omega
    · cases h
  | tup ds =>
    obtain ⟨a, vs, rfl, q, rs⟩ := r
    cases h
    refine .inr (.inl ⟨vs, q, ?_⟩)
    have := rs.length
    cases ds <;> cases vs <;> simp at this ⊢
  | frz ds =>
    obtain ⟨a, vs, rfl, q, rs⟩ := r
    cases h
    refine .inl ⟨vs, q.l, ?_⟩
    have := rs.length
    cases ds <;> cases vs <;> simp at this ⊢
  | rf p =>
    obtain rfl := r
    simp only [dTruS] at h
    split at h
    · rename_i ds e
      cases h
      obtain ⟨ho, e1, vs, rfl, rs⟩ := w _ _ e
      refine .inl ⟨vs, SqL.of e1, ?_⟩
      have := rs.length
      cases ds <;> cases vs <;> simp at this ⊢
    · cases h
  | ty n => cases h
def dTru (a : ED) : TD := fun δ S Q => a δ S fun x S1 => match dTruS S1 x with | some b => Q b S1 | none => False
def dTB (a : ED) : TD := fun δ S Q => a δ S fun x S1 => match x with | .bl b => Q b S1 | _ => False
theorem t_cmp {op : CmpOp} {ρ : R2D} (ho : O X (compareOp op) ρ) (ha : E X a τa) (hb : E X b τb) (hm : behindInMarks op b = false := by first | exact nomark _ | rfl) : T X (.Compare a [op] [b] pos) (dTB (dOp ρ τa τb)) := by
  obtain ⟨r, h1, h2⟩ := ho
  obtain ⟨ta, a1, a2⟩ := ha
  obtain ⟨tb, b1, b2⟩ := hb
  refine ⟨_, pt_cmpR h1 a1 b1 hm, fun σ H δ S w sl Q R k h => ?_⟩
  refine sim_op h2 a2 b2 σ H δ S w sl _ _ (fun v H' d S' g r' q => ?_) h
  cases d <;> first | exact False.elim q | skip
  exact ⟨_, r', k _ H' S' g q⟩
theorem t_tru (ha : E X a τa) (he : ∀ whole, isTrue a X.env whole = (do let v ← whole; standAt a.pos; holding [v] (truthy v)) := by intro _; rfl) : T X a (dTru τa) := by
  obtain ⟨ta, a1, a2⟩ := ha
  refine ⟨_, pt_truth a1 he, fun σ H δ S w sl Q R k h => ?_⟩
  refine a2 σ H δ S w sl _ _ (fun v H' d S' g r' q => ?_) h
  cases e : dTruS S' d with
  | none => rw [e] at q; exact q.elim
  | some b =>
    rw [e] at q
    exact ⟨b, tru_rep g.wd r' e, k _ H' S' g q⟩
theorem T.w {τ : TD} (h : W X e τ) : T X e τ := by
  obtain ⟨t, h1, h2⟩ := h
  exact ⟨t, h1.pt, h2⟩
def dAnd (a b : TD) : TD := fun δ S Q => a δ S fun c S1 => if c = true then b δ S1 Q else Q false S1
def dOr (a b : TD) : TD := fun δ S Q => a δ S fun c S1 => if c = true then Q true S1 else b δ S1 Q
def dNot (a : TD) : TD := fun δ S Q => a δ S fun c S1 => Q (!c) S1
variable {κa κb : TD} {es rest : List Expr}
theorem w_and1 (ha : T X a κa) : W X (.BoolOp .And [a] pos) κa := by
  obtain ⟨t, h1, h2⟩ := ha
  exact ⟨t, pw_and1 h1, h2⟩
theorem w_or1 (ha : T X a κa) : W X (.BoolOp .Or [a] pos) κa := by
  obtain ⟨t, h1, h2⟩ := ha
  exact ⟨t, pw_or1 h1, h2⟩
theorem w_and (ha : T X a κa) (hb : W X (.BoolOp .And (b :: rest) pos) κb) : W X (.BoolOp .And (a :: b :: rest) pos) (dAnd κa κb) := by
  obtain ⟨ta, a1, a2⟩ := ha
  obtain ⟨tb, b1, b2⟩ := hb
  refine ⟨_, pw_and a1 b1, fun σ H δ S w sl Q R k h => ?_⟩
  refine a2 σ H δ S w sl _ _ (fun c H' S' g q => ?_) h
  cases c with
  | true => exact b2 σ H' δ S' g.wd (sl.im (g.im w)) Q R (fun b H2 S2 g2 q2 => k b H2 S2 (g.trans g2) q2) q
  | false => exact k _ H' S' g q
theorem w_or (ha : T X a κa) (hb : W X (.BoolOp .Or (b :: rest) pos) κb) : W X (.BoolOp .Or (a :: b :: rest) pos) (dOr κa κb) := by
  obtain ⟨ta, a1, a2⟩ := ha
  obtain ⟨tb, b1, b2⟩ := hb
  refine ⟨_, pw_or a1 b1, fun σ H δ S w sl Q R k h => ?_⟩
  refine a2 σ H δ S w sl _ _ (fun c H' S' g q => ?_) h
  cases c with
  | false => exact b2 σ H' δ S' g.wd (sl.im (g.im w)) Q R (fun b H2 S2 g2 q2 => k b H2 S2 (g.trans g2) q2) q
  | true => exact k _ H' S' g q
theorem t_not (ha : T X a κa) : T X (.UnaryOp .Not a pos) (dNot κa) := by
  obtain ⟨ta, a1, a2⟩ := ha
  exact ⟨_, pt_not a1, fun σ H δ S w sl Q R k h => a2 σ H δ S w sl _ _ (fun c H' S' g q => k _ H' S' g q) h⟩
/-- not, and, or as values -/
def dNotV (a : ED) : ED := fun δ S Q => dTru a δ S fun c S1 => Q (.bl (!c)) S1
def dAndV (a b : ED) : ED := fun δ S Q => a δ S fun x S1 => match dTruS S1 x with | some c => if c = true then b δ S1 Q else Q x S1 | none => False
def dOrV (a b : ED) : ED := fun δ S Q => a δ S fun x S1 => match dTruS S1 x with | some c => if c = true then Q x S1 else b δ S1 Q | none => False
theorem e_not (ha : E X a τa) : E X (.UnaryOp .Not a pos) (dNotV τa) := by
  obtain ⟨ta, a1, a2⟩ := ha
  refine ⟨_, pe_notT a1, fun σ H δ S w sl Q R k h => ?_⟩
  refine a2 σ H δ S w sl _ _ (fun v H' d S' g r' q => ?_) h
  cases e : dTruS S' d with
  | none => rw [e] at q; exact q.elim
  | some b =>
    rw [e] at q
    exact ⟨b, tru_rep g.wd r' e, k _ H' (.bl (!b)) S' g rfl q⟩
theorem e_one {op} (ha : E X a τa) : E X (.BoolOp op [a] pos) τa := by
  obtain ⟨ta, a1, a2⟩ := ha
  exact ⟨_, pe_one a1, a2⟩
theorem e_and (ha : E X a τa) (hb : E X (.BoolOp .And (b :: rest) pos) τb) : E X (.BoolOp .And (a :: b :: rest) pos) (dAndV τa τb) := by
  obtain ⟨ta, a1, a2⟩ := ha
  obtain ⟨tb, b1, b2⟩ := hb
  refine ⟨_, pe_andT a1 b1, fun σ H δ S w sl Q R k h => ?_⟩
  refine a2 σ H δ S w sl _ _ (fun v H' d S' g r' q => ?_) h
  cases e : dTruS S' d with
  | none => rw [e] at q; exact q.elim
  | some c =>
    rw [e] at q
    refine ⟨c, tru_rep g.wd r' e, ?_⟩
    cases c with
    | true => exact b2 σ H' δ S' g.wd (sl.im (g.im w)) Q R (fun v H2 d S2 g2 r2 q2 => k v H2 d S2 (g.trans g2) r2 q2) q
    | false => exact k _ H' _ S' g r' q
theorem e_or (ha : E X a τa) (hb : E X (.BoolOp .Or (b :: rest) pos) τb) : E X (.BoolOp .Or (a :: b :: rest) pos) (dOrV τa τb) := by
  obtain ⟨ta, a1, a2⟩ := ha
  obtain ⟨tb, b1, b2⟩ := hb
  refine ⟨_, pe_orT a1 b1, fun σ H δ S w sl Q R k h => ?_⟩
  refine a2 σ H δ S w sl _ _ (fun v H' d S' g r' q => ?_) h
  cases e : dTruS S' d with
  | none => rw [e] at q; exact q.elim
  | some c =>
    rw [e] at q
    refine ⟨c, tru_rep g.wd r' e, ?_⟩
    cases c with
    | false => exact b2 σ H' δ S' g.wd (sl.im (g.im w)) Q R (fun v H2 d S2 g2 r2 q2 => k v H2 d S2 (g.trans g2) r2 q2) q
    | true => exact k _ H' _ S' g r' q
def dIfE (c : TD) (a b : ED) : ED := fun δ S Q => c δ S fun t S1 => if t = true then a δ S1 Q else b δ S1 Q
theorem e_if (hc : T X c κa) (ha : E X a τa) (hb : E X b τb) : E X (.IfExp c a b pos) (dIfE κa τa τb) := by
  obtain ⟨tc, c1, c2⟩ := hc
  obtain ⟨ta, a1, a2⟩ := ha
  obtain ⟨tb, b1, b2⟩ := hb
  refine ⟨_, pe_ifExp c1 a1 b1, fun σ H δ S w sl Q R k h => ?_⟩
  refine c2 σ H δ S w sl _ _ (fun t H' S' g q => ?_) h
  cases t with
  | true => exact a2 σ H' δ S' g.wd (sl.im (g.im w)) Q R (fun v H2 d S2 g2 r2 q2 => k v H2 d S2 (g.trans g2) r2 q2) q
  | false => exact b2 σ H' δ S' g.wd (sl.im (g.im w)) Q R (fun v H2 d S2 g2 r2 q2 => k v H2 d S2 (g.trans g2) r2 q2) q

/-! ### argument lists, displays, calls -/
def dNil : AD := fun _ S Q => Q [] S
def dCons (a : ED) (r : AD) : AD := fun δ S Q => a δ S fun x S1 => r δ S1 fun xs S2 => Q (x :: xs) S2
variable {α : AD}
theorem a_nil : A X [] dNil := ⟨_, pa_nil, fun σ H δ S w sl Q R k h => k [] H [] S (Go.refl w) rfl h⟩
theorem a_cons (ha : E X e τ) (hr : A X es α) (hs : starEach (e :: es) X.env = (false, eval e X.env) :: starEach es X.env := by rfl) : A X (e :: es) (dCons τ α) := by
  obtain ⟨t, a1, a2⟩ := ha
  obtain ⟨tr, b1, b2⟩ := hr
  refine ⟨_, pa_cons a1 b1 hs, fun σ H δ S w sl Q R k h => ?_⟩
  refine a2 σ H δ S w sl _ _ (fun v H' d S' g r' q => ?_) h
  refine b2 σ H' δ S' g.wd (sl.im (g.im w)) _ _ (fun vs H2 ds S2 g2 r2 q2 => ?_) q
  exact k (v :: vs) H2 (d :: ds) S2 (g.trans g2) ⟨v, vs, rfl, r'.im (g2.im g.wd), r2⟩ q2
def dTup (a : AD) : ED := fun δ S Q => a δ S fun ds S1 => ds.length ≤ sizeLine ∧ Q (.tup ds) S1
theorem e_tup {x1} (h : A X es α) : E X (.Tuple es x1 pos) (dTup α) := by
  obtain ⟨t, a1, a2⟩ := h
  refine ⟨_, pe_tup a1, fun σ H δ S w sl Q R k h => ?_⟩
  refine a2 σ H δ S w sl _ _ (fun vs H' ds S' g r' q => ?_) h
  refine ⟨by rw [← r'.length]; exact q.1, fun p hp => ?_⟩
  have g2 := Go.new (u := .tup vs) g.wd hp
  exact k _ _ (.tup ds) S' (g.trans g2) ⟨p, vs, rfl, SqT.of upd_same, r'.im (g2.im g.wd)⟩ q.2
/-- a new list: as an object; read on the spot -/
def dNew (a : AD) : ED := fun δ S Q => a δ S fun ds S1 => ∀ p, S1 p = none → Q (.rf p) (su S1 p (.lst ds))
theorem Go.own {K : PySem.W.Frag} {S S1 : Sh} {H H1 : Hp} (g : Go K S H S1 H1) {p : Addr} {vs : List V} {ds : List D} (h0 : H p = none) (h : H1 p = some (.lst vs)) (hs : S1 p = none) (r : Reps K H1 ds vs) : Go K S H (su S1 p (.lst ds)) H1 := by
  refine ⟨g.ext, fun a o h1 h2 => ?_, fun q x hq => ?_, g.th⟩
  · rw [su_ne (ne_of_none h1 h0)]
    exact g.out a o h1 h2
  · by_cases e : q = p
    · subst e
      rw [su_same] at hq; cases hq
      exact ⟨_, h, vs, rfl, r⟩
    · rw [su_ne e] at hq
      exact g.wd q x hq
theorem e_new {ν : AD} (h : N X e ν) : E X e (dNew ν) := by
  obtain ⟨t, a1, a2⟩ := h
  refine ⟨_, a1, fun σ H δ S w sl Q R k h => ?_⟩
  refine a2 σ H δ S w sl _ _ (fun p H' vs ds S' g h0 hp hs r' q => ?_) h
  exact k _ H' (.rf p) _ (g.own h0 hp hs r') rfl (q p hs)
theorem l_new {ν : AD} (h : N X e ν) : L X e ν := by
  obtain ⟨t, a1, a2⟩ := h
  refine ⟨_, a1, fun σ H δ S w sl Q R k h => ?_⟩
  exact a2 σ H δ S w sl _ _ (fun p H2 vs ds S2 g h0 hp hs r2 q => k p H2 vs ds S2 g (SqL.of hp) r2 q) h
def dLst (a : AD) : AD := fun δ S Q => a δ S fun ds S1 => ds.length ≤ sizeLine ∧ Q ds S1
theorem n_lst (h : A X es α) : N X (.List es pos) (dLst α) := by
  obtain ⟨t, a1, a2⟩ := h
  refine ⟨_, pe_lst a1, fun σ H δ S w sl Q R k h => ?_⟩
  refine a2 σ H δ S w sl _ _ (fun vs H' ds S' g r' q => ?_) h
  refine ⟨by rw [← r'.length]; exact q.1, fun p hp => ?_⟩
  have g1 := Go.new (u := .lst vs) g.wd hp
  exact k p _ vs ds S' (g.trans g1) (g.th p hp) upd_same (g.wd.free hp) (r'.im (g1.im g.wd)) q.2
/-- a list at a name -/
def dAsL (a : ED) : AD := fun δ S Q => a δ S fun x S1 => match x with
  | .rf p => (match S1 p with | some (.lst ds) => Q ds S1 | _ => False)
  | .frz ds => Q ds S1
  | _ => False
theorem l_of (h : E X e τ) : L X e (dAsL τ) := by
  obtain ⟨t, a1, a2⟩ := h
  refine ⟨_, a1, fun σ H δ S w sl Q R k h => ?_⟩
  refine a2 σ H δ S w sl _ _ (fun v H' d S' g r' q => ?_) h
  cases d <;> first | exact False.elim q | skip
  · obtain ⟨a, vs, rfl, hf, rs⟩ := r'
    exact k a H' vs _ S' g hf.l rs q
  · rename_i p
    obtain rfl := r'
    simp only at q
    cases e : S' p with
    | none => rw [e] at q; exact q.elim
    | some o =>
      cases o with
      | ins _ _ => rw [e] at q; exact q.elim
      | lst ds =>
        rw [e] at q
        obtain ⟨ho, e1, vs, rfl, rs⟩ := g.wd _ _ e
        exact k p H' vs ds S' g (SqL.of e1) rs q
/-- a list made, as an object -/
def dCB (ρ : CD) (a : AD) : ED := fun δ S Q => a δ S fun ds S1 => ρ ds S1 Q
theorem sim_cb {K : PySem.W.Frag} {r : List V → Hp → VK → Prop} {ρ : CD} {ta : TA} {α : AD} (hr : SimC K r ρ) (ha : SimA K ta α) : SimE K (tCB r ta) (dCB ρ α) := fun σ H δ S w sl Q R k h =>
  ha σ H δ S w sl _ _ (fun vs H1 ds S1 g1 r1 q1 => hr H1 S1 vs ds g1.wd r1 Q R (fun v H2 d S2 g2 r2 q2 => k v H2 d S2 (g1.trans g2) r2 q2) q1) h
theorem e_callB {id : String} {x : Str} {p : Pos} {ρ : CD} (hc : C X (.builtin id) ρ) (hm : X.mg x = none) (ha : A X (e :: es) α) (hg : Gl X x := by rfl) (hv : bootBuiltins x = some (.builtin id) := by decide +kernel) (hn : x ≠ "__name__" := by decide) (hdb : (x == ("__debug__" : Str)) = false := by decide)
    (he : starEach (e :: es) X.env = (false, eval e X.env) :: starEach es X.env := by rfl) (hpl : (backTo pos (starEach es X.env)).any (·.1) = false := by rfl) : E X (.Call (.Name x p) (e :: es) [] pos) (dCB ρ α) := by
  obtain ⟨r, h1, h2⟩ := hc
  obtain ⟨ta, a1, a2⟩ := ha
  exact ⟨_, pe_callB h1 hg hm hv a1 hn hdb he hpl, sim_cb h2 a2⟩
theorem e_callTy {ty : String} {x : Str} {p : Pos} {ρ : CD} (hc : C X (.type ty) ρ) (hm : X.mg x = none) (ha : A X (e :: es) α) (hg : Gl X x := by rfl) (hv : bootBuiltins x = some (.type ty) := by decide +kernel) (hn : x ≠ "__name__" := by decide) (hdb : (x == ("__debug__" : Str)) = false := by decide)
    (he : starEach (e :: es) X.env = (false, eval e X.env) :: starEach es X.env := by rfl) (hpl : (backTo pos (starEach es X.env)).any (·.1) = false := by rfl) : E X (.Call (.Name x p) (e :: es) [] pos) (dCB ρ α) := by
  obtain ⟨r, h1, h2⟩ := hc
  obtain ⟨ta, a1, a2⟩ := ha
  exact ⟨_, pe_callTy h1 hg hm hv a1 hn hdb he hpl, sim_cb h2 a2⟩
/-- a def's promise over data -/
abbrev SpD := List D → Sh → QD → Prop
def lift (K : PySem.W.Frag) (n : Nat) (sp : SpD) : Sp := fun vs H Q _ => ∃ S ds, Wd K H S ∧ Reps K H ds vs ∧ ds.length = n ∧ ∃ Qd : QD, (∀ v H' d S', Go K S H S' H' → Rep K H' d v → Qd d S' → Q v H') ∧ sp ds S Qd
def dCall (n : Nat) (sp : SpD) (dv : List D) (a : AD) : ED := fun δ S Q => a δ S fun ds S1 => (ds ++ dv).length = n ∧ sp (ds ++ dv) S1 Q
theorem sim_call {K : PySem.W.Frag} {n : Nat} {sp : SpD} {ta : TA} {α : AD} {dv : List D} {dvs : List V} (hd : ∀ H, Reps K H dv dvs) (ha : SimA K ta α) : SimE K (tCall (lift K n sp) dvs E0 ta) (dCall n sp dv α) := fun σ H δ S w sl Q R k h =>
  ha σ H δ S w sl _ _ (fun vs H1 ds S1 g1 r1 q1 => ⟨S1, ds ++ dv, g1.wd, r1.append (hd H1), q1.1, Q, fun v H2 d S2 g2 r2 q2 => k v H2 d S2 (g1.trans g2) r2 q2, q1.2⟩) h
theorem e_call {n k : Nat} {sp : SpD} {f : Addr} {fd : FuncData} {ps : List Str} {x : Str} {p : Pos} (F : FnOk X.prog X.w X.K X.mg X.base CX0 k f fd ps (lift X.K n sp)) (hr : Room k X.A) (hm : X.mg x = some (.ref f)) (hk : PySem.W.keepIn X.K (.ref f) = true) (hb : Binds X.K fd ps [])
    (ha : A X (e :: es) α) (hg : Gl X x := by rfl) (hdb : (x == ("__debug__" : Str)) = false := by decide) (he : starEach (e :: es) X.env = (false, eval e X.env) :: starEach es X.env := by rfl) (hpl : (backTo pos (starEach es X.env)).any (·.1) = false := by rfl) :
    E X (.Call (.Name x p) (e :: es) [] pos) (dCall n sp [] α) := by
  obtain ⟨ta, a1, a2⟩ := ha
  exact ⟨_, pe_call F hr hg hm hk hb .nil pass0 a1 hdb he hpl, sim_call (fun _ => rfl) a2⟩
theorem e_call0 {k : Nat} {sp : SpD} {f : Addr} {fd : FuncData} {ps : List Str} {x : Str} {p : Pos} (F : FnOk X.prog X.w X.K X.mg X.base CX0 k f fd ps (lift X.K 0 sp)) (hr : Room k X.A) (hm : X.mg x = some (.ref f)) (hk : PySem.W.keepIn X.K (.ref f) = true) (hb : Binds X.K fd ps [])
    (hg : Gl X x := by rfl) (hdb : (x == ("__debug__" : Str)) = false := by decide) : E X (.Call (.Name x p) [] [] pos) (dCall 0 sp [] dNil) :=
  ⟨_, pe_call0 F hr hg hm hk hb .nil pass0 hdb, sim_call (fun _ => rfl) fun σ H δ S w sl Q R k h => k [] H [] S (Go.refl w) rfl h⟩

/-! ### statements -/
def dNext : SD := fun F δ S => F.nx δ S
def dSeq (t u : SD) : SD := fun F δ S => t { F with nx := u F } δ S
def dBreak : SD := fun F δ S => F.bk δ S
def dCont : SD := fun F δ S => F.ct δ S
def dDrop (a : ED) : SD := fun F δ S => a δ S fun _ S1 => F.nx δ S1
def dRet (a : ED) : SD := fun F δ S => a δ S F.rt
def dRetN : SD := fun F _ S => F.rt .non S
def dIfS (c : TD) (t u : SD) : SD := fun F δ S => c δ S fun b S1 => if b = true then t F δ S1 else u F δ S1
def dNever : SD := fun _ _ _ => False
variable {st : Stmt} {sts : List Stmt} {ξ υ : SD}
theorem b_nil : B X [] dNext := ⟨_, pss_nil, fun σ H δ S w sl F G hn hr hb hc h => hn σ H δ S (Go.refl w) sl h⟩
theorem b_cons (h1 : S1 X st ξ) (h2 : B X sts υ) : B X (st :: sts) (dSeq ξ υ) := by
  obtain ⟨t, a1, a2⟩ := h1
  obtain ⟨u, b1, b2⟩ := h2
  refine ⟨_, pss_cons a1 b1, fun σ H δ S w sl F G hn hr hb hc h => ?_⟩
  refine a2 σ H δ S w sl { F with nx := υ F } { G with nx := u G } (fun σ' H' δ' S' g sl' q => ?_) hr hb hc h
  exact b2 σ' H' δ' S' g.wd sl' F G (fun σ2 H2 δ2 S2 g2 => hn σ2 H2 δ2 S2 (g.trans g2)) (fun v H2 d S2 g2 => hr v H2 d S2 (g.trans g2)) (fun σ2 H2 δ2 S2 g2 => hb σ2 H2 δ2 S2 (g.trans g2)) (fun σ2 H2 δ2 S2 g2 => hc σ2 H2 δ2 S2 (g.trans g2)) q
theorem b_one (h1 : S1 X st ξ) : B X [st] ξ := by
  obtain ⟨t, a1, a2⟩ := h1
  exact ⟨_, pss_one a1, a2⟩
theorem s_pass : S1 X (.Pass pos) dNext := ⟨_, ps_pass, fun σ H δ S w sl F G hn hr hb hc h => hn σ H δ S (Go.refl w) sl h⟩
theorem s_break : S1 X (.Break pos) dBreak := ⟨_, ps_break, fun σ H δ S w sl F G hn hr hb hc h => hb σ H δ S (Go.refl w) sl h⟩
theorem s_cont : S1 X (.Continue pos) dCont := ⟨_, ps_continue, fun σ H δ S w sl F G hn hr hb hc h => hc σ H δ S (Go.refl w) sl h⟩
theorem s_expr (he : E X e τ) (hs : swapsWith e none pos.line X.env = pure false := by rfl) : S1 X (.Expr e pos) (dDrop τ) := by
  obtain ⟨t, a1, a2⟩ := he
  exact ⟨_, ps_expr a1 hs, fun σ H δ S w sl F G hn hr hb hc h => a2 σ H δ S w sl _ _ (fun v H' d S' g r' q => hn σ H' δ S' g (sl.im (g.im w)) q) h⟩
theorem s_ret (he : E X e τ) : S1 X (.Return (some e) pos) (dRet τ) := by
  obtain ⟨t, a1, a2⟩ := he
  exact ⟨_, ps_ret a1, fun σ H δ S w sl F G hn hr hb hc h => a2 σ H δ S w sl _ _ (fun v H' d S' g r' q => hr v H' d S' g r' q) h⟩
theorem s_retN : S1 X (.Return none pos) dRetN := ⟨_, ps_retN, fun σ H δ S w sl F G hn hr hb hc h => hr .non H .non S (Go.refl w) rfl h⟩
theorem s_if {κ : TD} {yes no : List Stmt} (hc : T X c κ) (ha : B X yes ξ) (hb : B X no υ) : S1 X (.If c yes no pos) (dIfS κ ξ υ) := by
  obtain ⟨tc, c1, c2⟩ := hc
  obtain ⟨ta, a1, a2⟩ := ha
  obtain ⟨tb, b1, b2⟩ := hb
  refine ⟨_, ps_if c1 a1 b1, fun σ H δ S w sl F G hn hr hb hc h => ?_⟩
  refine c2 σ H δ S w sl _ _ (fun t H' S' g q => ?_) h
  cases t with
  | true => exact a2 σ H' δ S' g.wd (sl.im (g.im w)) F G (fun σ2 H2 δ2 S2 g2 => hn σ2 H2 δ2 S2 (g.trans g2)) (fun v H2 d S2 g2 => hr v H2 d S2 (g.trans g2)) (fun σ2 H2 δ2 S2 g2 => hb σ2 H2 δ2 S2 (g.trans g2)) (fun σ2 H2 δ2 S2 g2 => hc σ2 H2 δ2 S2 (g.trans g2)) q
  | false => exact b2 σ H' δ S' g.wd (sl.im (g.im w)) F G (fun σ2 H2 δ2 S2 g2 => hn σ2 H2 δ2 S2 (g.trans g2)) (fun v H2 d S2 g2 => hr v H2 d S2 (g.trans g2)) (fun σ2 H2 δ2 S2 g2 => hb σ2 H2 δ2 S2 (g.trans g2)) (fun σ2 H2 δ2 S2 g2 => hc σ2 H2 δ2 S2 (g.trans g2)) q
theorem s_never : S1 X st dNever := ⟨_, ps_never, fun _ _ _ _ _ _ _ _ _ _ _ _ h => h.elim⟩
def dAsg (a : ED) (g : GD) : SD := fun F δ S => a δ S fun x S1 => g x δ S1 F.nx
def dName (i : Nat) : GD := fun d δ S Q => Q (δ.set i (some d)) S
theorem g_name (i : Nat) {x : Str} (hN : X.N.Nodup) (hi : X.N[i]? = some x := by rfl) (hx : Loc X.env.scope x := by first | exact Or.inl rfl | exact Or.inr rfl) (hf : X.fn x = true ∨ X.env.scope.names.lookup x = some .local := by first | exact .inl rfl | exact .inr rfl | assumption) : G X (.Name x pos) (dName i) :=
  ⟨_, pg_name hN hi hx hf, fun σ H δ S v d w sl r Q R k h => k _ H _ S (Go.refl w) (sl.set i r) h⟩
theorem s_asg {tg e : Expr} {γ : GD} (he : E X e τ) (hg : G X tg γ) (hs : swapsWithSole [tg] e pos.line X.env = pure false := by rfl) (hw : swappedStores [tg] e X.env = pure none := by rfl)
    (h1 : (assignEach [tg] X.env).map (·.2) = [assign tg X.env] := by rfl) : S1 X (.Assign [tg] e pos) (dAsg τ γ) := by
  obtain ⟨t, a1, a2⟩ := he
  obtain ⟨tg', g1, g2⟩ := hg
  refine ⟨_, ps_asg a1 g1 hs hw h1, fun σ H δ S w sl F G hn hr hb hc h => ?_⟩
  refine a2 σ H δ S w sl _ _ (fun v H' d S' g r' q => ?_) h
  exact g2 σ H' δ S' v d g.wd (sl.im (g.im w)) r' _ _ (fun σ2 H2 δ2 S2 g' sl2 q2 => hn σ2 H2 δ2 S2 (g.trans g') sl2 q2) q
end
end DL

set_option Elab.async false
set_option linter.all false
set_option maxRecDepth 100000
namespace DL
open PySem PySem.Spec L2

/-! ### loops -/
def dLoop (γ : GD) (τ : SD) (F : EndsD) (ck : Sh → Prop) : List D → Sl → Sh → Prop
  | [], δ, S => F.nx δ S
  | x :: xs, δ, S => γ x δ S fun δ1 S1 => τ { F with nx := fun δ2 S2 => ck S2 ∧ dLoop γ τ F ck xs δ2 S2, ct := fun δ2 S2 => ck S2 ∧ dLoop γ τ F ck xs δ2 S2, bk := F.nx } δ1 S1
def dFor (ι : ID) (γ : GD) (τ : SD) : SD := fun F δ S => ι δ S fun xs ck S1 => dLoop γ τ F ck xs δ S1
/-- while: within so many turns -/
def dWh (κ : TD) (τ : SD) (F : EndsD) : Nat → Sl → Sh → Prop
  | 0, _, _ => False
  | n + 1, δ, S => κ δ S fun b S1 => if b = true then τ { F with nx := dWh κ τ F n, ct := dWh κ τ F n, bk := F.nx } δ S1 else F.nx δ S1
def dWhile (κ : TD) (τ : SD) : SD := fun F δ S => ∃ n, dWh κ τ F n δ S
theorem drop_cons {α : Type} {xs : List α} {i : Nat} (h : i < xs.length) : xs.drop i = xs[i] :: xs.drop (i + 1) := List.drop_eq_getElem_cons h
section
variable {K : PySem.W.Frag}
theorem sim_for {wi : TI} {g : TG} {tb : TS} {ι : ID} {γ : GD} {τ : SD} (hi : SimI K wi ι) (hg : SimG K g γ) (hb : SimS K tb τ) : SimS K (tFor wi g tb) (dFor ι γ τ) := by
  intro σ H δ S w sl F G hn hr hbk hct h
  refine hi σ H δ S w sl _ _ (fun J H1 S1 xs ck g1 hJ hck q => ?_) h
  refine ⟨fun i m σ' H' => ∃ δ' S', Go K S1 H1 S' H' ∧ SlOk K H' σ' δ' ∧ ck S' ∧ i ≤ xs.length ∧ m = xs.length - i ∧ dLoop γ τ F ck (xs.drop i) δ' S', ⟨xs.length, δ, S1, Go.refl g1.wd, sl.im (g1.im w), hck, Nat.zero_le _, rfl, by simpa using q⟩, ?_⟩
  rintro i m σ' H' ⟨δ', S', g', sl', ck', hi', rfl, q'⟩
  obtain ⟨j1, j2⟩ := hJ S' H' g' ck' i
  by_cases hlt : i < xs.length
  · obtain ⟨go, yl⟩ := j1 xs[i] (by simp [hlt])
    rw [drop_cons hlt] at q'
    refine .inr ⟨go, fun σ2 H2 => ∃ δ2 S2, Go K S1 H1 S2 H2 ∧ SlOk K H2 σ2 δ2 ∧ ck S2 ∧ dLoop γ τ F ck (xs.drop (i + 1)) δ2 S2, fun σ2 H2 ⟨δ2, S2, g2, sl2, ck2, q2⟩ => ⟨xs.length - (i + 1), by omega, δ2, S2, g2, sl2, ck2, hlt, rfl, q2⟩, fun x H2 y => ?_⟩
    obtain ⟨g2, rx⟩ := yl x H2 y
    refine hg σ' H2 δ' S' x xs[i] g2.wd (sl'.im (g2.im g'.wd)) rx _ _ (fun σ3 H3 δ3 S3 g3 sl3 q3 => ?_) q'
    have g13 : Go K S1 H1 S3 H3 := (g'.trans g2).trans g3
    refine hb σ3 H3 δ3 S3 g3.wd sl3 _ _ (fun σ4 H4 δ4 S4 g4 sl4 q4 => ?_) (fun v H4 d S4 g4 r4 q4 => ?_) (fun σ4 H4 δ4 S4 g4 sl4 q4 => ?_) (fun σ4 H4 δ4 S4 g4 sl4 q4 => ?_) q3
    · exact ⟨δ4, S4, g13.trans g4, sl4, q4.1, q4.2⟩
    · exact hr v H4 d S4 (g1.trans (g13.trans g4)) r4 q4
    · exact hn σ4 H4 δ4 S4 (g1.trans (g13.trans g4)) sl4 q4
    · exact ⟨δ4, S4, g13.trans g4, sl4, q4.1, q4.2⟩
  · have e : xs.drop i = [] := List.drop_eq_nil_of_le (by omega)
    rw [e] at q'
    exact .inl ⟨j2 (by omega), hn σ' H' δ' S' (g1.trans g') sl' q'⟩
theorem sim_while {tc : TT} {tb : TS} {κ : TD} {τ : SD} (hc : SimT K tc κ) (hb : SimS K tb τ) : SimS K (tWhile tc tb) (dWhile κ τ) := by
  intro σ H δ S w sl F G hn hr hbk hct h
  obtain ⟨n, h⟩ := h
  refine ⟨fun m σ' H' => ∃ δ' S', Go K S H S' H' ∧ SlOk K H' σ' δ' ∧ dWh κ τ F m δ' S', ⟨n, δ, S, Go.refl w, sl, h⟩, ?_⟩
  rintro m σ' H' ⟨δ', S', g', sl', q'⟩
  cases m with
  | zero => exact False.elim q'
  | succ m =>
    refine hc σ' H' δ' S' g'.wd sl' _ _ (fun b H2 S2 g2 q2 => ?_) q'
    cases b with
    | true =>
      rw [if_pos rfl] at q2 ⊢
      refine ⟨fun σ3 H3 => ∃ δ3 S3, Go K S H S3 H3 ∧ SlOk K H3 σ3 δ3 ∧ dWh κ τ F m δ3 S3, fun σ3 H3 q3 => ⟨m, Nat.lt_succ_self m, q3⟩, ?_⟩
      have gg := g'.trans g2
      refine hb σ' H2 δ' S2 g2.wd (sl'.im (g2.im g'.wd)) _ _ (fun σ4 H4 δ4 S4 g4 sl4 q4 => ?_) (fun v H4 d S4 g4 r4 q4 => ?_) (fun σ4 H4 δ4 S4 g4 sl4 q4 => ?_) (fun σ4 H4 δ4 S4 g4 sl4 q4 => ?_) q2
      · exact ⟨δ4, S4, gg.trans g4, sl4, q4⟩
      · exact hr v H4 d S4 (gg.trans g4) r4 q4
      · exact hn σ4 H4 δ4 S4 (gg.trans g4) sl4 q4
      · exact ⟨δ4, S4, gg.trans g4, sl4, q4⟩
    | false =>
      rw [if_neg Bool.false_ne_true] at q2 ⊢
      exact hn σ' H2 δ' S2 (g'.trans g2) (sl'.im (g2.im g'.wd)) q2
end

/-! ### comprehensions -/
def dWipe (δ : Sl) : List Nat → Sl
  | [] => δ
  | v :: vs => (dWipe δ vs).set v none
theorem SlOk.wiped {K : PySem.W.Frag} {H : Hp} {σ : L2.St} {δ : Sl} (h : SlOk K H σ δ) : ∀ vs : List Nat, SlOk K H (wipe σ vs) (dWipe δ vs)
  | [] => h
  | v :: vs => by
    have ih := SlOk.wiped h vs
    refine ⟨by unfold wipe dWipe; rw [List.length_set, List.length_set]; exact ih.1, fun i d e => ?_⟩
    unfold dWipe at e
    unfold wipe
    by_cases z : v = i
    · subst z
      rw [List.getElem?_set_self'] at e
      cases hq : (dWipe δ vs)[v]? with
      | none => rw [hq] at e; cases e
      | some x => rw [hq] at e; cases e
    · rw [List.getElem?_set_ne z] at e ⊢
      exact ih.2 i d e
/-- the turns of a comprehension: what is made so far, what is left -/
def dComp (γ : GD) (κ : TD) (τ : ED) (δ : Sl) (ck : Sh → Prop) (Q : List D → Sh → Prop) : List D → List D → Sh → Prop
  | [], acc, S => Q acc S
  | x :: xs, acc, S => γ x δ S fun δ1 S1 => κ δ1 S1 fun b S2 => if b = true then τ δ1 S2 fun d S3 => acc.length < sizeLine ∧ ck S3 ∧ dComp γ κ τ δ ck Q xs (acc ++ [d]) S3 else ck S2 ∧ dComp γ κ τ δ ck Q xs acc S2
def dLc (ι : ID) (γ : GD) (κ : TD) (τ : ED) (vs : List Nat) : AD := fun δ S Q => ι δ S fun xs ck S1 => dComp γ κ τ (dWipe δ vs) ck Q xs [] S1
/-- a comprehension's target: it stores in own places alone -/
def SimGw (K : PySem.W.Frag) (vs : List Nat) (t : TG) (τ : GD) : Prop := ∀ σ H δ S v d, Wd K H S → SlOk K H (wipe σ vs) δ → Rep K H d v → ∀ (Q : Sl → Sh → Prop) (R : L2.St → Hp → Prop), (∀ σ' H' δ' S', wipe σ' vs = wipe σ vs → Go K S H S' H' → SlOk K H' σ' δ' → Q δ' S' → R σ' H') → τ d δ S Q → t v (wipe σ vs) H R
theorem sim_lc {K : PySem.W.Frag} {wi : TI} {g : TG} {tt : TT} {te : TE} {ι : ID} {γ : GD} {κ : TD} {τ : ED} {vs : List Nat} (hi : SimI K wi ι) (hg : SimGw K vs g γ) (ht : SimT K tt κ) (he : SimE K te τ) : SimN K (tLc wi g tt te vs) (dLc ι γ κ τ vs) := by
  intro σ H δ S w sl Q R k h
  refine hi σ H δ S w sl _ _ (fun J H1 S1 xs ck g1 hJ hck q => ?_) h
  intro p hp
  have hS1 : S1 p = none := g1.wd.free hp
  refine ⟨fun i m H' => ∃ S' acc vacc, Go K S1 H1 S' H' ∧ ck S' ∧ i ≤ xs.length ∧ m = xs.length - i ∧ H' p = some (.lst vacc) ∧ S' p = none ∧ Reps K H' acc vacc ∧ dComp γ κ τ (dWipe δ vs) ck Q (xs.drop i) acc S', ⟨xs.length, S1, [], [], Go.new g1.wd hp, hck, Nat.zero_le _, rfl, upd_same, hS1, rfl, by simpa using q⟩, ?_⟩
  rintro i m H' ⟨S', acc, vacc, g', ck', hi', rfl, hp', hs', ra, q'⟩
  have slw : SlOk K H' (wipe σ vs) (dWipe δ vs) := (((sl.im (g1.im w)).im (g'.im g1.wd)).wiped vs)
  obtain ⟨j1, j2⟩ := hJ S' H' g' ck' i
  by_cases hlt : i < xs.length
  · obtain ⟨go, yl⟩ := j1 xs[i] (by simp [hlt])
    rw [drop_cons hlt] at q'
    refine .inr ⟨go, fun H2 => ∃ S2 acc2 vacc2, Go K S1 H1 S2 H2 ∧ ck S2 ∧ H2 p = some (.lst vacc2) ∧ S2 p = none ∧ Reps K H2 acc2 vacc2 ∧ dComp γ κ τ (dWipe δ vs) ck Q (xs.drop (i + 1)) acc2 S2, fun H2 ⟨S2, acc2, vacc2, g2, ck2, a2, b2, c2, q2⟩ => ⟨xs.length - (i + 1), by omega, S2, acc2, vacc2, g2, ck2, hlt, rfl, a2, b2, c2, q2⟩, fun x H2 y => ?_⟩
    obtain ⟨g2, rx⟩ := yl x H2 y
    refine hg σ H2 _ S' x xs[i] g2.wd (slw.im (g2.im g'.wd)) rx _ _ (fun σ3 H3 δ3 S3 hw g3 sl3 q3 => ⟨hw, ?_⟩) q'
    refine ht σ3 H3 δ3 S3 g3.wd sl3 _ _ (fun b H4 S4 g4 q4 => ?_) q3
    have g24 : Go K S' H' S4 H4 := (g2.trans g3).trans g4
    cases b with
    | true =>
      rw [if_pos rfl] at q4 ⊢
      refine he σ3 H4 δ3 S4 g4.wd (sl3.im (g4.im g3.wd)) _ _ (fun v H5 d S5 g5 r5 q5 => ?_) q4
      have g25 := g24.trans g5
      have hp5 : H5 p = some (.lst vacc) := g25.ext p _ hp' hs'
      have hs5 : S5 p = none := g25.out p _ hp' hs'
      have ra5 := ra.im (g25.im g'.wd)
      refine ⟨vacc, hp5, by rw [← ra.length]; exact q5.1, S5, acc ++ [d], vacc ++ [v], ?_, q5.2.1, upd_same, hs5, ?_, q5.2.2⟩
      · have g15 := g'.trans g25
        refine ⟨fun a o h1 h2 => ?_, g15.out, fun a o h1 => ?_, fun a h1 => g15.th a (upd_none h1)⟩
        · rw [upd_ne (ne_of_none h1 hp)]
          exact g15.ext a o h1 h2
        · have na : a ≠ p := fun z => by rw [z, hs5] at h1; cases h1
          obtain ⟨ho, e1, r1⟩ := g15.wd a o h1
          refine ⟨ho, by rw [upd_ne na]; exact e1, r1.im ?_⟩
          exact ⟨fun b ys r => by
            rcases r with (r | ⟨o, r⟩) | r
            · exact .inl (.inl (by rw [upd_ne (ne_of r hp5 (by intro z; cases z))]; exact r))
            · exact .inl (.inr ⟨o, by rw [upd_ne (ne_of r hp5 (by intro z; cases z))]; exact r⟩)
            · exact .inr r, fun b ys r => by
            rcases r with ⟨o, r⟩ | r
            · exact .inl ⟨o, by rw [upd_ne (ne_of r hp5 (by intro z; cases z))]; exact r⟩
            · exact .inr r⟩
      · have im5 : Im K H5 (upd H5 p (.lst (vacc ++ [v]))) := ⟨fun b ys r => by
            rcases r with (r | ⟨o, r⟩) | r
            · exact .inl (.inl (by rw [upd_ne (ne_of r hp5 (by intro z; cases z))]; exact r))
            · exact .inl (.inr ⟨o, by rw [upd_ne (ne_of r hp5 (by intro z; cases z))]; exact r⟩)
            · exact .inr r, fun b ys r => by
            rcases r with ⟨o, r⟩ | r
            · exact .inl ⟨o, by rw [upd_ne (ne_of r hp5 (by intro z; cases z))]; exact r⟩
            · exact .inr r⟩
        exact (ra5.append (Reps.one r5)).im im5
    | false =>
      rw [if_neg Bool.false_ne_true] at q4 ⊢
      exact ⟨S4, acc, vacc, g'.trans g24, q4.1, g24.ext p _ hp' hs', g24.out p _ hp' hs', ra.im (g24.im g'.wd), q4.2⟩
  · have e : xs.drop i = [] := List.drop_eq_nil_of_le (by omega)
    rw [e] at q'
    exact .inl ⟨j2 (by omega), k p H' vacc acc S' (g1.trans g') (g1.th p hp) hp' hs' ra q'⟩

/-! ### the rules -/
section
variable {X : Cx} {a b c e : Expr} {pos : Pos} {τ : ED} {ι : ID} {γ : GD} {κ : TD} {ξ : SD} {tg iter : Expr} {body : List Stmt}
theorem s_for (hi : I X tg iter ι) (hg : G X tg γ) (hb : B X body ξ) (hp : PassesOwn (model X.prog X.w) X.A X.env X.xe := by exact PassesOwn.never) (hc : X.calm = true := by rfl) (hs : ∀ x, foldedSetIterable iter X.env x = pure x := by intro _; rfl) :
    S1 X (.For tg iter body [] pos) (dFor ι γ ξ) := by
  obtain ⟨ti, i1, i2⟩ := hi
  obtain ⟨g', g1, g2⟩ := hg
  obtain ⟨tb, b1, b2⟩ := hb
  exact ⟨_, ps_for hp hc i1 g1 b1 hs, sim_for i2 g2 b2⟩
theorem s_while {c : Expr} (hc : T X c κ) (hb : B X body ξ) (hp : PassesOwn (model X.prog X.w) X.A X.env X.xe := by exact PassesOwn.never) : S1 X (.While c body [] pos) (dWhile κ ξ) := by
  obtain ⟨tc, c1, c2⟩ := hc
  obtain ⟨tb, b1, b2⟩ := hb
  exact ⟨_, ps_while hp c1 b1, sim_while c2 b2⟩
/-- a comprehension's target, by the model's rules in any block of it -/
def Gw (X : Cx) (scope : Scope) (vs : List Nat) (tg : Expr) (γ : GD) : Prop := ∃ g, (∀ (s : Shared) (H : Hp) (C : Addr) (cl : List (Str × Addr)) (fp : List Addr), PG (X.blk s H scope (compEnvC scope cl C X.env) fp) tg g) ∧ SimGw X.K vs g γ
def Tw (X : Cx) (scope : Scope) (ifs : List Expr) (κ : TD) : Prop := ∃ t, (∀ (s : Shared) (H : Hp) (C : Addr) (cl : List (Str × Addr)) (fp : List Addr), PTs (X.blk s H scope (compEnvC scope cl C X.env) fp) ifs t) ∧ SimT X.K t κ
theorem wipe_set_own {σ : L2.St} {x : V} : ∀ {vs : List Nat} {i : Nat}, i ∈ vs → wipe ((wipe σ vs).set i (some x)) vs = wipe σ vs := by
  have key : ∀ (vs : List Nat) (τ : L2.St) (j : Nat), (wipe τ vs)[j]? = if j ∈ vs then (if j < τ.length then some none else none) else τ[j]? := by
    intro vs
    induction vs with
    | nil => intro τ j; simp [wipe]
    | cons v vs ih =>
      intro τ j
      unfold wipe
      by_cases h : v = j
      · subst h
        rw [List.getElem?_set_self', ih]
        by_cases h2 : v ∈ vs
        · simp [h2]
        · simp [h2]
          by_cases h3 : v < τ.length
          · simp [h3]
          · simp [h3]
      · rw [List.getElem?_set_ne h, ih]
        have : j ≠ v := fun z => h z.symm
        simp [this]
  intro vs i hi
  apply List.ext_getElem?
  intro j
  rw [key, key]
  by_cases h : j ∈ vs
  · simp only [h, if_true, List.length_set, wipe_length]
  · simp only [h, if_false]
    have : i ≠ j := fun z => h (z ▸ hi)
    rw [List.getElem?_set_ne this, key]
    simp [h]
theorem gw_name (i : Nat) {x : Str} {scope : Scope} {vs : List Nat} (hN : X.N.Nodup) (hi : X.N[i]? = some x := by rfl) (hm : i ∈ vs := by decide)
    (hx : ∀ (s : Shared) (H : Hp) (C : Addr) (cl : List (Str × Addr)) (fp : List Addr), Loc (X.blk s H scope (compEnvC scope cl C X.env) fp).env.scope x := by intro _ _ _ _ _; first | exact Or.inl rfl | exact Or.inr rfl) 
    (hf : ∀ (s : Shared) (H : Hp) (C : Addr) (cl : List (Str × Addr)) (fp : List Addr), (X.blk s H scope (compEnvC scope cl C X.env) fp).fn x = true ∨ (X.blk s H scope (compEnvC scope cl C X.env) fp).env.scope.names.lookup x = some .local := by intro _ _ _ _ _; first | exact .inr rfl | exact .inl rfl) : Gw X scope vs (.Name x pos) (dName i) :=
  ⟨gName i, fun s H C cl fp => pg_name hN hi (hx s H C cl fp) (hf s H C cl fp), fun σ H δ S v d w sl r Q R k h => k _ H _ S (wipe_set_own hm) (Go.refl w) (sl.set i r) h⟩
def dYes : TD := fun _ S Q => Q true S
theorem tw_nil {scope : Scope} : Tw X scope [] dYes := ⟨tYes, fun _ _ _ _ _ => pts_nil, fun σ H δ S w sl Q R k h => k true H S (Go.refl w) h⟩
theorem tw_one {scope : Scope} {c : Expr} (h : ∀ (s : Shared) (H : Hp) (C : Addr) (cl : List (Str × Addr)) (fp : List Addr), T (X.blk s H scope (compEnvC scope cl C X.env) fp) c κ) : Tw X scope [c] κ :=
  ⟨canT X.K κ, fun s H C cl fp => pts_one (h s H C cl fp).can, sim_canT⟩
theorem n_lc {elt : Expr} {ifs : List Expr} {scope : Scope} {own : List (Str × Nat)} (hN : X.N.Nodup) (hi : I X tg iter ι) (ok : blkC X.N X.env.scope scope own = true)
    (hg : Gw X scope (own.map (·.2)) tg γ) (ht : Tw X scope ifs κ) (he : ∀ (s : Shared) (H : Hp) (C : Addr) (cl : List (Str × Addr)) (fp : List Addr), E (X.blk s H scope (compEnvC scope cl C X.env) fp) elt τ)
    (hc : X.calm = true := by rfl) (hs : ∀ x, foldedSetIterable iter X.env x = pure x := by intro _; rfl) : N X (.ListComp elt [⟨tg, iter, ifs, 0⟩] scope pos) (dLc ι γ κ τ (own.map (·.2))) := by
  obtain ⟨ti, i1, i2⟩ := hi
  obtain ⟨g, g1, g2⟩ := hg
  obtain ⟨t, t1, t2⟩ := ht
  exact ⟨_, pe_lc hc hN i1 (blkOk_by ok) g1 t1 (fun s H C cl fp => (he s H C cl fp).can) hs, sim_lc i2 g2 t2 sim_can⟩
end
end DL

set_option Elab.async false
set_option linter.all false
set_option maxRecDepth 100000
namespace DL
open PySem PySem.Spec L2
section
variable {X : Cx} {a b c e o : Expr} {es : List Expr} {pos p2 : Pos} {τ τa τb τc : ED} {α ν ν' : AD} {ι : ID} {γ : GD} {κ : TD} {ξ : SD} {tg iter : Expr}

/-! ### is of bools, with anything on the left -/
def dIsB : R2D := fun x y S Q => match y with | .bl b => Q (.bl (match x with | .bl a => decide (a = b) | _ => false)) S | _ => False
def dNotB : R2D := fun x y S Q => match y with | .bl b => Q (.bl (match x with | .bl a => !decide (a = b) | _ => true)) S | _ => False
def rIsBV : R2 := fun x y H Q => ∃ b : Bool, y = .bl b ∧ Q (.bl (match x with | .bl a => decide (a = b) | _ => false)) H
def rNotBV : R2 := fun x y H Q => ∃ b : Bool, y = .bl b ∧ Q (.bl (match x with | .bl a => !decide (a = b) | _ => true)) H
theorem plain_bool (v : Value) (b : Bool) (x : V) (r : RelV x v) : plainIs v (.bool b) = true := by
  cases x <;> first | (obtain rfl := r; rfl) | (obtain ⟨t, rfl⟩ := r; rfl)
theorem op_isBV : OpR X (compareOp .Is) rIsBV := by
  intro pins s σ H x y v u Q I rx ry h
  obtain ⟨b, rfl, q⟩ := h
  cases (show u = Value.bool b from ry)
  refine wpAny_is_plain (plain_bool v b x rx) ⟨_, H, I, ?_, q⟩
  cases x <;> first | (obtain rfl := rx; rfl) | (obtain ⟨t, rfl⟩ := rx; rfl) | skip
  rename_i c
  obtain rfl := rx
  show Value.bool _ = Value.bool _
  congr 1
  cases c <;> cases b <;> rfl
theorem op_notBV : OpR X (compareOp .IsNot) rNotBV := by
  intro pins s σ H x y v u Q I rx ry h
  obtain ⟨b, rfl, q⟩ := h
  cases (show u = Value.bool b from ry)
  refine wpAny_isNot_plain (plain_bool v b x rx) ⟨_, H, I, ?_, q⟩
  cases x <;> first | (obtain rfl := rx; rfl) | (obtain ⟨t, rfl⟩ := rx; rfl) | skip
  rename_i c
  obtain rfl := rx
  show Value.bool _ = Value.bool _
  congr 1
  cases c <;> cases b <;> rfl
theorem o_isB : O X (compareOp .Is) dIsB := by
  refine ⟨_, op_isBV, fun H S x y dx dy w rx ry Q R k q => ?_⟩
  cases dy <;> first | exact False.elim q | skip
  obtain rfl := ry
  refine ⟨_, rfl, k _ H _ S (Go.refl w) ?_ q⟩
  cases dx <;> first | (obtain rfl := rx; rfl) | (obtain ⟨_, _, rfl, _⟩ := rx; rfl)
theorem o_notB : O X (compareOp .IsNot) dNotB := by
  refine ⟨_, op_notBV, fun H S x y dx dy w rx ry Q R k q => ?_⟩
  cases dy <;> first | exact False.elim q | skip
  obtain rfl := ry
  refine ⟨_, rfl, k _ H _ S (Go.refl w) ?_ q⟩
  cases dx <;> first | (obtain rfl := rx; rfl) | (obtain ⟨_, _, rfl, _⟩ := rx; rfl)

/-! ### subscripts -/
/-- what is to be subscripted at S -/
def dAt (x : D) (i : Int) (S : Sh) (Q : QD) : Prop := match x with
  | .tup ds => (match atI ds i with | some d => Q d S | none => False)
  | .frz ds => (match atI ds i with | some d => Q d S | none => False)
  | .str s => s.length ≤ sizeLine ∧ (match atI s i with | some c => Q (.str [c]) S | none => False)
  | .rf p => (match S p with | some (.lst ds) => (match atI ds i with | some d => Q d S | none => False) | _ => False)
  | _ => False
def dIx : R2D := fun x y S Q => match y with | .int i => dAt x i S Q | _ => False
theorem atI_rep {K : PySem.W.Frag} {H : Hp} {ds : List D} {vs : List V} {i : Int} {d : D} (r : Reps K H ds vs) (h : atI ds i = some d) : ∃ v, atI vs i = some v ∧ Rep K H d v := by
  unfold atI at h ⊢
  rw [r.length] at h
  cases e : ixN vs.length i with
  | none => rw [e] at h; cases h
  | some j =>
    rw [e] at h
    exact r.get (i := j) h
theorem e_ix (ha : E X a τa) (hb : E X b τb) (hs : PlainIx b := by exact fun _ _ => rfl) : E X (.Subscript a b pos) (dOp dIx τa τb) := by
  obtain ⟨ta, a1, a2⟩ := ha
  obtain ⟨tb, b1, b2⟩ := hb
  refine ⟨_, pe_ix ix_seq a1 b1 hs, sim_op (fun H S x y dx dy w rx ry Q R k q => ?_) a2 b2⟩
  cases dy <;> first | exact False.elim q | skip
  rename_i i
  obtain rfl := ry
  cases dx <;> first | exact False.elim q | skip
  · rename_i s
    obtain rfl := rx
    obtain ⟨q0, q⟩ := q
    refine .inr (.inr ?_)
    cases e : atI s i with
    | none => rw [e] at q; exact q.elim
    | some c =>
      rw [e] at q
      exact ⟨_, i, c, rfl, rfl, by rw [str_len]; exact q0, by simpa using e, k _ H (.str [c]) S (Go.refl w) rfl q⟩
  · rename_i ds
    obtain ⟨p, vs, rfl, hp, rs⟩ := rx
    unfold dIx dAt at q
    simp only at q
    cases e : atI ds i with
    | none => rw [e] at q; exact q.elim
    | some d =>
      rw [e] at q
      obtain ⟨v, e1, r1⟩ := atI_rep rs e
      exact .inr (.inl ⟨p, vs, i, v, rfl, rfl, hp, e1, k v H d S (Go.refl w) r1 q⟩)
  · rename_i ds
    obtain ⟨p, vs, rfl, hp, rs⟩ := rx
    unfold dIx dAt at q
    simp only at q
    cases e : atI ds i with
    | none => rw [e] at q; exact q.elim
    | some d =>
      rw [e] at q
      obtain ⟨v, e1, r1⟩ := atI_rep rs e
      exact .inl ⟨p, vs, i, v, rfl, rfl, hp.l, e1, k v H d S (Go.refl w) r1 q⟩
  · rename_i p
    obtain rfl := rx
    unfold dIx dAt at q
    simp only at q
    split at q
    · rename_i ds es
      cases e : atI ds i with
      | none => rw [e] at q; exact q.elim
      | some d =>
        rw [e] at q
        obtain ⟨ho, e0, vs, rfl, rs⟩ := w _ _ es
        obtain ⟨v, e1, r1⟩ := atI_rep rs e
        exact .inl ⟨p, vs, i, v, rfl, rfl, SqL.of e0, e1, k v H d S (Go.refl w) r1 q⟩
    · exact q.elim
/-- an item of a list on the spot -/
def dIxL (l : AD) (i : ED) : ED := fun δ S Q => l δ S fun ds S1 => i δ S1 fun y S2 => match y with | .int i => (match atI ds i with | some d => Q d S2 | none => False) | _ => False
theorem e_ixN (ha : N X a ν) (hb : E X b τb) (hs : PlainIx b := by exact fun _ _ => rfl) : E X (.Subscript a b pos) (dIxL ν τb) := by
  obtain ⟨ta, a1, a2⟩ := ha
  obtain ⟨tb, b1, b2⟩ := hb
  refine ⟨_, pe_ix ix_list a1 b1 hs, fun σ H δ S w sl Q R k h => ?_⟩
  refine a2 σ H δ S w sl _ _ (fun p H1 vs ds S1 g1 h0 hp hs1 rs q => ?_) h
  refine b2 σ H1 δ S1 g1.wd (sl.im (g1.im w)) _ _ (fun y H2 dy S2 g2 ry q2 => ?_) q
  cases dy <;> first | exact False.elim q2 | skip
  rename_i i
  obtain rfl := ry
  simp only at q2
  cases e : atI ds i with
  | none => rw [e] at q2; exact q2.elim
  | some d =>
    rw [e] at q2
    have rs2 := rs.im (g2.im g1.wd)
    obtain ⟨v, e1, r1⟩ := atI_rep rs2 e
    exact ⟨p, vs, i, v, rfl, rfl, SqL.of (g2.ext p _ hp hs1), e1, k v H2 d S2 (g1.trans g2) r1 q2⟩
/-! ### slices -/
def cutD {β : Type} (xs : List β) (lo hi : Option Int) : List β := (xs.drop (HT.sIx xs.length 0 lo)).take (HT.sIx xs.length xs.length hi - HT.sIx xs.length 0 lo)
abbrev OD := Sl → Sh → (Option Int → Sh → Prop) → Prop
def SimO (K : PySem.W.Frag) (t : TO) (τ : OD) : Prop := ∀ σ H δ S, Wd K H S → SlOk K H σ δ → ∀ (Q : Option Int → Sh → Prop) (R : Option Int → Hp → Prop), (∀ o H' S', Go K S H S' H' → Q o S' → R o H') → τ δ S Q → t σ H R
def Po (X : Cx) (e : Option Expr) (τ : OD) : Prop := ∃ t, PO X e t ∧ SimO X.K t τ
def dNoP : OD := fun _ S Q => Q none S
def dPart (a : ED) : OD := fun δ S Q => a δ S fun x S1 => match x with | .int i => Q (some i) S1 | _ => False
theorem p_none : Po X none dNoP := ⟨_, po_none, fun σ H δ S w sl Q R k h => k none H S (Go.refl w) h⟩
theorem p_some (h : E X e τ) : Po X (some e) (dPart τ) := by
  obtain ⟨t, a1, a2⟩ := h
  refine ⟨_, po_some a1, fun σ H δ S w sl Q R k h => a2 σ H δ S w sl _ _ (fun v H' d S' g r q => ?_) h⟩
  cases d <;> first | exact False.elim q | skip
  exact ⟨_, r, k _ H' S' g q⟩
def dCut (x : D) (l u : Option Int) (S : Sh) (Q : QD) : Prop := match x with
  | .tup ds => Q (.tup (cutD ds l u)) S
  | .str s => s.length ≤ sizeLine ∧ Q (.str (cutD s l u)) S
  | _ => False
def dSlice (a : ED) (l u : OD) : ED := fun δ S Q => a δ S fun x S1 => l δ S1 fun l S2 => u δ S2 fun u S3 => dCut x l u S3 Q
theorem cutV_rep {K : PySem.W.Frag} {H : Hp} {ds : List D} {vs : List V} (r : Reps K H ds vs) (l u : Option Int) : Reps K H (cutD ds l u) (cutV vs l u) := by
  unfold cutD cutV
  rw [r.length]
  exact (r.drop _).take _
variable {lo hi : Option Expr} {ol oh : OD}
theorem e_slice (he : E X e τ) (hl : Po X lo ol) (hu : Po X hi oh) : E X (.Subscript e (.Slice lo hi none p2) pos) (dSlice τ ol oh) := by
  obtain ⟨t, a1, a2⟩ := he
  obtain ⟨tl, l1, l2⟩ := hl
  obtain ⟨tu, u1, u2⟩ := hu
  refine ⟨_, pe_slice (sl_tupA.or sl_str) a1 l1 u1, fun σ H δ S w sl Q R k h => ?_⟩
  refine a2 σ H δ S w sl _ _ (fun v H1 d S1 g1 r1 q => ?_) h
  have sl1 := sl.im (g1.im w)
  refine l2 σ H1 δ S1 g1.wd sl1 _ _ (fun l H2 S2 g2 q => ?_) q
  refine u2 σ H2 δ S2 g2.wd (sl1.im (g2.im g1.wd)) _ _ (fun u H3 S3 g3 q => ?_) q
  have g13 := (g1.trans g2).trans g3
  have r3 : Rep X.K H3 d v := (r1.im (g2.im g1.wd)).im (g3.im g2.wd)
  cases d with
  | str s =>
    obtain rfl := r3
    obtain ⟨q0, q⟩ := q
    refine .inr ⟨_, rfl, by rw [str_len]; exact q0, ?_⟩
    have e : cutS ⟨s.toArray⟩ l u = ⟨(cutD s l u).toArray⟩ := by unfold cutS cutD; rw [str_len]
    rw [e]
    exact k _ H3 (.str (cutD s l u)) S3 g13 rfl q
  | tup ds =>
    obtain ⟨p, vs, rfl, hp, rs⟩ := r3
    refine .inl ⟨p, vs, rfl, hp, fun z => ?_, fun z q' hq => ?_⟩
    · have e : cutD ds l u = ds := by
        unfold cutD
        rw [rs.length, z.1, z.2]
        simp [← rs.length]
      have q : Q (.tup (cutD ds l u)) S3 := q
      rw [e] at q
      exact k _ H3 (.tup ds) S3 g13 ⟨p, vs, rfl, hp, rs⟩ q
    · have g := Go.new (u := .tup (cutV vs l u)) g13.wd hq
      exact k _ _ (.tup (cutD ds l u)) S3 (g13.trans g) ⟨q', _, rfl, SqT.of upd_same, (cutV_rep rs l u).im (g.im g13.wd)⟩ q
  | _ => exact False.elim q
def dSliceL (a : AD) (l u : OD) : AD := fun δ S Q => a δ S fun ds S1 => l δ S1 fun l S2 => u δ S2 fun u S3 => Q (cutD ds l u) S3
/-- a slice of a list at a name: a new list -/
def dSliceE (a : ED) (l u : OD) : AD := fun δ S Q => a δ S fun x S1 => l δ S1 fun l S2 => u δ S2 fun u S3 => match x with
  | .rf p => (match S3 p with | some (.lst ds) => Q (cutD ds l u) S3 | _ => False)
  | .frz ds => Q (cutD ds l u) S3
  | _ => False
theorem n_slice (he : E X e τ) (hl : Po X lo ol) (hu : Po X hi oh) : N X (.Subscript e (.Slice lo hi none p2) pos) (dSliceE τ ol oh) := by
  obtain ⟨t, a1, a2⟩ := he
  obtain ⟨tl, l1, l2⟩ := hl
  obtain ⟨tu, u1, u2⟩ := hu
  refine ⟨_, pe_slice sl_list a1 l1 u1, fun σ H δ S w sl Q R k h => ?_⟩
  refine a2 σ H δ S w sl _ _ (fun v H1 d S1 g1 r1 q => ?_) h
  have sl1 := sl.im (g1.im w)
  refine l2 σ H1 δ S1 g1.wd sl1 _ _ (fun l H2 S2 g2 q => ?_) q
  refine u2 σ H2 δ S2 g2.wd (sl1.im (g2.im g1.wd)) _ _ (fun u H3 S3 g3 q => ?_) q
  have g13 := (g1.trans g2).trans g3
  have r3 : Rep X.K H3 d v := (r1.im (g2.im g1.wd)).im (g3.im g2.wd)
  have fin : ∀ {p : Addr} {ds : List D} {vs : List V}, SqL X.K H3 p vs → Reps X.K H3 ds vs → Q (cutD ds l u) S3 → rSlL X.K (.ref p) l u H3 R := fun {p ds vs} hp rs q =>
    ⟨p, vs, rfl, hp, fun q' hq => by
      have g := Go.new (u := .lst (cutV vs l u)) g13.wd hq
      exact k q' _ _ (cutD ds l u) S3 (g13.trans g) (g13.th _ hq) upd_same (g13.wd.free hq) ((cutV_rep rs l u).im (g.im g13.wd)) q⟩
  cases d <;> first | exact False.elim q | skip
  · obtain ⟨p, vs, rfl, hp, rs⟩ := r3
    exact fin hp.l rs q
  · rename_i p
    obtain rfl := r3
    simp only at q
    split at q
    · rename_i ds es
      obtain ⟨ho, e0, vs, rfl, rs⟩ := g13.wd _ _ es
      exact fin (SqL.of e0) rs q
    · exact q.elim
/-! ### a chain of two comparisons -/
def dChain (ρ ρ' : R2D) (a b c : ED) : ED := fun δ S Q => a δ S fun x S1 => b δ S1 fun y S2 => ρ x y S2 fun z S3 => match z with | .bl k => (if k = true then c δ S3 fun w S4 => ρ' y w S4 Q else Q (.bl false) S3) | _ => False
theorem e_chain {op op' : CmpOp} {ρ ρ' : R2D} (ho : O X (compareOp op) ρ) (ho' : O X (compareOp op') ρ') (ha : E X a τa) (hb : E X b τb) (hc : E X c τc)
    (hm : lastMarks [op, op'] [b, c] = false := by with_unfolding_all rfl) : E X (.Compare a [op, op'] [b, c] pos) (dChain ρ ρ' τa τb τc) := by
  obtain ⟨r, h1, h2⟩ := ho
  obtain ⟨r', h1', h2'⟩ := ho'
  obtain ⟨ta, a1, a2⟩ := ha
  obtain ⟨tb, b1, b2⟩ := hb
  obtain ⟨tc, c1, c2⟩ := hc
  refine ⟨_, pe_chain h1 h1' a1 b1 c1 hm, fun σ H δ S w sl Q R k h => ?_⟩
  refine a2 σ H δ S w sl _ _ (fun x H1 dx S1 g1 rx q => ?_) h
  have sl1 := sl.im (g1.im w)
  refine b2 σ H1 δ S1 g1.wd sl1 _ _ (fun y H2 dy S2 g2 ry q => ?_) q
  have sl2 := sl1.im (g2.im g1.wd)
  refine h2 H2 S2 x y dx dy g2.wd (rx.im (g2.im g1.wd)) ry _ _ (fun z H3 dz S3 g3 rz q => ?_) q
  have g13 := (g1.trans g2).trans g3
  cases dz <;> first | exact False.elim q | skip
  rename_i kk
  refine ⟨kk, rz, ?_⟩
  cases kk with
  | true =>
    refine c2 σ H3 δ S3 g3.wd (sl2.im (g3.im g2.wd)) _ _ (fun w' H4 dw S4 g4 rw q => ?_) q
    exact h2' H4 S4 y w' dy dw g4.wd ((ry.im (g3.im g2.wd)).im (g4.im g3.wd)) rw Q R (fun v H5 d S5 g5 r5 q5 => k v H5 d S5 ((g13.trans g4).trans g5) r5 q5) q
  | false => exact k _ H3 (.bl false) S3 g13 rfl q
theorem t_val (he : E X e τ) (hs : ∀ whole, isTrue e X.env whole = (do let v ← whole; standAt e.pos; holding [v] (truthy v)) := by intro _; rfl) : T X e (dTB τ) := by
  obtain ⟨t, a1, a2⟩ := he
  refine ⟨_, pt_val a1 hs, fun σ H δ S w sl Q R k h => a2 σ H δ S w sl _ _ (fun v H' d S' g r q => ?_) h⟩
  cases d <;> first | exact False.elim q | skip
  exact ⟨_, r, k _ H' S' g q⟩
theorem t_chain {op op' : CmpOp} {ρ ρ' : R2D} (ho : O X (compareOp op) ρ) (ho' : O X (compareOp op') ρ') (ha : E X a τa) (hb : E X b τb) (hc : E X c τc)
    (hm : lastMarks [op, op'] [b, c] = false := by with_unfolding_all rfl) : T X (.Compare a [op, op'] [b, c] pos) (dTB (dChain ρ ρ' τa τb τc)) := by
  obtain ⟨r, h1, h2⟩ := ho
  obtain ⟨r', h1', h2'⟩ := ho'
  obtain ⟨ta, a1, a2⟩ := ha
  obtain ⟨tb, b1, b2⟩ := hb
  obtain ⟨tc, c1, c2⟩ := hc
  refine ⟨_, pt_chain h1 h1' a1 b1 c1 hm, fun σ H δ S w sl Q R k h => ?_⟩
  refine a2 σ H δ S w sl _ _ (fun x H1 dx S1 g1 rx q => ?_) h
  have sl1 := sl.im (g1.im w)
  refine b2 σ H1 δ S1 g1.wd sl1 _ _ (fun y H2 dy S2 g2 ry q => ?_) q
  have sl2 := sl1.im (g2.im g1.wd)
  refine h2 H2 S2 x y dx dy g2.wd (rx.im (g2.im g1.wd)) ry _ _ (fun z H3 dz S3 g3 rz q => ?_) q
  have g13 := (g1.trans g2).trans g3
  cases dz <;> first | exact False.elim q | skip
  rename_i kk
  refine ⟨kk, rz, ?_⟩
  cases kk with
  | true =>
    refine c2 σ H3 δ S3 g3.wd (sl2.im (g3.im g2.wd)) _ _ (fun w' H4 dw S4 g4 rw q => ?_) q
    refine h2' H4 S4 y w' dy dw g4.wd ((ry.im (g3.im g2.wd)).im (g4.im g3.wd)) rw _ _ (fun v H5 d S5 g5 r5 q5 => ?_) q
    cases d <;> first | exact False.elim q5 | skip
    exact ⟨_, r5, k _ H5 S5 ((g13.trans g4).trans g5) q5⟩
  | false => exact ⟨_, rfl, k _ H3 S3 g13 q⟩
end
end DL

set_option Elab.async false
set_option linter.all false
set_option maxRecDepth 100000
namespace DL
open PySem PySem.Spec L2
section
variable {X : Cx} {a b c e o : Expr} {es : List Expr} {pos p2 p q apos cpos : Pos} {τ τa τb τc : ED} {α ν ν' : AD} {ι : ID} {γ : GD} {κ : TD} {ξ : SD} {tg iter : Expr} {x : Str}

/-! ### calls of built-ins with a list -/
def SimCL (K : PySem.W.Frag) (r : List V → Hp → VK → Prop) (ρ : CD) : Prop := ∀ H S a vs ds, Wd K H S → SqL K H a vs → Reps K H ds vs → ∀ (Q : QD) (R : VK), (∀ v H' d S', Go K S H S' H' → Rep K H' d v → Q d S' → R v H') → ρ ds S Q → r [.ref a] H R
abbrev ND := List D → Sh → (List D → Sh → Prop) → Prop
def SimCN (K : PySem.W.Frag) (r : List V → Hp → VK → Prop) (ρ : ND) : Prop := ∀ H S a vs ds, Wd K H S → SqL K H a vs → Reps K H ds vs → ∀ (Q : List D → Sh → Prop) (R : VK), (∀ b H' us es S', Go K S H S' H' → H b = none → H' b = some (.lst us) → S' b = none → Reps K H' es us → Q es S' → R (.ref b) H') → ρ ds S Q → r [.ref a] H R
def CL (X : Cx) (f : Value) (ρ : CD) : Prop := ∃ r, CallR X f r ∧ SimCL X.K r ρ
def CN (X : Cx) (f : Value) (ρ : ND) : Prop := ∃ r, CallR X f r ∧ SimCN X.K r ρ
def dOnL (ρ : CD) (l : AD) : ED := fun δ S Q => l δ S fun ds S1 => ρ ds S1 Q
def dOnN (ρ : ND) (l : AD) : AD := fun δ S Q => l δ S fun ds S1 => ρ ds S1 Q
theorem e_callBL {id : String} {ρ : CD} (hc : CL X (.builtin id) ρ) (hm : X.mg x = none) (ha : L X e ν) (hg : Gl X x := by rfl) (hv : bootBuiltins x = some (.builtin id) := by decide +kernel) (hn : x ≠ "__name__" := by decide) (hdb : (x == ("__debug__" : Str)) = false := by decide)
    (he : starEach (e :: []) X.env = (false, eval e X.env) :: starEach [] X.env := by rfl) (hpl : (backTo pos (starEach [] X.env)).any (·.1) = false := by rfl) : E X (.Call (.Name x p) [e] [] pos) (dOnL ρ ν) := by
  obtain ⟨r, h1, h2⟩ := hc
  obtain ⟨ta, a1, a2⟩ := ha
  refine ⟨_, pe_callB h1 hg hm hv (pa_cons a1 pa_nil he) hn hdb he hpl, fun σ H δ S w sl Q R k h => ?_⟩
  exact a2 σ H δ S w sl _ _ (fun a H1 vs ds S1 g1 hs rs q => h2 H1 S1 a vs ds g1.wd hs rs Q R (fun v H2 d S2 g2 => k v H2 d S2 (g1.trans g2)) q) h
theorem e_callTyL {id : String} {ρ : CD} (hc : CL X (.type id) ρ) (hm : X.mg x = none) (ha : L X e ν) (hg : Gl X x := by rfl) (hv : bootBuiltins x = some (.type id) := by decide +kernel) (hn : x ≠ "__name__" := by decide) (hdb : (x == ("__debug__" : Str)) = false := by decide)
    (he : starEach (e :: []) X.env = (false, eval e X.env) :: starEach [] X.env := by rfl) (hpl : (backTo pos (starEach [] X.env)).any (·.1) = false := by rfl) : E X (.Call (.Name x p) [e] [] pos) (dOnL ρ ν) := by
  obtain ⟨r, h1, h2⟩ := hc
  obtain ⟨ta, a1, a2⟩ := ha
  refine ⟨_, pe_callTy h1 hg hm hv (pa_cons a1 pa_nil he) hn hdb he hpl, fun σ H δ S w sl Q R k h => ?_⟩
  exact a2 σ H δ S w sl _ _ (fun a H1 vs ds S1 g1 hs rs q => h2 H1 S1 a vs ds g1.wd hs rs Q R (fun v H2 d S2 g2 => k v H2 d S2 (g1.trans g2)) q) h
theorem n_callBL {id : String} {ρ : ND} (hc : CN X (.builtin id) ρ) (hm : X.mg x = none) (ha : L X e ν) (hg : Gl X x := by rfl) (hv : bootBuiltins x = some (.builtin id) := by decide +kernel) (hn : x ≠ "__name__" := by decide) (hdb : (x == ("__debug__" : Str)) = false := by decide)
    (he : starEach (e :: []) X.env = (false, eval e X.env) :: starEach [] X.env := by rfl) (hpl : (backTo pos (starEach [] X.env)).any (·.1) = false := by rfl) : N X (.Call (.Name x p) [e] [] pos) (dOnN ρ ν) := by
  obtain ⟨r, h1, h2⟩ := hc
  obtain ⟨ta, a1, a2⟩ := ha
  refine ⟨_, pe_callB h1 hg hm hv (pa_cons a1 pa_nil he) hn hdb he hpl, fun σ H δ S w sl Q R k h => ?_⟩
  exact a2 σ H δ S w sl _ _ (fun a H1 vs ds S1 g1 hs rs q => h2 H1 S1 a vs ds g1.wd hs rs Q R (fun b H2 us es S2 g2 hb => k b H2 us es S2 (g1.trans g2) (g1.th b hb)) q) h
theorem n_callTyL {id : String} {ρ : ND} (hc : CN X (.type id) ρ) (hm : X.mg x = none) (ha : L X e ν) (hg : Gl X x := by rfl) (hv : bootBuiltins x = some (.type id) := by decide +kernel) (hn : x ≠ "__name__" := by decide) (hdb : (x == ("__debug__" : Str)) = false := by decide)
    (he : starEach (e :: []) X.env = (false, eval e X.env) :: starEach [] X.env := by rfl) (hpl : (backTo pos (starEach [] X.env)).any (·.1) = false := by rfl) : N X (.Call (.Name x p) [e] [] pos) (dOnN ρ ν) := by
  obtain ⟨r, h1, h2⟩ := hc
  obtain ⟨ta, a1, a2⟩ := ha
  refine ⟨_, pe_callTy h1 hg hm hv (pa_cons a1 pa_nil he) hn hdb he hpl, fun σ H δ S w sl Q R k h => ?_⟩
  exact a2 σ H δ S w sl _ _ (fun a H1 vs ds S1 g1 hs rs q => h2 H1 S1 a vs ds g1.wd hs rs Q R (fun b H2 us es S2 g2 hb => k b H2 us es S2 (g1.trans g2) (g1.th b hb)) q) h
/-- tuple(l), len(l), list(l), sorted(l) of ints -/
theorem cl_tuple : CL X (.type "tuple") (fun ds S Q => Q (.tup ds) S) := by
  refine ⟨_, call_tuple_of, fun H S a vs ds w hs rs Q R k q => ⟨a, vs, rfl, .inl ⟨hs, fun l hl => ?_⟩⟩⟩
  have g := Go.new (u := .tup vs) w hl
  exact k _ _ (.tup ds) S g ⟨l, vs, rfl, SqT.of upd_same, rs.im (g.im w)⟩ q
theorem cl_len : CL X (.builtin "len") (fun ds S Q => Q (.int ds.length) S) := by
  refine ⟨_, call_len_seq, fun H S a vs ds w hs rs Q R k q => ⟨a, vs, rfl, .inl hs, ?_⟩⟩
  exact k _ H (.int ds.length) S (Go.refl w) (by rw [rs.length]; rfl) q
theorem cn_list : CN X (.type "list") (fun ds S Q => Q ds S) := by
  refine ⟨_, call_list_of, fun H S a vs ds w hs rs Q R k q => ⟨a, vs, rfl, .inl hs, fun l hl => ?_⟩⟩
  have g := Go.new (u := .lst vs) w hl
  exact k l _ _ ds S g hl upd_same (w.free hl) (rs.im (g.im w)) q
def intsOf : List D → Option (List Int)
  | [] => some []
  | .int i :: r => (intsOf r).map (i :: ·)
  | _ :: _ => none
theorem intsOf_map : ∀ ns : List Int, intsOf (ns.map D.int) = some ns
  | [] => rfl
  | n :: ns => by rw [List.map_cons, intsOf, intsOf_map ns]; rfl
theorem of_intsOf : ∀ {ds : List D} {ns : List Int}, intsOf ds = some ns → ds = ns.map D.int
  | [], ns, h => by cases h; rfl
  | .int i :: r, ns, h => by
    unfold intsOf at h
    cases e : intsOf r with
    | none => rw [e] at h; cases h
    | some m => rw [e] at h; cases h; rw [of_intsOf e]; rfl
  | .non :: _, _, h => by cases h
  | .bl _ :: _, _, h => by cases h
  | .str _ :: _, _, h => by cases h
  | .ty _ :: _, _, h => by cases h
  | .tup _ :: _, _, h => by cases h
  | .frz _ :: _, _, h => by cases h
  | .rf _ :: _, _, h => by cases h
/-- sorted of ints: the one rising list -/
theorem perm_sorted_eq {xs ys : List Int} (h : xs.Perm ys) (hx : xs.Pairwise (· ≤ ·)) (hy : ys.Pairwise (· ≤ ·)) : xs = ys :=
  List.Perm.eq_of_pairwise (fun a b _ _ h1 h2 => Int.le_antisymm h1 h2) hx hy h
def dSortI (ds : List D) (S : Sh) (Q : List D → Sh → Prop) : Prop := match intsOf ds with | some ns => ∀ ms : List Int, ms.Perm ns → ms.Pairwise (· ≤ ·) → Q (ms.map D.int) S | none => False
theorem cn_sortedI : CN X (.builtin "sorted") dSortI := by
  refine ⟨_, cr_sortedI, fun H S a vs ds w hs rs Q R k q => ?_⟩
  unfold dSortI at q
  cases e : intsOf ds with
  | none => rw [e] at q; exact q.elim
  | some ns =>
    rw [e] at q
    obtain rfl := of_intsOf e
    obtain rfl := Reps.ints rs
    refine ⟨a, ns, rfl, hs, fun ms l h1 h2 hl => ?_⟩
    have g := Go.new (u := .lst (ms.map V.int)) w hl
    exact k l _ _ (ms.map D.int) S g hl upd_same (w.free hl) Reps.of_ints (q ms h1 h2)

/-! ### len, int, str, min, max of values -/
def dLen : CD := fun ds S Q => match ds with
  | [.str s] => s.length ≤ sizeLine ∧ Q (.int s.length) S
  | [.tup xs] => Q (.int xs.length) S
  | [.frz xs] => Q (.int xs.length) S
  | [.rf p] => (match S p with | some (.lst xs) => Q (.int xs.length) S | _ => False)
  | _ => False
theorem c_len : C X (.builtin "len") dLen := by
  refine ⟨_, call_len, fun H S vs ds w rs Q R k q => ?_⟩
  rcases ds with _ | ⟨d, _ | ⟨d2, ds⟩⟩
  · exact False.elim q
  · obtain ⟨v, r, rfl, rv, rfl⟩ := rs
    cases d with
    | str s =>
      obtain rfl := rv
      exact ⟨_, s.length, rfl, ⟨by rw [str_len]; exact q.1, by rw [str_len]⟩, k _ H (.int s.length) S (Go.refl w) rfl q.2⟩
    | tup xs =>
      obtain ⟨p, us, rfl, hp, ru⟩ := rv
      exact ⟨_, xs.length, rfl, .inr ⟨us, hp, ru.length⟩, k _ H (.int xs.length) S (Go.refl w) rfl q⟩
    | frz xs =>
      obtain ⟨p, us, rfl, hp, ru⟩ := rv
      exact ⟨_, xs.length, rfl, .inl ⟨us, hp.l, ru.length⟩, k _ H (.int xs.length) S (Go.refl w) rfl q⟩
    | rf p =>
      obtain rfl := rv
      simp only [dLen] at q
      split at q
      · rename_i xs es
        obtain ⟨ho, e0, us, rfl, ru⟩ := w _ _ es
        exact ⟨_, xs.length, rfl, .inl ⟨us, SqL.of e0, ru.length⟩, k _ H (.int xs.length) S (Go.refl w) rfl q⟩
      · exact q.elim
    | _ => exact False.elim q
  · cases d <;> exact False.elim q
def dInt : CD := fun ds S Q => match ds with | [.int i] => Q (.int i) S | [.bl b] => Q (.int (if b then 1 else 0)) S | _ => False
theorem c_int : C X (.type "int") dInt := by
  refine ⟨_, call_int1, fun H S vs ds w rs Q R k q => ?_⟩
  rcases ds with _ | ⟨d, _ | ⟨d2, ds⟩⟩
  · exact False.elim q
  · obtain ⟨v, r, rfl, rv, rfl⟩ := rs
    cases d with
    | int i =>
      obtain rfl := rv
      exact .inl ⟨i, rfl, k _ H (.int i) S (Go.refl w) rfl q⟩
    | bl i =>
      obtain rfl := rv
      exact .inr ⟨i, rfl, k _ H (.int _) S (Go.refl w) rfl q⟩
    | _ => exact False.elim q
  · cases d <;> exact False.elim q
def dIntS : CD := fun ds S Q => match ds with | [.str s] => s.length ≤ 640 ∧ ∃ n, PySem.intText? ⟨s.toArray⟩ = some n ∧ Q (.int n) S | _ => False
theorem c_intS : C X (.type "int") dIntS := by
  refine ⟨_, call_int_str, fun H S vs ds w rs Q R k q => ?_⟩
  rcases ds with _ | ⟨d, _ | ⟨d2, ds⟩⟩
  · exact False.elim q
  · obtain ⟨v, r, rfl, rv, rfl⟩ := rs
    cases d with
    | str s =>
      obtain rfl := rv
      obtain ⟨q1, n, q2, q3⟩ := q
      exact ⟨_, n, rfl, q2, by rw [str_len]; exact q1, k _ H (.int n) S (Go.refl w) rfl q3⟩
    | _ => exact False.elim q
  · cases d <;> exact False.elim q
/-- the digits of an int -/
def decs (i : Int) : List Nat := (Str.ofString (toString i)).cps.toList
def dStr : CD := fun ds S Q => match ds with | [.int i] => i.natAbs.log2 < 1920 ∧ Q (.str (decs i)) S | _ => False
theorem c_str : C X (.type "str") dStr := by
  refine ⟨_, call_str_int, fun H S vs ds w rs Q R k q => ?_⟩
  rcases ds with _ | ⟨d, _ | ⟨d2, ds⟩⟩
  · exact False.elim q
  · obtain ⟨v, r, rfl, rv, rfl⟩ := rs
    cases d with
    | int i =>
      obtain rfl := rv
      exact ⟨i, rfl, q.1, k _ H (.str (decs i)) S (Go.refl w) (by show V.str _ = V.str ⟨(decs i).toArray⟩; unfold decs; rw [Array.toArray_toList]) q.2⟩
    | _ => exact False.elim q
  · cases d <;> exact False.elim q
def dII (f : Int → Int → D) : CD := fun ds S Q => match ds with | [.int i, .int j] => Q (f i j) S | _ => False
theorem c_II {f : Value} {r : List V → Hp → VK → Prop} {g : Int → Int → D} {g' : Int → Int → V} (h : CallR X f r) (hr : ∀ i j H R, R (g' i j) H → r [.int i, .int j] H R) (hg : ∀ K H i j, Rep K H (g i j) (g' i j)) : C X f (dII g) := by
  refine ⟨_, h, fun H S vs ds w rs Q R k q => ?_⟩
  rcases ds with _ | ⟨d, _ | ⟨d2, _ | ⟨d3, ds⟩⟩⟩
  · exact False.elim q
  · cases d <;> exact False.elim q
  · obtain ⟨v, r, rfl, rv, u, r2, rfl, ru, rfl⟩ := rs
    cases d with
    | int i =>
      cases d2 with
      | int j =>
        obtain rfl := rv
        obtain rfl := ru
        exact hr i j H R (k _ H _ S (Go.refl w) (hg _ _ _ _) q)
      | _ => exact False.elim q
    | _ => exact False.elim q
  · cases d with
    | int i => cases d2 <;> exact False.elim q
    | _ => exact False.elim q
def dMax : CD := dII fun i j => .int (if j > i then j else i)
def dMin : CD := dII fun i j => .int (if j < i then j else i)
theorem c_max (hc : X.calm = true := by rfl) : C X (.builtin "max") dMax := c_II (call_max2 hc) (fun i j H R h => ⟨i, j, rfl, h⟩) fun _ _ _ _ => rfl
theorem c_min (hc : X.calm = true := by rfl) : C X (.builtin "min") dMin := c_II (call_min2 hc) (fun i j H R h => ⟨i, j, rfl, h⟩) fun _ _ _ _ => rfl
/-! ### isinstance(e, T) -/
inductive TyN where
  | tNone | tBool | tInt | tStr | tTuple | tList
def TyN.s : TyN → String
  | .tNone => "NoneType" | .tBool => "bool" | .tInt => "int" | .tStr => "str" | .tTuple => "tuple" | .tList => "list"
def tyName (S : Sh) : D → Option TyN
  | .non => some .tNone | .bl _ => some .tBool | .int _ => some .tInt | .str _ => some .tStr | .tup _ => some .tTuple | .frz _ => some .tList
  | .rf p => (match S p with | some (.lst _) => some .tList | _ => none)
  | .ty _ => none
theorem tyx {K : PySem.W.Frag} {H : Hp} {S : Sh} {d : D} {v : V} {n : TyN} (w : Wd K H S) (r : Rep K H d v) (h : tyName S d = some n) : TyX K H v (.type n.s) := by
  cases d with
  | non => obtain rfl := r; cases h; exact .base .non
  | bl b => obtain rfl := r; cases h; exact .base (.bl b)
  | int i => obtain rfl := r; cases h; exact .base (.int i)
  | str s => obtain rfl := r; cases h; exact .base (.str _)
  | tup ds =>
    obtain ⟨p, vs, rfl, hp, _⟩ := r
    cases h
    rcases hp with (hp | ⟨ob, hp⟩) | ⟨ob, its, m, hk, hc, _⟩
    · exact .base (.tup hp)
    · exact .fTuple hp
    · exact .kTuple hk hc
  | frz ds =>
    obtain ⟨p, vs, rfl, hp, _⟩ := r
    cases h
    rcases hp with ⟨ob, hp⟩ | ⟨ob, its, m, hk, hc, _⟩
    · exact .base (.frz hp)
    · exact .kList hk hc
  | rf p =>
    obtain rfl := r
    simp only [tyName] at h
    split at h
    · rename_i ds es
      cases h
      obtain ⟨ho, e0, us, rfl, ru⟩ := w _ _ es
      exact .base (.lst e0)
    · cases h
  | ty _ => cases h
/-- what isinstance says of the names of types -/
def isT : TyN → TyN → Bool
  | .tNone, .tNone => true | .tBool, .tBool => true | .tBool, .tInt => true | .tInt, .tInt => true | .tStr, .tStr => true | .tTuple, .tTuple => true | .tList, .tList => true
  | _, _ => false
def dIsi (t : TyN) (a : ED) : ED := fun δ S Q => a δ S fun x S1 => match tyName S1 x with | some n => Q (.bl (isT n t)) S1 | none => False
theorem kit_isT (n t : TyN) : kitB n.s t.s = some (isT n t) := by
  cases n <;> cases t <;> decide +kernel
theorem e_isi (t : TyN) {y : Str} (ha : E X a τ) (hm : X.mg "isinstance" = none) (hmt : X.mg y = none)
    (hv : bootBuiltins y = some (.type t.s) := by decide +kernel) (hg : Gl X "isinstance" := by rfl) (hgt : Gl X y := by rfl) (hn : y ≠ "__name__" := by decide) (hdb : (y == ("__debug__" : Str)) = false := by decide)
    (he : starEach (a :: [.Name y q]) X.env = (false, eval a X.env) :: starEach [.Name y q] X.env := by rfl) (he2 : starEach (.Name y q :: []) X.env = (false, eval (.Name y q) X.env) :: starEach [] X.env := by rfl) (hpl : (backTo pos (starEach [.Name y q] X.env)).any (·.1) = false := by rfl) :
    E X (.Call (.Name "isinstance" p) [a, .Name y q] [] pos) (dIsi t τ) := by
  obtain ⟨ta, a1, a2⟩ := ha
  have rt : RelV (.ty t.s) (Value.type t.s) := rfl
  refine ⟨_, pe_callB call_isi hg hm (by decide +kernel) (pa_cons a1 (pa_cons (pe_bltn hgt hmt hv rt hn hdb) pa_nil he2) he) (by decide) (by decide) he hpl, fun σ H δ S w sl Q R k h => ?_⟩
  refine a2 σ H δ S w sl _ _ (fun v H1 d S1 g1 rv q => ?_) h
  cases e : tyName S1 d with
  | none => rw [e] at q; exact q.elim
  | some n =>
    rw [e] at q
    exact ⟨v, .ty t.s, .type n.s, .type t.s, _, rfl, .ty t.s, tyx g1.wd rv e, kit_ty (kit_isT n t), k _ H1 (.bl _) S1 g1 rfl q⟩
end
end DL

set_option Elab.async false
set_option linter.all false
set_option maxRecDepth 100000
namespace DL
open PySem PySem.Spec L2
section
variable {X : Cx} {a b c e o value : Expr} {es : List Expr} {pos p2 p q apos cpos pos' : Pos} {τ τa τb τc : ED} {α ν ν' : AD} {ι : ID} {γ : GD} {κ : TD} {ξ : SD} {tg iter : Expr} {x : Str}

/-! ### what is walked -/
theorem simj_list {K : PySem.W.Frag} {S : Sh} {H : Hp} {a : Addr} {ds : List D} {ck : Sh → Prop} (hl : ∀ S' H', Go K S H S' H' → ck S' → ∃ vs, SqL K H' a vs ∧ Reps K H' ds vs) : SimJ K S H (Itl K a) ds ck := fun S' H' g hck i => by
  obtain ⟨vs, h1, r1⟩ := hl S' H' g hck
  refine ⟨fun d hd => ?_, fun hi => ⟨vs, h1, by rw [← r1.length]; exact hi⟩⟩
  obtain ⟨v, hv, rv⟩ := r1.get hd
  refine ⟨⟨vs, v, h1, hv⟩, fun x H2 ⟨e, y⟩ => ?_⟩
  subst e
  have := y vs h1
  rw [hv] at this
  cases this
  exact ⟨Go.refl g.wd, rv⟩
theorem i_new (h : N X iter ν) : I X tg iter (fun δ S Q => ν δ S fun ds S1 => Q ds (fun _ => True) S1) := by
  obtain ⟨t, a1, a2⟩ := h
  refine ⟨_, pi_list a1, fun σ H δ S w sl Q R k h => ?_⟩
  refine a2 σ H δ S w sl _ _ (fun a H1 vs ds S1 g1 h0 hp hs rs q => ?_) h
  refine ⟨a, rfl, ⟨vs, SqL.of hp⟩, k _ H1 S1 ds (fun _ => True) g1 (simj_list fun S' H' g _ => ⟨vs, SqL.of (g.ext a _ hp hs), rs.im (g.im g1.wd)⟩) trivial q⟩
def dItN (l : AD) : ID := fun δ S Q => l δ S fun ds S1 => Q ds (fun _ => True) S1
theorem i_newD (h : N X iter ν) : I X tg iter (dItN ν) := i_new h
def dIt (a : ED) : ID := fun δ S Q => a δ S fun x S1 => match x with
  | .tup ds => Q ds (fun _ => True) S1
  | .frz ds => Q ds (fun _ => True) S1
  | .str s => Q (s.map fun c => .str [c]) (fun _ => True) S1
  | .rf p => (match S1 p with | some (.lst ds) => Q ds (fun S => S p = some (.lst ds)) S1 | _ => False)
  | _ => False
def iAny (K : PySem.W.Frag) (te : TE) : TI := fun σ H R => te σ H fun x H1 => (∃ a xs, x = .ref a ∧ SqL K H1 a xs ∧ R (Itl K a) H1) ∨ (∃ a xs, x = .ref a ∧ SqT K H1 a xs ∧ R (Itt K a) H1) ∨ (∃ z, x = .str z ∧ R (Its z) H1)
open PyProof.Rows in
theorem pi_any {X : Cx} {tg e : Expr} {te : TE} (he : PE X e te) : PI X tg e (iAny X.K te) := by
  refine ⟨fun pins s σ H R I h => ?_⟩
  refine thn (he.run pins s σ H _ I h) fun v s1 ⟨y, H1, I1, r1, q1⟩ => ?_
  rcases q1 with ⟨a, xs, ex, hq, q⟩ | ⟨a, xs, ex, hq, q⟩ | ⟨z, ex, q⟩
  · subst ex
    cases r1
    obtain ⟨its, rv, p, hz⟩ := I1.list hq
    refine wpAny_pyIter_list p.isList ?_
    refine ⟨s1.heap.objs.size, [s1.heap.objs.size], _, _, H1, rfl, I1.kept (t' := s1.toks) fun b o e => Heap.get?_push_of_some _ e, turn_list a _, ⟨_, Heap.get?_push_size _ rfl, rfl, rfl⟩, fun b hb => ?_, q⟩
    have e : b = s1.heap.objs.size := by simpa using hb
    subst e
    exact I1.fpOk (Nat.le_refl _) (I1.hok.fresh (Nat.le_refl _))
  · subst ex
    cases r1
    obtain ⟨its, rv, p, hz⟩ := I1.tuple hq
    refine wpAny_pyIter_tuple (show s1.heap.IsTuple a its.toArray from p) ?_
    refine ⟨s1.heap.objs.size, [s1.heap.objs.size], _, _, H1, rfl, I1.kept (t' := s1.toks) fun b o e => Heap.get?_push_of_some _ e, turn_tuple a _, ⟨_, Heap.get?_push_size _ rfl, rfl, rfl⟩, fun b hb => ?_, q⟩
    have e : b = s1.heap.objs.size := by simpa using hb
    subst e
    exact I1.fpOk (Nat.le_refl _) (I1.hok.fresh (Nat.le_refl _))
  · subst ex
    obtain ⟨t, rfl⟩ := r1
    cases ha : z.cps.all (· < 128)
    · exact wpAny_pyIter_wide ha (pi_one (tk := s1.toks) I1 _ (turn_str _ z t "str_iterator" (.inr rfl)) ⟨_, Heap.get?_push_size _ rfl, rfl, rfl⟩ q)
    · exact wpAny_pyIter_ascii ha (pi_one (tk := s1.toks) I1 _ (turn_str _ z t "str_ascii_iterator" (.inl rfl)) ⟨_, Heap.get?_push_size _ rfl, rfl, rfl⟩ q)
theorem simj_tup {K : PySem.W.Frag} {S : Sh} {H : Hp} {a : Addr} {vs : List V} {ds : List D} (rs : Reps K H ds vs) (w : Wd K H S) (hl : SqT K H a vs) : SimJ K S H (Itt K a) ds (fun _ => True) := fun S' H' g _ i => by
  have im := g.im w
  have h1 := im.t _ _ hl
  have r1 := rs.im im
  refine ⟨fun d hd => ?_, fun hi => ⟨vs, h1, by rw [← rs.length]; exact hi⟩⟩
  obtain ⟨v, hv, rv⟩ := r1.get hd
  refine ⟨⟨vs, v, h1, hv⟩, fun x H2 ⟨e, y⟩ => ?_⟩
  subst e
  have := y vs h1
  rw [hv] at this
  cases this
  exact ⟨Go.refl g.wd, rv⟩
theorem simj_str {K : PySem.W.Frag} {S : Sh} {H : Hp} {s : List Nat} : SimJ K S H (Its ⟨s.toArray⟩) (s.map fun c => .str [c]) (fun _ => True) := fun S' H' g _ i => by
  refine ⟨fun d hd => ?_, fun hi => ?_⟩
  · rw [List.getElem?_map] at hd
    cases e : s[i]? with
    | none => rw [e] at hd; cases hd
    | some c =>
      rw [e] at hd
      cases hd
      refine ⟨by show i < s.toArray.size; simpa using (List.getElem?_eq_some_iff.mp e).1, fun x H2 ⟨e1, c', e2, e3⟩ => ?_⟩
      subst e1
      have : c' = c := by
        have q : s.toArray[i]? = some c' := e2
        rw [List.getElem?_toArray, e] at q
        exact (Option.some.inj q).symm
      subst this
      subst e3
      exact ⟨Go.refl g.wd, rfl⟩
  · show s.toArray.size ≤ i
    simpa using hi
theorem i_of (h : E X iter τ) : I X tg iter (dIt τ) := by
  obtain ⟨t, a1, a2⟩ := h
  refine ⟨_, pi_any a1, fun σ H δ S w sl Q R k h => ?_⟩
  refine a2 σ H δ S w sl _ _ (fun v H1 d S1 g1 r1 q => ?_) h
  cases d with
  | tup ds =>
    obtain ⟨a, vs, rfl, hq, rs⟩ := r1
    exact .inr (.inl ⟨a, vs, rfl, hq, k _ H1 S1 ds _ g1 (simj_tup rs g1.wd hq) trivial q⟩)
  | frz ds =>
    obtain ⟨a, vs, rfl, hq, rs⟩ := r1
    exact .inl ⟨a, vs, rfl, hq.l, k _ H1 S1 ds (fun _ => True) g1 (simj_list fun S' H' g _ => ⟨vs, ((g.im g1.wd).f _ _ hq).l, rs.im (g.im g1.wd)⟩) trivial q⟩
  | str s =>
    obtain rfl := r1
    exact .inr (.inr ⟨_, rfl, k _ H1 S1 _ _ g1 simj_str trivial q⟩)
  | rf p =>
    obtain rfl := r1
    simp only at q
    split at q
    · rename_i ds es
      obtain ⟨ho, e0, vs, rfl, rs⟩ := g1.wd _ _ es
      refine .inl ⟨p, vs, rfl, SqL.of e0, k _ H1 S1 ds (fun S => S p = some (.lst ds)) g1 (simj_list fun S' H' g hck => ?_) es q⟩
      obtain ⟨ho2, e2, vs2, rfl, rs2⟩ := g.wd _ _ hck
      exact ⟨vs2, SqL.of e2, rs2⟩
    · exact q.elim
  | _ => exact False.elim q

/-! ### range -/
def rng (lo : Int) (n : Nat) : List D := (List.range n).map fun i : Nat => .int (lo + i)
theorem simj_rng {K : PySem.W.Frag} {S : Sh} {H : Hp} {lo : Int} {n : Nat} : SimJ K S H (Itr lo n) (rng lo n) (fun _ => True) := fun S' H' g _ i => by
  refine ⟨fun d hd => ?_, fun hi => ?_⟩
  · unfold rng at hd
    rw [List.getElem?_map] at hd
    have hl : i < n := by
      cases e : (List.range n)[i]? with
      | none => rw [e] at hd; cases hd
      | some j => have := (List.getElem?_eq_some_iff.mp e).1; simpa using this
    rw [List.getElem?_range hl] at hd
    cases hd
    exact ⟨hl, fun x H2 ⟨e1, e2⟩ => by subst e1; subst e2; exact ⟨Go.refl g.wd, rfl⟩⟩
  · show n ≤ i
    simpa [rng] using hi
def dRng1 (a : AD) : ID := fun δ S Q => a δ S fun ds S1 => match ds with | [.int j] => -(2 ^ 62) ≤ j ∧ j < 2 ^ 62 ∧ Q (rng 0 j.toNat) (fun _ => True) S1 | _ => False
def dRng2 (a : AD) : ID := fun δ S Q => a δ S fun ds S1 => match ds with | [.int i, .int j] => (-(2 ^ 62) ≤ i ∧ i < 2 ^ 62 ∧ -(2 ^ 62) ≤ j ∧ j < 2 ^ 62) ∧ Q (rng i (j - i).toNat) (fun _ => True) S1 | _ => False
theorem i_rng1 (hm : X.mg "range" = none) (ha : A X [a] α) (hg : Gl X "range" := by rfl) (hs : starEach [a] X.env = [(false, eval a X.env)] := by rfl) : I X tg (.Call (.Name "range" p) [a] [] pos) (dRng1 α) := by
  obtain ⟨t, a1, a2⟩ := ha
  refine ⟨_, pi_range1 hg hm a1 hs, fun σ H δ S w sl Q R k h => ?_⟩
  refine a2 σ H δ S w sl _ _ (fun vs H1 ds S1 g1 rs q => ?_) h
  rcases ds with _ | ⟨d, _ | ⟨d2, ds⟩⟩
  · exact False.elim q
  · obtain ⟨v, r, rfl, rv, rfl⟩ := rs
    cases d with
    | int j =>
      obtain rfl := rv
      exact ⟨j, rfl, q.1, q.2.1, k _ H1 S1 _ _ g1 simj_rng trivial q.2.2⟩
    | _ => exact False.elim q
  · cases d <;> exact False.elim q
theorem i_rng2 (hm : X.mg "range" = none) (ha : A X [a, b] α) (hg : Gl X "range" := by rfl) (hs : starEach [a, b] X.env = [(false, eval a X.env), (false, eval b X.env)] := by rfl) (hs2 : starEach [b] X.env = [(false, eval b X.env)] := by rfl) : I X tg (.Call (.Name "range" p) [a, b] [] pos) (dRng2 α) := by
  obtain ⟨t, a1, a2⟩ := ha
  refine ⟨_, pi_range2 hg hm a1 hs hs2, fun σ H δ S w sl Q R k h => ?_⟩
  refine a2 σ H δ S w sl _ _ (fun vs H1 ds S1 g1 rs q => ?_) h
  rcases ds with _ | ⟨d, _ | ⟨d2, _ | ⟨d3, ds⟩⟩⟩
  · exact False.elim q
  · cases d <;> exact False.elim q
  · obtain ⟨v, r, rfl, rv, u, r2, rfl, ru, rfl⟩ := rs
    cases d with
    | int i =>
      cases d2 with
      | int j =>
        obtain rfl := rv
        obtain rfl := ru
        exact ⟨i, j, rfl, q.1, k _ H1 S1 _ _ g1 simj_rng trivial q.2⟩
      | _ => exact False.elim q
    | _ => exact False.elim q
  · cases d with
    | int i => cases d2 <;> exact False.elim q
    | _ => exact False.elim q

/-! ### methods of built-in types -/
def tyD (ty : String) (S : Sh) (x : D) : Prop := match x with
  | .str _ => ty = "str"
  | .frz _ => ty = "list"
  | .rf p => ty = "list" ∧ ∃ ds, S p = some (.lst ds)
  | _ => False
theorem ty_ok {K : PySem.W.Frag} {H : Hp} {S : Sh} {ty : String} {d : D} {v : V} (w : Wd K H S) (r : Rep K H d v) (h : tyD ty S d) : tyV K ty v H := by
  cases d with
  | str s => obtain rfl := r; exact h
  | frz ds =>
    obtain ⟨a, vs, rfl, hf, _⟩ := r
    exact .inl ⟨h, vs, hf.l⟩
  | rf p =>
    obtain rfl := r
    obtain ⟨h1, ds, es⟩ := h
    obtain ⟨ho, e0, vs, rfl, rs⟩ := w _ _ es
    exact .inl ⟨h1, vs, SqL.of e0⟩
  | _ => exact False.elim h
abbrev MD := D → List D → Sh → QD → Prop
def SimM (K : PySem.W.Frag) (r : V → List V → Hp → VK → Prop) (ρ : MD) : Prop := ∀ H S x dx vs ds, Wd K H S → Rep K H dx x → Reps K H ds vs → ∀ (Q : QD) (R : VK), (∀ v H' d S', Go K S H S' H' → Rep K H' d v → Q d S' → R v H') → ρ dx ds S Q → r x vs H R
def M (X : Cx) (id : String) (ρ : MD) : Prop := ∃ r, MtR X id r ∧ SimM X.K r ρ
def dBM0 (ty : String) (ρ : MD) (a : ED) : ED := fun δ S Q => a δ S fun x S1 => tyD ty S1 x ∧ ρ x [] S1 Q
def dBM (ty : String) (ρ : MD) (a : ED) (l : AD) : ED := fun δ S Q => a δ S fun x S1 => tyD ty S1 x ∧ l δ S1 fun ds S2 => ρ x ds S2 Q
theorem e_bm0 {ty id : String} {name : Str} {ρ : MD} (pa : PlainAttrs ty) (slot : Slot ty name id) (hty : typeOf (.builtin id) = pure (.type "method_descriptor")) (hm : M X id ρ) (ho : E X o τ)
    (hbase : attributeBase o name X.env (eval o X.env) = eval o X.env := by rfl) (hline : (apos.endLine == cpos.line) = true := by rfl) : E X (.Call (.Attribute o name apos) [] [] cpos) (dBM0 ty ρ τ) := by
  obtain ⟨r, m1, m2⟩ := hm
  obtain ⟨t, a1, a2⟩ := ho
  refine ⟨_, pe_bm0 pa slot hty m1 a1 hbase hline, fun σ H δ S w sl Q R k h => ?_⟩
  refine a2 σ H δ S w sl _ _ (fun v H1 d S1 g1 rv q => ⟨ty_ok g1.wd rv q.1, ?_⟩) h
  exact m2 H1 S1 v d [] [] g1.wd rv rfl Q R (fun v' H2 d' S2 g2 => k v' H2 d' S2 (g1.trans g2)) q.2
theorem e_bm {ty id : String} {name : Str} {ρ : MD} (pa : PlainAttrs ty) (slot : Slot ty name id) (hty : typeOf (.builtin id) = pure (.type "method_descriptor")) (hm : M X id ρ) (ho : E X o τ) (ha : A X (e :: es) α)
    (hbase : attributeBase o name X.env (eval o X.env) = eval o X.env := by rfl)
    (hfew : ((backTo cpos (starEach (e :: es) X.env)).all (fun x => !x.1) && (backToKw cpos (keywordEach [] X.env)).all (fun x => x.1.isSome)
      && decide ((e :: es).length + ([] : List Keyword).length + (if ([] : List Keyword).isEmpty then 0 else 1) < 30)) = true := by rfl)
    (hline : (apos.endLine == cpos.line) = true := by rfl) (hs : starEach (e :: es) X.env = (false, eval e X.env) :: starEach es X.env := by rfl) (hplain : (backTo cpos (starEach es X.env)).any (·.1) = false := by rfl) :
    E X (.Call (.Attribute o name apos) (e :: es) [] cpos) (dBM ty ρ τ α) := by
  obtain ⟨r, m1, m2⟩ := hm
  obtain ⟨t, a1, a2⟩ := ho
  obtain ⟨ta, b1, b2⟩ := ha
  refine ⟨_, pe_bm pa slot hty m1 a1 b1 hbase hfew hline hs hplain, fun σ H δ S w sl Q R k h => ?_⟩
  refine a2 σ H δ S w sl _ _ (fun v H1 d S1 g1 rv q => ⟨ty_ok g1.wd rv q.1, ?_⟩) h
  refine b2 σ H1 δ S1 g1.wd (sl.im (g1.im w)) _ _ (fun vs H2 ds S2 g2 rs q2 => ?_) q.2
  exact m2 H2 S2 v d vs ds g2.wd (rv.im (g2.im g1.wd)) rs Q R (fun v' H3 d' S3 g3 => k v' H3 d' S3 ((g1.trans g2).trans g3)) q2
/-- a method whose one argument is a list on the spot -/
def SimML (K : PySem.W.Frag) (r : V → List V → Hp → VK → Prop) (ρ : MD) : Prop := ∀ H S x dx a vs ds, Wd K H S → Rep K H dx x → SqL K H a vs → Reps K H ds vs → ∀ (Q : QD) (R : VK), (∀ v H' d S', Go K S H S' H' → Rep K H' d v → Q d S' → R v H') → ρ dx ds S Q → r x [.ref a] H R
def ML (X : Cx) (id : String) (ρ : MD) : Prop := ∃ r, MtR X id r ∧ SimML X.K r ρ
theorem e_bmL {ty id : String} {name : Str} {ρ : MD} (pa : PlainAttrs ty) (slot : Slot ty name id) (hty : typeOf (.builtin id) = pure (.type "method_descriptor")) (hm : ML X id ρ) (ho : E X o τ) (ha : L X e ν)
    (hbase : attributeBase o name X.env (eval o X.env) = eval o X.env := by rfl)
    (hfew : ((backTo cpos (starEach (e :: []) X.env)).all (fun x => !x.1) && (backToKw cpos (keywordEach [] X.env)).all (fun x => x.1.isSome)
      && decide ((e :: ([] : List Expr)).length + ([] : List Keyword).length + (if ([] : List Keyword).isEmpty then 0 else 1) < 30)) = true := by rfl)
    (hline : (apos.endLine == cpos.line) = true := by rfl) (hs : starEach (e :: []) X.env = (false, eval e X.env) :: starEach [] X.env := by rfl) (hplain : (backTo cpos (starEach [] X.env)).any (·.1) = false := by rfl) :
    E X (.Call (.Attribute o name apos) [e] [] cpos) (dBM ty ρ τ ν) := by
  obtain ⟨r, m1, m2⟩ := hm
  obtain ⟨t, a1, a2⟩ := ho
  obtain ⟨ta, b1, b2⟩ := ha
  refine ⟨_, pe_bm pa slot hty m1 a1 (pa_cons b1 pa_nil hs) hbase hfew hline hs hplain, fun σ H δ S w sl Q R k h => ?_⟩
  refine a2 σ H δ S w sl _ _ (fun v H1 d S1 g1 rv q => ⟨ty_ok g1.wd rv q.1, ?_⟩) h
  refine b2 σ H1 δ S1 g1.wd (sl.im (g1.im w)) _ _ (fun p H2 vs ds S2 g2 hq rs q2 => ?_) q.2
  exact m2 H2 S2 v d p vs ds g2.wd (rv.im (g2.im g1.wd)) hq rs Q R (fun v' H3 d' S3 g3 => k v' H3 d' S3 ((g1.trans g2).trans g3)) q2
/-! texts -/
def mS0 (f : List Nat → D) (ok : List Nat → Prop) : MD := fun x ds S Q => match x, ds with | .str s, [] => ok s ∧ Q (f s) S | _, _ => False
theorem m_S0 {id : String} {r : V → List V → Hp → VK → Prop} {f : List Nat → D} {ok : List Nat → Prop} (h : MtR X id r) (hr : ∀ K H (s : List Nat) R, ok s → (∀ v, Rep K H (f s) v → R v H) → r (.str ⟨s.toArray⟩) [] H R) : M X id (mS0 f ok) := by
  refine ⟨_, h, fun H S x dx vs ds w rx rs Q R k q => ?_⟩
  cases dx with
  | str s =>
    obtain rfl := rx
    cases ds with
    | nil =>
      obtain rfl := rs
      exact hr X.K H s R q.1 fun v rv => k v H (f s) S (Go.refl w) rv q.2
    | cons _ _ => exact False.elim q
  | _ => exact False.elim q
def mS1 (f : List Nat → List Nat → D) (ok : List Nat → List Nat → Prop) : MD := fun x ds S Q => match x, ds with | .str s, [.str t] => ok s t ∧ Q (f s t) S | _, _ => False
theorem m_S1 {id : String} {r : V → List V → Hp → VK → Prop} {f : List Nat → List Nat → D} {ok : List Nat → List Nat → Prop} (h : MtR X id r) (hr : ∀ K H (s t : List Nat) R, ok s t → (∀ v, Rep K H (f s t) v → R v H) → r (.str ⟨s.toArray⟩) [.str ⟨t.toArray⟩] H R) : M X id (mS1 f ok) := by
  refine ⟨_, h, fun H S x dx vs ds w rx rs Q R k q => ?_⟩
  cases dx with
  | str s =>
    obtain rfl := rx
    rcases ds with _ | ⟨d, _ | ⟨d2, ds⟩⟩
    · exact False.elim q
    · obtain ⟨v, r2, rfl, rv, rfl⟩ := rs
      cases d with
      | str t =>
        obtain rfl := rv
        exact hr X.K H s t R q.1 fun v rv => k v H (f s t) S (Go.refl w) rv q.2
      | _ => exact False.elim q
    · cases d <;> exact False.elim q
  | _ => exact False.elim q
end
end DL

set_option Elab.async false
set_option linter.all false
set_option maxRecDepth 100000
namespace DL
open PySem PySem.Spec L2
section
variable {X : Cx} {a b c e o value : Expr} {es : List Expr} {pos p2 p q apos cpos pos' : Pos} {τ τa τb τc : ED} {α ν ν' : AD} {ι : ID} {γ : GD} {κ : TD} {ξ : SD} {tg iter : Expr} {x : Str}
abbrev tx (s : List Nat) : Str := ⟨s.toArray⟩

/-! ### texts' methods -/
def okT (s : List Nat) : Prop := s.length ≤ sizeLine
def okU : List Nat → Prop := fun _ => True
def ok2 : List Nat → List Nat → Prop := fun _ _ => True
def dSta : MD := mS1 (fun s t => .bl (Txt.startswith (tx s) (tx t))) ok2
def dEnd : MD := mS1 (fun s t => .bl (Txt.endswith (tx s) (tx t))) ok2
def dFind : MD := mS1 (fun s t => .int (Txt.find (tx s) (tx t))) ok2
def dIsasc : MD := mS0 (fun s => .bl (Txt.isascii (tx s))) okU
def dIsdig : MD := mS0 (fun s => .bl (Txt.isdigit (tx s))) okU
def dIsalp : MD := mS0 (fun s => .bl (Txt.isalpha (tx s))) okU
def dIsaln : MD := mS0 (fun s => .bl (Txt.isalnum (tx s))) okU
def dIslow : MD := mS0 (fun s => .bl (Txt.islower (tx s))) okU
def dIspri : MD := mS0 (fun s => .bl (Txt.isprintable (tx s))) okU
theorem m_sta : M X "str.startswith" dSta := m_S1 mt_startswith fun K H s t R _ k => ⟨_, _, rfl, rfl, k _ rfl⟩
theorem m_end : M X "str.endswith" dEnd := m_S1 mt_endswith fun K H s t R _ k => ⟨_, _, rfl, rfl, k _ rfl⟩
theorem m_find : M X "str.find" dFind := m_S1 mt_find fun K H s t R _ k => ⟨_, _, rfl, rfl, k _ rfl⟩
theorem m_isasc : M X "str.isascii" dIsasc := m_S0 mt_isascii fun K H s R _ k => ⟨_, rfl, rfl, trivial, k _ rfl⟩
theorem m_isdig : M X "str.isdigit" dIsdig := m_S0 mt_isdigit fun K H s R _ k => ⟨_, rfl, rfl, trivial, k _ rfl⟩
theorem m_isalp : M X "str.isalpha" dIsalp := m_S0 mt_isalpha fun K H s R _ k => ⟨_, rfl, rfl, trivial, k _ rfl⟩
theorem m_isaln : M X "str.isalnum" dIsaln := m_S0 mt_isalnum fun K H s R _ k => ⟨_, rfl, rfl, trivial, k _ rfl⟩
theorem m_islow : M X "str.islower" dIslow := m_S0 mt_islower fun K H s R _ k => ⟨_, rfl, rfl, trivial, k _ rfl⟩
theorem m_ispri : M X "str.isprintable" dIspri := m_S0 mt_isprintable fun K H s R _ k => ⟨_, rfl, rfl, trivial, k _ rfl⟩
/-- find within -/
def dFind4 : MD := fun x ds S Q => match x, ds with | .str s, [.str t, .int i, .int j] => Q (.int (Txt.findIn (tx s) (tx t) i j)) S | _, _ => False
theorem m_find4 : M X "str.find" dFind4 := by
  refine ⟨_, mt_find4, fun H S x dx vs ds w rx rs Q R k q => ?_⟩
  cases dx with
  | str s =>
    obtain rfl := rx
    rcases ds with _ | ⟨d, _ | ⟨d2, _ | ⟨d3, _ | ⟨d4, ds⟩⟩⟩⟩
    · exact False.elim q
    · cases d <;> exact False.elim q
    · cases d <;> first | exact False.elim q | (cases d2 <;> exact False.elim q)
    · obtain ⟨v, r2, rfl, rv, v2, r3, rfl, rv2, v3, r4, rfl, rv3, rfl⟩ := rs
      cases d with
      | str t =>
        cases d2 with
        | int i =>
          cases d3 with
          | int j =>
            obtain rfl := rv
            obtain rfl := rv2
            obtain rfl := rv3
            exact ⟨_, _, _, _, rfl, rfl, k _ H (.int _) S (Go.refl w) rfl q⟩
          | _ => exact False.elim q
        | _ => exact False.elim q
      | _ => exact False.elim q
    · cases d <;> first | exact False.elim q | (cases d2 <;> first | exact False.elim q | (cases d3 <;> exact False.elim q))
  | _ => exact False.elim q
/-- split(sep): a new list -/
theorem Reps.strs {K : PySem.W.Frag} {H : Hp} : ∀ ys : List (List Nat), Reps K H (ys.map D.str) ((ys.map tx).map V.str)
  | [] => rfl
  | _ :: ys => ⟨_, _, rfl, rfl, Reps.strs ys⟩
def dSplit (a b : ED) : AD := fun δ S Q => a δ S fun x S1 => match x with
  | .str s => b δ S1 fun y S2 => (match y with
    | .str t => t ≠ [] ∧ t.all (· < 256) = true ∧ s.length + 2 ≤ sizeLine ∧ Q ((TL.spl t 0 [] s).map D.str) S2
    | _ => False)
  | _ => False
theorem n_split (ho : E X o τ) (ha : E X e τa) (hs : starEach [e] X.env = [(false, eval e X.env)] := by rfl) (hbase : attributeBase o "split" X.env (eval o X.env) = eval o X.env := by rfl) (hline : (apos.endLine == pos.line) = true := by rfl) :
    N X (.Call (.Attribute o "split" apos) [e] [] pos) (dSplit τ τa) := by
  obtain ⟨t, a1, a2⟩ := ho
  obtain ⟨ta, b1, b2⟩ := ha
  refine ⟨_, pe_split a1 b1 hs hbase hline, fun σ H δ S w sl Q R k h => ?_⟩
  refine a2 σ H δ S w sl _ _ (fun v H1 d S1 g1 rv q => ?_) h
  cases d with
  | str s =>
    obtain rfl := rv
    refine ⟨⟨_, rfl⟩, b2 σ H1 δ S1 g1.wd (sl.im (g1.im w)) _ _ (fun u H2 d2 S2 g2 ru q2 => ?_) q⟩
    cases d2 with
    | str t =>
      obtain rfl := ru
      obtain ⟨q1, q2, q3, q4⟩ := q2
      refine ⟨tx s, tx t, rfl, rfl, ?_, by rw [str_len]; exact q3, fun p hp => ?_⟩
      · rw [str_len]
        cases t with
        | nil => exact absurd rfl q1
        | cons _ _ => rfl
      · have e : Txt.split (tx s) (tx t) = (TL.spl t 0 [] s).map tx := SX.split_S q1 q2
        rw [e]
        have g := Go.new (u := .lst (((TL.spl t 0 [] s).map tx).map V.str)) g2.wd hp
        exact k p _ _ _ S2 ((g1.trans g2).trans g) ((g1.trans g2).th _ hp) upd_same (g2.wd.free hp) (Reps.strs _) q4
    | _ => exact False.elim q2
  | _ => exact False.elim q
/-- sep.join(l) -/
def strsOf : List D → Option (List (List Nat))
  | [] => some []
  | .str s :: r => (strsOf r).map (s :: ·)
  | _ :: _ => none
theorem strsOf_map : ∀ ns : List (List Nat), strsOf (ns.map D.str) = some ns
  | [] => rfl
  | n :: ns => by rw [List.map_cons, strsOf, strsOf_map ns]; rfl
theorem of_strsOf : ∀ {ds : List D} {ns : List (List Nat)}, strsOf ds = some ns → ds = ns.map D.str
  | [], ns, h => by cases h; rfl
  | .str i :: r, ns, h => by
    unfold strsOf at h
    cases e : strsOf r with
    | none => rw [e] at h; cases h
    | some m => rw [e] at h; cases h; rw [of_strsOf e]; rfl
  | .non :: _, _, h => by cases h
  | .bl _ :: _, _, h => by cases h
  | .int _ :: _, _, h => by cases h
  | .ty _ :: _, _, h => by cases h
  | .tup _ :: _, _, h => by cases h
  | .frz _ :: _, _, h => by cases h
  | .rf _ :: _, _, h => by cases h
theorem Reps.of_strs {K : PySem.W.Frag} {H : Hp} : ∀ {ys : List (List Nat)} {vs : List V}, Reps K H (ys.map D.str) vs → vs = (ys.map tx).map V.str
  | [], _, h => h
  | _ :: _, _, h => by
    obtain ⟨v, r, rfl, h1, h2⟩ := h
    rw [show v = V.str _ from h1, Reps.of_strs h2]; rfl
def joinOk (s : List Nat) (ys : List (List Nat)) : Prop := (ys.map (·.length)).sum + ys.length * s.length ≤ 16777216
theorem join_tx (s : List Nat) (ys : List (List Nat)) : Txt.join (tx s) (ys.map tx) = tx (TL.joinL s ys) := SX.join_S s ys
theorem lens_tx (ys : List (List Nat)) : (ys.map tx).map (·.length) = ys.map (·.length) := SX.lens ys
/-- of a list -/
def dJoin : MD := fun x ds S Q => match x, strsOf ds with | .str s, some ys => joinOk s ys ∧ Q (.str (TL.joinL s ys)) S | _, _ => False
theorem m_join : ML X "str.join" dJoin := by
  refine ⟨_, mt_join, fun H S x dx a vs ds w rx hq rs Q R k q => ?_⟩
  cases dx with
  | str s =>
    obtain rfl := rx
    unfold dJoin at q
    cases e : strsOf ds with
    | none => rw [e] at q; exact q.elim
    | some ys =>
      rw [e] at q
      obtain rfl := of_strsOf e
      obtain rfl := rs.of_strs
      refine ⟨_, a, ys.map tx, rfl, rfl, .inl hq, ?_, ?_⟩
      · rw [lens_tx, List.length_map, str_len]; exact q.1
      · rw [join_tx]; exact k _ H (.str _) S (Go.refl w) rfl q.2
  | _ => exact False.elim q
/-- of a tuple -/
def dJoinT : MD := fun x ds S Q => match x, ds with | .str s, [.tup es] => (match strsOf es with | some ys => joinOk s ys ∧ Q (.str (TL.joinL s ys)) S | none => False) | _, _ => False
theorem m_joinT : M X "str.join" dJoinT := by
  refine ⟨_, mt_join, fun H S x dx vs ds w rx rs Q R k q => ?_⟩
  cases dx with
  | str s =>
    obtain rfl := rx
    rcases ds with _ | ⟨d, _ | ⟨d2, ds⟩⟩
    · exact False.elim q
    · obtain ⟨v, r, rfl, rv, rfl⟩ := rs
      cases d with
      | tup es =>
        obtain ⟨a, us, rfl, hq, rs⟩ := rv
        simp only [dJoinT] at q
        cases e : strsOf es with
        | none => rw [e] at q; exact q.elim
        | some ys =>
          rw [e] at q
          obtain rfl := of_strsOf e
          obtain rfl := rs.of_strs
          refine ⟨_, a, ys.map tx, rfl, rfl, .inr hq, ?_, ?_⟩
          · rw [lens_tx, List.length_map, str_len]; exact q.1
          · rw [join_tx]; exact k _ H (.str _) S (Go.refl w) rfl q.2
      | _ => exact False.elim q
    · cases d <;> exact False.elim q
  | _ => exact False.elim q

/-! ### lists changed -/
def dApp : MD := fun x ds S Q => match x, ds with | .rf p, [d] => (match S p with | some (.lst xs) => xs.length < sizeLine ∧ Q .non (su S p (.lst (xs ++ [d]))) | _ => False) | _, _ => False
theorem m_app : M X "list.append" dApp := by
  refine ⟨_, mt_append, fun H S x dx vs ds w rx rs Q R k q => ?_⟩
  cases dx with
  | rf p =>
    obtain rfl := rx
    rcases ds with _ | ⟨d, _ | ⟨d2, ds⟩⟩
    · exact False.elim q
    · obtain ⟨v, r, rfl, rv, rfl⟩ := rs
      simp only [dApp] at q
      split at q
      · rename_i xs es
        obtain ⟨ho, e0, us, rfl, ru⟩ := w _ _ es
        refine ⟨p, us, v, rfl, rfl, e0, by rw [← ru.length]; exact q.1, ?_⟩
        exact k _ _ .non _ (Go.wr (o' := .lst (xs ++ [d])) w es fun H' m => ⟨_, rfl, ((ru.append (Reps.one rv)).im m)⟩) rfl q.2
      · exact q.elim
    · exact False.elim q
  | _ => exact False.elim q
/-- l[i] = v -/
def dSetL (o i : ED) : GD := fun d δ S Q => o δ S fun x S1 => i δ S1 fun y S2 => match x, y with
  | .rf p, .int i => (match S2 p with | some (.lst xs) => (match ixN xs.length i with | some j => Q δ (su S2 p (.lst (xs.set j d))) | none => False) | _ => False)
  | _, _ => False
theorem g_setL {i : Expr} {τo τi : ED} (ho : E X o τo) (hi : E X i τi) (ha : ∀ v, assign (.Subscript o i pos) X.env v = (do
      let ov ← holding [v] (eval o X.env)
      let iv ← holding [v, ov] (eval i X.env)
      standAt pos
      holding [v, ov, iv] (setItem ov iv v)
      release [v, ov, iv] []) := by intro _; rfl) : G X (.Subscript o i pos) (dSetL τo τi) := by
  obtain ⟨t, a1, a2⟩ := ho
  obtain ⟨ti, b1, b2⟩ := hi
  refine ⟨_, pg_sub a1 b1 set_list ha, fun σ H δ S v d w sl rv Q R k h => ?_⟩
  refine a2 σ H δ S w sl _ _ (fun vo H1 dx S1 g1 ro q => ?_) h
  have sl1 := sl.im (g1.im w)
  refine b2 σ H1 δ S1 g1.wd sl1 _ _ (fun vi H2 dy S2 g2 ri q => ?_) q
  cases dx with
  | rf p =>
    obtain rfl := ro
    cases dy with
    | int i =>
      obtain rfl := ri
      simp only at q
      split at q
      · rename_i xs es
        cases e : ixN xs.length i with
        | none => rw [e] at q; exact q.elim
        | some j =>
          rw [e] at q
          obtain ⟨ho, e0, us, rfl, ru⟩ := g2.wd _ _ es
          refine ⟨p, us, i, j, rfl, rfl, e0, by rw [← ru.length]; exact e, ?_⟩
          have g3 := Go.wr (u := .lst (us.set j v)) (o' := .lst (xs.set j d)) g2.wd es fun H' m => ⟨_, rfl, (ru.set j ((rv.im (g1.im w)).im (g2.im g1.wd))).im m⟩
          exact k σ _ δ _ ((g1.trans g2).trans g3) ((sl1.im (g2.im g1.wd)).im (g3.im g2.wd)) q
      · exact q.elim
    | _ => exact False.elim q
  | _ => exact False.elim q
/-- targets in a tuple -/
def dGnil : GsD := fun ds δ S Q => match ds with | [] => Q δ S | _ => False
def dGcons (g : GD) (r : GsD) : GsD := fun ds δ S Q => match ds with | d :: ds => g d δ S fun δ1 S1 => r ds δ1 S1 Q | [] => False
def dGtup (r : GsD) (n : Nat) : GD := fun d δ S Q => match d with | .tup ds => ds.length = n ∧ r ds δ S Q | _ => False
variable {γs : GsD}
theorem gs_nil : Gs X [] dGnil := ⟨_, pgs_nil, fun σ H δ S vs ds w sl r Q R k h => by
  cases ds with
  | nil => exact ⟨r, k σ H δ S (Go.refl w) sl h⟩
  | cons _ _ => exact False.elim h⟩
theorem gs_cons (h1 : G X e γ) (h2 : Gs X es γs) (hs : (assignEach (e :: es) X.env).map (·.2) = assign e X.env :: (assignEach es X.env).map (·.2) := by rfl) : Gs X (e :: es) (dGcons γ γs) := by
  obtain ⟨t, a1, a2⟩ := h1
  obtain ⟨ts, b1, b2⟩ := h2
  refine ⟨_, pgs_cons a1 b1 hs, fun σ H δ S vs ds w sl r Q R k h => ?_⟩
  cases ds with
  | nil => exact False.elim h
  | cons d ds =>
    obtain ⟨v, rr, rfl, rv, rs⟩ := r
    refine ⟨v, rr, rfl, a2 σ H δ S v d w sl rv _ _ (fun σ1 H1 δ1 S1 g1 sl1 q => ?_) h⟩
    exact b2 σ1 H1 δ1 S1 rr ds g1.wd sl1 (rs.im (g1.im w)) Q R (fun σ2 H2 δ2 S2 g2 => k σ2 H2 δ2 S2 (g1.trans g2)) q
theorem g_tup {k : Nat} {n : Nat} (h : Gs X es γs) (hc : X.calm = true := by rfl) (hn : (assignEach es X.env).length = n := by rfl) (hst : (assignEach es X.env).findIdx? (·.1) = none := by rfl) : G X (.Tuple es k pos) (dGtup γs n) := by
  obtain ⟨t, a1, a2⟩ := h
  refine ⟨_, pg_tup hc a1 hn hst, fun σ H δ S v d w sl rv Q R k h => ?_⟩
  cases d with
  | tup ds =>
    obtain ⟨a, vs, rfl, hq, rs⟩ := rv
    exact ⟨a, vs, rfl, hq, by rw [← rs.length]; exact h.1, a2 σ H δ S vs ds w sl rs Q R k h.2⟩
  | _ => exact False.elim h
/-- a, b = e1, e2 with plain local names -/
def dPar (i j : Nat) (l : AD) : SD := fun F δ S => l δ S fun ds S1 => match ds with | [d1, d2] => F.nx ((δ.set i (some d1)).set j (some d2)) S1 | _ => False
theorem s_par (i j : Nat) {x y : Str} {px py pt : Pos} {kt k2 : Nat} {pt2 : Pos} (hN : X.N.Nodup) (ha : A X [a, b] α) (hi : X.N[i]? = some x := by rfl) (hj : X.N[j]? = some y := by rfl) (hij : i ≠ j := by decide)
    (hx : X.env.scope.names.lookup x = some .local := by rfl) (hy : X.env.scope.names.lookup y = some .local := by rfl)
    (hw : swappedStores [.Tuple [.Name x px, .Name y py] kt pt] (.Tuple [a, b] k2 pt2) X.env = pure (some [x, y]) := by rfl) (hc : X.calm = true := by rfl)
    (hs : swapsWithSole [.Tuple [.Name x px, .Name y py] kt pt] (.Tuple [a, b] k2 pt2) pos.line X.env = pure false := by rfl) :
    S1 X (.Assign [.Tuple [.Name x px, .Name y py] kt pt] (.Tuple [a, b] k2 pt2) pos) (dPar i j α) := by
  obtain ⟨t, a1, a2⟩ := ha
  refine ⟨_, ps_par hc hN hi hj hij hx hy a1 hw hs, fun σ H δ S w sl F G hn hr hb hct h => ?_⟩
  refine a2 σ H δ S w sl _ _ (fun vs H1 ds S1 g1 rs q => ?_) h
  rcases ds with _ | ⟨d, _ | ⟨d2, _ | ⟨d3, ds⟩⟩⟩
  · exact False.elim q
  · exact False.elim q
  · obtain ⟨v, r, rfl, rv, u, r2, rfl, ru, rfl⟩ := rs
    exact ⟨v, u, rfl, hn _ H1 _ S1 g1 (((sl.im (g1.im w)).set i rv).set j ru) q⟩
  · exact False.elim q

/-! ### in -/
def flatD : D → Bool
  | .non => true | .bl _ => true | .int _ => true | .str _ => true | _ => false
def eqD : D → D → Bool
  | .non, .non => true
  | .bl a, .bl b => a == b
  | .bl a, .int b => (if a then 1 else 0) == b
  | .int a, .bl b => a == (if b then 1 else 0)
  | .int a, .int b => a == b
  | .str a, .str b => a == b
  | _, _ => false
def inD (x : D) (xs : List D) : Bool := xs.any fun y => eqD y x
theorem flat_rep {K : PySem.W.Frag} {H : Hp} {d : D} {v : V} (r : Rep K H d v) (h : flatD d = true) : flatV v = true := by
  cases d <;> first | (obtain rfl := r; rfl) | cases h
theorem eq_rep {K : PySem.W.Frag} {H : Hp} {d e : D} {v u : V} (r : Rep K H d v) (s : Rep K H e u) (h : flatD d = true) (h' : flatD e = true) : eqV v u = eqD d e := by
  cases d <;> cases h <;> cases e <;> cases h' <;> (obtain rfl := r; obtain rfl := s; try rfl)
  show ((⟨_⟩ : Str) == ⟨_⟩) = _
  rw [Bool.eq_iff_iff]
  simp [str_inj, eqD]
theorem flats_rep {K : PySem.W.Frag} {H : Hp} : ∀ {ds : List D} {vs : List V}, Reps K H ds vs → ds.all flatD = true → vs.all flatV = true
  | [], _, r, _ => by rw [show _ = ([] : List V) from r]; rfl
  | d :: ds, _, r, h => by
    obtain ⟨v, rr, rfl, rv, rs⟩ := r
    rw [List.all_cons, Bool.and_eq_true] at h ⊢
    exact ⟨flat_rep rv h.1, flats_rep rs h.2⟩
theorem in_rep {K : PySem.W.Frag} {H : Hp} {d : D} {v : V} (rv : Rep K H d v) (h : flatD d = true) : ∀ {ds : List D} {vs : List V}, Reps K H ds vs → ds.all flatD = true → inV v vs = inD d ds
  | [], _, r, _ => by rw [show _ = ([] : List V) from r]; rfl
  | e :: ds, _, r, h2 => by
    obtain ⟨u, rr, rfl, ru, rs⟩ := r
    rw [List.all_cons, Bool.and_eq_true] at h2
    show (eqV u v || inV v rr) = (eqD e d || inD d ds)
    rw [eq_rep ru rv h2.1 h, in_rep rv h rs h2.2]
/-- in of a tuple, a list, a text (one sign) -/
def dInS (neg : Bool) (x y : D) (S : Sh) (Q : QD) : Prop := match y with
  | .tup ds => flatD x = true ∧ ds.all flatD = true ∧ Q (.bl (if neg then !inD x ds else inD x ds)) S
  | .frz ds => flatD x = true ∧ ds.all flatD = true ∧ Q (.bl (if neg then !inD x ds else inD x ds)) S
  | .rf p => (match S p with | some (.lst ds) => flatD x = true ∧ ds.all flatD = true ∧ Q (.bl (if neg then !inD x ds else inD x ds)) S | _ => False)
  | .str s => (match x with | .str [c] => Q (.bl (if neg then !decide (c ∈ s) else decide (c ∈ s))) S | _ => False)
  | _ => False
def dIn : R2D := dInS false
def dNotIn : R2D := dInS true
theorem in_ok {K : PySem.W.Frag} {H : Hp} {S : Sh} {neg : Bool} {dx dy : D} {x y : V} {Q : QD} {R : VK} (w : Wd K H S) (rx : Rep K H dx x) (ry : Rep K H dy y) (k : ∀ v H' d S', Go K S H S' H' → Rep K H' d v → Q d S' → R v H') (q : dInS neg dx dy S Q) :
    rIn K neg x y H R ∨ (∃ (c : Nat) (z : Str), x = .str ⟨#[c]⟩ ∧ y = .str z ∧ R (.bl (if neg then !decide (c ∈ z.cps.toList) else decide (c ∈ z.cps.toList))) H) := by
  have fin : ∀ {p : Addr} {vs : List V} {ds : List D}, (SqL K H p vs ∨ SqT K H p vs) → Reps K H ds vs → flatD dx = true ∧ ds.all flatD = true ∧ Q (.bl (if neg then !inD dx ds else inD dx ds)) S → rIn K neg x (.ref p) H R := fun {p vs ds} hq rs ⟨h1, h2, q⟩ =>
    ⟨p, vs, rfl, hq, flat_rep rx h1, flats_rep rs h2, by rw [in_rep rx h1 rs h2]; exact k _ H (.bl _) S (Go.refl w) rfl q⟩
  cases dy with
  | tup ds =>
    obtain ⟨p, vs, rfl, hq, rs⟩ := ry
    exact .inl (fin (.inr hq) rs q)
  | frz ds =>
    obtain ⟨p, vs, rfl, hq, rs⟩ := ry
    exact .inl (fin (.inl hq.l) rs q)
  | rf p =>
    obtain rfl := ry
    simp only [dInS] at q
    split at q
    · rename_i ds es
      obtain ⟨ho, e0, vs, rfl, rs⟩ := w _ _ es
      exact .inl (fin (.inl (SqL.of e0)) rs q)
    · exact q.elim
  | str s =>
    obtain rfl := ry
    simp only [dInS] at q
    split at q
    · rename_i c
      obtain rfl := rx
      exact .inr ⟨c, _, rfl, rfl, k _ H (.bl _) S (Go.refl w) rfl q⟩
    · exact q.elim
  | _ => exact False.elim q
theorem o_in : O X (compareOp .In) dIn := by
  refine ⟨_, op_in_seq.or op_in_sign, fun H S x y dx dy w rx ry Q R k q => ?_⟩
  rcases in_ok w rx ry k q with h | ⟨c, z, e1, e2, h⟩
  · exact .inl h
  · exact .inr ⟨c, z, e1, e2, h⟩
theorem o_notIn : O X (compareOp .NotIn) dNotIn := by
  refine ⟨_, op_notIn_seq.or op_notIn_sign, fun H S x y dx dy w rx ry Q R k q => ?_⟩
  rcases in_ok w rx ry k q with h | ⟨c, z, e1, e2, h⟩
  · exact .inl h
  · exact .inr ⟨c, z, e1, e2, h⟩
end
end DL

set_option Elab.async false
set_option linter.all false
set_option maxRecDepth 100000
namespace DL
open PySem PySem.Spec L2 PyProof.Rows
section
variable {X : Cx} {a b c e o value : Expr} {es : List Expr} {pos p2 p q apos cpos pos' : Pos} {τ τa τb τc τv : ED} {α ν ν' : AD} {ι : ID} {γ : GD} {κ : TD} {ξ : SD} {tg iter : Expr} {x f m : Str} {C : Addr}

/-! ### a text some times -/
theorem foldl_rep (s : Array Nat) : ∀ (k : Nat) (acc : Array Nat), (List.replicate k s).foldl (· ++ ·) acc = acc ++ (List.replicate k s.toList).flatten.toArray
  | 0, acc => by simp
  | k + 1, acc => by
    rw [List.replicate_succ, List.foldl_cons, foldl_rep s k, List.replicate_succ, List.flatten_cons]
    apply Array.ext'
    simp
def repS (s : List Nat) (n : Int) : List Nat := (List.replicate n.toNat s).flatten
def rMulS : R2 := fun x y H Q => ∃ z n, x = .str z ∧ y = .int n ∧ -(2 ^ 63) ≤ n ∧ n < 2 ^ 63 ∧ z.length * n.toNat ≤ 16777216 ∧ Q (.str ⟨(repS z.cps.toList n).toArray⟩) H
theorem op_mulS : OpR X (binaryOp .Mult) rMulS := by
  intro pins s σ H x y v u Q I rx ry h
  obtain ⟨z, n, rfl, rfl, h1, h2, h3, h⟩ := h
  obtain ⟨t, rfl⟩ := rx
  obtain ⟨t', rfl⟩ := ry
  refine PySem.P.mul_str ?_ (fun hn hz => ?_) (fun hn hz => ?_) ?_
  · have e1 : ¬ n < -(2 ^ 63 : Int) := by omega
    have e2 : ¬ n ≥ 2 ^ 63 := by omega
    rw [decide_eq_false e1, decide_eq_false e2]; rfl
  · intro hh
    obtain ⟨m, rfl⟩ := Int.eq_ofNat_of_zero_le (show 0 ≤ n by omega)
    have h3' : z.length * m ≤ 16777216 := h3
    have e : ((z.length : Int) * (m : Int)) ≤ 16777216 := by
      have := Int.ofNat_le.mpr h3'
      rw [Int.natCast_mul] at this
      exact this
    have hp : (0 : Int) < (m : Int) := by omega
    have h4 := (Int.le_ediv_iff_mul_le hp (a := (z.length : Int)) (b := 2 ^ 63 - 1)).mpr (Int.le_trans e (by decide))
    exact absurd hh (Int.not_lt.mpr h4)
  · show decide (_ > sizeLine) = false
    exact decide_eq_false (by rw [sizeLine_eq]; omega)
  · have fin : ∀ {z' : Str} {t : Tok} {k : Nat}, z' = ⟨(repS z.cps.toList n).toArray⟩ → EP X pins σ Q (.str z' t) { s with toks := k } := fun {z' t k} e => by
      subst e
      exact ⟨.str _, H, I.tok _, ⟨t, rfl⟩, h⟩
    by_cases c1 : n < 1
    · rw [if_pos c1]
      refine ⟨by decide, fin ?_⟩
      have : n.toNat = 0 := by omega
      unfold repS; rw [this]; rfl
    · rw [if_neg c1]
      by_cases c2 : (n == 1 || z.length == 0) = true
      · rw [if_pos c2]
        refine fin (k := s.toks) ?_
        rw [Bool.or_eq_true] at c2
        rcases c2 with c2 | c2
        · have : n = 1 := by simpa using c2
          subst this
          simp [repS]
        · have hz : z.cps.size = 0 := by simpa [Str.length] using c2
          have hz' : z.cps = #[] := Array.eq_empty_of_size_eq_zero hz
          cases z
          simp only at hz'
          subst hz'
          simp [repS]
      · rw [if_neg c2]
        have e : (⟨(List.replicate n.toNat z.cps).foldl (· ++ ·) #[]⟩ : Str) = ⟨(repS z.cps.toList n).toArray⟩ := by
          rw [foldl_rep]
          simp [repS]
        refine ⟨?_, fin e⟩
        rw [e, str_len]
        unfold repS
        rw [List.length_flatten, List.map_replicate, List.sum_replicate_nat, sizeLine_eq]
        have : z.cps.toList.length = z.length := by simp [Str.length]
        rw [this, Nat.mul_comm]
        omega
def dMulS : R2D := fun x y S Q => match x, y with
  | .str s, .int n => -(2 ^ 63) ≤ n ∧ n < 2 ^ 63 ∧ s.length * n.toNat ≤ 16777216 ∧ Q (.str (repS s n)) S
  | _, _ => False
theorem o_mulS : O X (binaryOp .Mult) dMulS := by
  refine ⟨_, op_mulS, fun H S x y dx dy w rx ry Q R k q => ?_⟩
  cases dx <;> cases dy <;> first | exact False.elim q | skip
  rename_i s n
  obtain rfl := rx
  obtain rfl := ry
  exact ⟨_, n, rfl, rfl, q.1, q.2.1, by rw [str_len]; exact q.2.2.1, k _ H (.str (repS s n)) S (Go.refl w) rfl q.2.2.2⟩

/-! ### lists on the spot: +, ==, in -/
def dCatL (l r : AD) : AD := fun δ S Q => l δ S fun xs S1 => r δ S1 fun ys S2 => xs.length + ys.length ≤ sizeLine ∧ Q (xs ++ ys) S2
/-- a list whose contents stand still while the right side is reckoned: new, or by a check -/
def dCatE (a : ED) (r : AD) : AD := fun δ S Q => a δ S fun x S1 => r δ S1 fun ys S2 => match x with
  | .rf p => (match S2 p with | some (.lst xs) => xs.length + ys.length ≤ sizeLine ∧ Q (xs ++ ys) S2 | _ => False)
  | _ => False
theorem cat_fin {K : PySem.W.Frag} {H : Hp} {S : Sh} {l b : Addr} {vs us : List V} {xs ys : List D} {Q : List D → Sh → Prop} {R : VK} (w : Wd K H S) (hl : H l = some (.lst vs)) (hb : H b = some (.lst us)) (r1 : Reps K H xs vs) (r2 : Reps K H ys us)
    (k : ∀ a H' vs ds S', Go K S H S' H' → H a = none → H' a = some (.lst vs) → S' a = none → Reps K H' ds vs → Q ds S' → R (.ref a) H') (q : xs.length + ys.length ≤ sizeLine ∧ Q (xs ++ ys) S) : rCat (.ref l) (.ref b) H R :=
  ⟨l, b, vs, us, rfl, rfl, hl, hb, by rw [← r1.length, ← r2.length]; exact q.1, fun p hp => by
    have g := Go.new (u := .lst (vs ++ us)) w hp
    exact k p _ _ (xs ++ ys) S g hp upd_same (w.free hp) ((r1.append r2).im (g.im w)) q.2⟩
theorem n_cat (ha : N X a ν) (hb : N X b ν') : N X (.BinOp a .Add b pos) (dCatL ν ν') := by
  obtain ⟨ta, a1, a2⟩ := ha
  obtain ⟨tb, b1, b2⟩ := hb
  refine ⟨_, pe_op op_cat a1 b1, fun σ H δ S w sl Q R k h => ?_⟩
  refine a2 σ H δ S w sl _ _ (fun p H1 vs ds S1 g1 h0 hp hs rs q => ?_) h
  refine b2 σ H1 δ S1 g1.wd (sl.im (g1.im w)) _ _ (fun p2 H2 us es S2 g2 h02 hp2 hs2 rs2 q2 => ?_) q
  exact cat_fin g2.wd (g2.ext p _ hp hs) hp2 (rs.im (g2.im g1.wd)) rs2 (fun a' H3 vs' ds' S3 g3 h3 => k a' H3 vs' ds' S3 ((g1.trans g2).trans g3) ((g1.trans g2).th _ h3)) q2
theorem n_catE (ha : E X a τ) (hb : N X b ν') : N X (.BinOp a .Add b pos) (dCatE τ ν') := by
  obtain ⟨ta, a1, a2⟩ := ha
  obtain ⟨tb, b1, b2⟩ := hb
  refine ⟨_, pe_op op_cat a1 b1, fun σ H δ S w sl Q R k h => ?_⟩
  refine a2 σ H δ S w sl _ _ (fun v H1 d S1 g1 rv q => ?_) h
  refine b2 σ H1 δ S1 g1.wd (sl.im (g1.im w)) _ _ (fun p2 H2 us es S2 g2 h02 hp2 hs2 rs2 q2 => ?_) q
  cases d with
  | rf p =>
    obtain rfl := rv
    simp only at q2
    split at q2
    · rename_i xs es2
      obtain ⟨ho, e0, vs, rfl, rs⟩ := g2.wd _ _ es2
      exact cat_fin g2.wd e0 hp2 rs rs2 (fun a' H3 vs' ds' S3 g3 h3 => k a' H3 vs' ds' S3 ((g1.trans g2).trans g3) ((g1.trans g2).th _ h3)) q2
    · exact q2.elim
  | _ => exact False.elim q2
def dCatR (l : AD) (b : ED) : AD := fun δ S Q => l δ S fun xs S1 => b δ S1 fun y S2 => match y with
  | .rf p => (match S2 p with | some (.lst ys) => xs.length + ys.length ≤ sizeLine ∧ Q (xs ++ ys) S2 | _ => False)
  | _ => False
theorem n_catR (ha : N X a ν) (hb : E X b τ) : N X (.BinOp a .Add b pos) (dCatR ν τ) := by
  obtain ⟨ta, a1, a2⟩ := ha
  obtain ⟨tb, b1, b2⟩ := hb
  refine ⟨_, pe_op op_cat a1 b1, fun σ H δ S w sl Q R k h => ?_⟩
  refine a2 σ H δ S w sl _ _ (fun p H1 vs ds S1 g1 h0 hp hs rs q => ?_) h
  refine b2 σ H1 δ S1 g1.wd (sl.im (g1.im w)) _ _ (fun v H2 d S2 g2 rv q2 => ?_) q
  cases d with
  | rf p2 =>
    obtain rfl := rv
    simp only at q2
    split at q2
    · rename_i ys es2
      obtain ⟨ho, e0, us, rfl, rs2⟩ := g2.wd _ _ es2
      exact cat_fin g2.wd (g2.ext p _ hp hs) e0 (rs.im (g2.im g1.wd)) rs2 (fun a' H3 vs' ds' S3 g3 h3 => k a' H3 vs' ds' S3 ((g1.trans g2).trans g3) ((g1.trans g2).th _ h3)) q2
    · exact q2.elim
  | _ => exact False.elim q2
def dCatEE (a b : ED) : AD := fun δ S Q => a δ S fun x S1 => b δ S1 fun y S2 => match x, y with
  | .rf p, .rf q => (match S2 p, S2 q with | some (.lst xs), some (.lst ys) => xs.length + ys.length ≤ sizeLine ∧ Q (xs ++ ys) S2 | _, _ => False)
  | _, _ => False
theorem n_catEE (ha : E X a τa) (hb : E X b τb) : N X (.BinOp a .Add b pos) (dCatEE τa τb) := by
  obtain ⟨ta, a1, a2⟩ := ha
  obtain ⟨tb, b1, b2⟩ := hb
  refine ⟨_, pe_op op_cat a1 b1, fun σ H δ S w sl Q R k h => ?_⟩
  refine a2 σ H δ S w sl _ _ (fun v H1 d S1 g1 rv q => ?_) h
  refine b2 σ H1 δ S1 g1.wd (sl.im (g1.im w)) _ _ (fun u H2 d2 S2 g2 ru q2 => ?_) q
  cases d with
  | rf p =>
    cases d2 with
    | rf p2 =>
      obtain rfl := rv
      obtain rfl := ru
      simp only at q2
      split at q2
      · rename_i xs ys e1 e2
        obtain ⟨ho, e0, vs, rfl, rs⟩ := g2.wd _ _ e1
        obtain ⟨ho2, e02, us, rfl, rs2⟩ := g2.wd _ _ e2
        exact cat_fin g2.wd e0 e02 rs rs2 (fun a' H3 vs' ds' S3 g3 h3 => k a' H3 vs' ds' S3 ((g1.trans g2).trans g3) ((g1.trans g2).th _ h3)) q2
      · exact q2.elim
    | _ => exact False.elim q2
  | _ => exact False.elim q2
/-- *e among the items -/
def dStar (a : ED) (r : AD) : AD := fun δ S Q => a δ S fun x S1 => match x with
  | .tup xs => r δ S1 fun ys S2 => Q (xs ++ ys) S2
  | _ => False
theorem a_star (ha : E X e τ) (hr : A X es α) (hs : starEach (.Starred e p :: es) X.env = (true, eval e X.env) :: starEach es X.env := by rfl) : A X (.Starred e p :: es) (dStar τ α) := by
  obtain ⟨t, a1, a2⟩ := ha
  obtain ⟨tr, b1, b2⟩ := hr
  refine ⟨_, StX.pa_star a1 b1 hs, fun σ H δ S w sl Q R k h => ?_⟩
  refine a2 σ H δ S w sl _ _ (fun v H1 d S1 g1 rv q => ?_) h
  cases d with
  | tup xs =>
    obtain ⟨pp, vs, rfl, hq, rs⟩ := rv
    refine ⟨pp, vs, rfl, .inl hq, ?_⟩
    refine b2 σ H1 δ S1 g1.wd (sl.im (g1.im w)) _ _ (fun us H2 ys S2 g2 rs2 q2 => ?_) q
    exact k _ H2 (xs ++ ys) S2 (g1.trans g2) ((rs.im (g2.im g1.wd)).append rs2) q2
  | _ => exact False.elim q

/-! ### == of deep data, of lists on the spot -/
mutual
def toPy : D → Option PyData
  | .non => some .none
  | .bl b => some (.bool b)
  | .int i => some (.int i)
  | .str s => some (.str ⟨s.toArray⟩)
  | .tup ds => (toPys ds).map .tuple
  | _ => none
def toPys : List D → Option (List PyData)
  | [] => some []
  | d :: ds => match toPy d, toPys ds with | some x, some xs => some (x :: xs) | _, _ => none
end
mutual
theorem toPy_dp {K : PySem.W.Frag} {H : Hp} : ∀ {d : D} {v : V} {x : PyData}, Rep K H d v → toPy d = some x → Dp K H v x
  | .non, _, _, r, h => by obtain rfl := r; cases h; exact .non
  | .bl b, _, _, r, h => by obtain rfl := r; cases h; exact .bl b
  | .int i, _, _, r, h => by obtain rfl := r; cases h; exact .int i
  | .str s, _, _, r, h => by obtain rfl := r; cases h; exact .str _
  | .tup ds, v, x, r, h => by
    obtain ⟨a, vs, rfl, hq, rs⟩ := r
    unfold toPy at h
    cases e : toPys ds with
    | none => rw [e] at h; cases h
    | some xs =>
      rw [e] at h
      cases h
      exact .tup hq (toPys_dp rs e)
  | .ty _, _, _, _, h => by cases h
  | .frz _, _, _, _, h => by cases h
  | .rf _, _, _, _, h => by cases h
theorem toPys_dp {K : PySem.W.Frag} {H : Hp} : ∀ {ds : List D} {vs : List V} {xs : List PyData}, Reps K H ds vs → toPys ds = some xs → DpAll K H vs xs
  | [], _, _, r, h => by rw [show _ = ([] : List V) from r]; cases h; exact .nil
  | d :: ds, _, _, r, h => by
    obtain ⟨v, rr, rfl, rv, rs⟩ := r
    unfold toPys at h
    cases e1 : toPy d with
    | none => rw [e1] at h; cases h
    | some x =>
      cases e2 : toPys ds with
      | none => rw [e1, e2] at h; cases h
      | some xs =>
        rw [e1, e2] at h
        cases h
        exact .cons (toPy_dp rv e1) (toPys_dp rs e2)
end
/-- == by the data's own equality -/
def dEqP (neg : Bool) (x y : Option PyData) (S : Sh) (Q : QD) : Prop := match x, y with
  | some d, some e => SeqAt.shaped d = true ∧ SeqAt.shaped e = true ∧ Q (.bl (if neg then !PyData.eqv d e else PyData.eqv d e)) S
  | _, _ => False
def dEqT : R2D := fun x y S Q => dEqP false (toPy x) (toPy y) S Q
def dNeT : R2D := fun x y S Q => dEqP true (toPy x) (toPy y) S Q
theorem o_eqT (hu : X.A.units + 64 < cLine) : O X (compareOp .Eq) dEqT := by
  refine ⟨_, op_eqD hu, fun H S x y dx dy w rx ry Q R k q => ?_⟩
  unfold dEqT dEqP at q
  split at q
  · rename_i d e e1 e2
    exact ⟨d, e, toPy_dp rx e1, toPy_dp ry e2, q.1, q.2.1, k _ H (.bl _) S (Go.refl w) rfl q.2.2⟩
  · exact q.elim
theorem o_neT (hu : X.A.units + 64 < cLine) : O X (compareOp .NotEq) dNeT := by
  refine ⟨_, op_neD hu, fun H S x y dx dy w rx ry Q R k q => ?_⟩
  unfold dNeT dEqP at q
  split at q
  · rename_i d e e1 e2
    exact ⟨d, e, toPy_dp rx e1, toPy_dp ry e2, q.1, q.2.1, k _ H (.bl _) S (Go.refl w) rfl q.2.2⟩
  · exact q.elim
def dEqL (neg : Bool) (l r : AD) : ED := fun δ S Q => l δ S fun xs S1 => r δ S1 fun ys S2 => dEqP neg ((toPys xs).map .list) ((toPys ys).map .list) S2 Q
/-- == of two lists, the left one new -/
theorem eq_l {op : CmpOp} {neg : Bool} {r : R2} (ho : OpR X (compareOp op) r) (hr : ∀ x y H Q, (∃ d e, Dp X.K H x d ∧ Dp X.K H y e ∧ SeqAt.shaped d = true ∧ SeqAt.shaped e = true ∧ Q (.bl (if neg then !PyData.eqv d e else PyData.eqv d e)) H) → r x y H Q)
    (ha : N X a ν) (hb : L X b ν') (hm : behindInMarks op b = false) : E X (.Compare a [op] [b] pos) (dEqL neg ν ν') := by
  obtain ⟨ta, a1, a2⟩ := ha
  obtain ⟨tb, b1, b2⟩ := hb
  refine ⟨_, pe_cmpR ho a1 b1 hm, fun σ H δ S w sl Q R k h => ?_⟩
  refine a2 σ H δ S w sl _ _ (fun p H1 vs ds S1 g1 h0 hp hs rs q => ?_) h
  refine b2 σ H1 δ S1 g1.wd (sl.im (g1.im w)) _ _ (fun p2 H2 us es S2 g2 hq rs2 q2 => ?_) q
  unfold dEqP at q2
  split at q2
  · rename_i d e e1 e2
    cases f1 : toPys ds with
    | none => rw [f1] at e1; cases e1
    | some xs =>
      cases f2 : toPys es with
      | none => rw [f2] at e2; cases e2
      | some ys =>
        rw [f1] at e1
        rw [f2] at e2
        cases e1
        cases e2
        exact hr _ _ _ _ ⟨.list xs, .list ys, .lst (SqL.of (g2.ext p _ hp hs)) (toPys_dp (rs.im (g2.im g1.wd)) f1), .lst hq (toPys_dp rs2 f2), q2.1, q2.2.1, k _ H2 (.bl _) S2 (g1.trans g2) rfl q2.2.2⟩
  · exact q2.elim
theorem e_eqL (hu : X.A.units + 64 < cLine) (ha : N X a ν) (hb : L X b ν') (hm : behindInMarks .Eq b = false := by exact nomark _) : E X (.Compare a [.Eq] [b] pos) (dEqL false ν ν') := eq_l (op_eqD hu) (fun _ _ _ _ h => h) ha hb hm
theorem e_neL (hu : X.A.units + 64 < cLine) (ha : N X a ν) (hb : L X b ν') (hm : behindInMarks .NotEq b = false := by exact nomark _) : E X (.Compare a [.NotEq] [b] pos) (dEqL true ν ν') := eq_l (op_neD hu) (fun _ _ _ _ h => h) ha hb hm

/-! ### own classes -/
def putFD (f : Str) (v : D) : List (Str × D) → List (Str × D)
  | [] => [(f, v)]
  | (g, u) :: r => if g = f then (g, v) :: r else (g, u) :: putFD f v r
theorem RepF.lookup {K : PySem.W.Frag} {H : Hp} {f : Str} : ∀ {ds : List (Str × D)} {fs : List (Str × V)} {d : D}, RepF K H ds fs → ds.lookup f = some d → ∃ v, fs.lookup f = some v ∧ Rep K H d v
  | [], _, _, _, h => by cases h
  | (g, e) :: ds, _, d, r, h => by
    obtain ⟨v, rr, rfl, rv, rs⟩ := r
    rw [List.lookup_cons] at h
    rw [List.lookup_cons]
    cases z : f == g with
    | true => rw [z] at h; cases h; exact ⟨v, rfl, rv⟩
    | false => rw [z] at h; exact RepF.lookup rs h
theorem RepF.none {K : PySem.W.Frag} {H : Hp} {f : Str} : ∀ {ds : List (Str × D)} {fs : List (Str × V)}, RepF K H ds fs → ds.lookup f = none → fs.lookup f = none
  | [], _, r, _ => by rw [show _ = ([] : List (Str × V)) from r]; rfl
  | (g, e) :: ds, _, r, h => by
    obtain ⟨v, rr, rfl, rv, rs⟩ := r
    rw [List.lookup_cons] at h
    rw [List.lookup_cons]
    cases z : f == g with
    | true => rw [z] at h; cases h
    | false => rw [z] at h; exact RepF.none rs h
theorem RepF.put {K : PySem.W.Frag} {H : Hp} {f : Str} {d : D} {v : V} (rv : Rep K H d v) : ∀ {ds : List (Str × D)} {fs : List (Str × V)}, RepF K H ds fs → RepF K H (putFD f d ds) (putF f v fs)
  | [], _, r => by rw [show _ = ([] : List (Str × V)) from r]; exact ⟨v, [], rfl, rv, rfl⟩
  | (g, e) :: ds, _, r => by
    obtain ⟨u, rr, rfl, ru, rs⟩ := r
    by_cases z : g = f
    · have e1 : putF f v ((g, u) :: rr) = (g, v) :: rr := by rw [putF, if_pos z]
      unfold putFD
      rw [if_pos z, e1]
      exact ⟨v, rr, rfl, rv, rs⟩
    · have e1 : putF f v ((g, u) :: rr) = (g, u) :: putF f v rr := by rw [putF, if_neg z]
      unfold putFD
      rw [if_neg z, e1]
      exact ⟨u, _, rfl, ru, RepF.put rv rs⟩
theorem RepF.length {K : PySem.W.Frag} {H : Hp} : ∀ {ds : List (Str × D)} {fs : List (Str × V)}, RepF K H ds fs → ds.length = fs.length
  | [], _, r => by rw [show _ = ([] : List (Str × V)) from r]; rfl
  | (g, e) :: ds, _, r => by
    obtain ⟨u, rr, rfl, ru, rs⟩ := r
    rw [List.length_cons, List.length_cons, RepF.length rs]
def dFld (C : Addr) (a : ED) (f : Str) : ED := fun δ S Q => a δ S fun x S1 => match x with
  | .rf p => ∃ fs d, S1 p = some (.ins C fs) ∧ fs.lookup f = some d ∧ Q d S1
  | _ => False
theorem e_fld (hc : Cls X.K C) (hn : NoAttr X.K C f) (he : E X e τ) (hb : attributeBase e f X.env (eval e X.env) = eval e X.env := by rfl) : E X (.Attribute e f pos) (dFld C τ f) := by
  obtain ⟨t, a1, a2⟩ := he
  refine ⟨_, pe_fld a1 hb, fun σ H δ S w sl Q R k h => ?_⟩
  refine a2 σ H δ S w sl _ _ (fun v H1 d S1 g1 rv q => ?_) h
  cases d with
  | rf p =>
    obtain rfl := rv
    obtain ⟨fs, d, es, el, q⟩ := q
    obtain ⟨ho, e0, dx, us, rfl, rs⟩ := g1.wd _ _ es
    obtain ⟨v, e1, r1⟩ := rs.lookup el
    exact ⟨p, C, dx, us, v, rfl, e0, hc, hn, e1, k v H1 d S1 g1 r1 q⟩
  | _ => exact False.elim q
def dSetF (C : Addr) (a v : ED) (f : Str) : SD := fun F δ S => v δ S fun y S1 => a δ S1 fun x S2 => match x with
  | .rf p => ∃ fs, S2 p = some (.ins C fs) ∧ fs.length < 1000 ∧ F.nx δ (su S2 p (.ins C (putFD f y fs)))
  | _ => False
theorem s_fld (hc : Cls X.K C) (hn : NoAttr X.K C f) (ha : E X o τ) (hv : E X value τv) (hs : swapsWith value (some (.Attribute o f pos')) pos.line X.env = pure false := by rfl) : S1 X (.Assign [.Attribute o f pos'] value pos) (dSetF C τ τv f) := by
  obtain ⟨t, a1, a2⟩ := ha
  obtain ⟨tv, b1, b2⟩ := hv
  refine ⟨_, ps_fld a1 b1 hs, fun σ H δ S w sl F G hnx hr hb hct h => ?_⟩
  refine b2 σ H δ S w sl _ _ (fun y H1 dy S1 g1 ry q => ?_) h
  have sl1 := sl.im (g1.im w)
  refine a2 σ H1 δ S1 g1.wd sl1 _ _ (fun v H2 d S2 g2 rv q => ?_) q
  cases d with
  | rf p =>
    obtain rfl := rv
    obtain ⟨fs, es, el, q⟩ := q
    obtain ⟨ho, e0, dx, us, rfl, rs⟩ := g2.wd _ _ es
    refine ⟨p, C, dx, us, rfl, e0, hc, hn, by rw [← rs.length]; exact el, ?_⟩
    have g3 := Go.wr (u := .ins C dx (putF f y us)) (o' := .ins C (putFD f dy fs)) g2.wd es fun H' m => ⟨dx, _, rfl, (rs.put (ry.im (g2.im g1.wd))).im m⟩
    exact hnx σ _ δ _ ((g1.trans g2).trans g3) ((sl1.im (g2.im g1.wd)).im (g3.im g2.wd)) q
  | _ => exact False.elim q
def dMeth (C : Addr) (m : Str) (n : Nat) (sp : SpD) (a : ED) (l : AD) : ED := fun δ S Q => a δ S fun x S1 => match x with
  | .rf p => ∃ fs, S1 p = some (.ins C fs) ∧ fs.lookup m = none ∧ l δ S1 fun ds S2 => (x :: ds).length = n ∧ sp (x :: ds) S2 Q
  | _ => False
variable {k n : Nat} {g : Addr} {fd : FuncData} {ps : List Str} {sp : SpD}
theorem e_meth {pl : Sem Bool} (c : Cls X.K C) (hm : Meth X.K C m g) (F : FnOk X.prog X.w X.K X.mg X.base CX0 k g fd ps (lift X.K n sp)) (hr : Room k X.A) (hb : Binds X.K fd ps []) (he : E X o τ) (ha : A X (e :: es) α)
    (hst : starEach (e :: es) X.env = (false, eval e X.env) :: starEach es X.env := by rfl) (hpl : (backTo pos (starEach es X.env)).any (·.1) = false := by rfl)
    (ht : eval (.Call (.Attribute o m apos) (e :: es) [] pos) X.env = (do
      let ov ← eval o X.env
      standAt apos.atName
      let (f, first) ← holding [ov] (getMethod ov m pl)
      callWith pos f first (backTo pos (starEach (e :: es) X.env)) (backToKw pos (keywordEach [] X.env))) := by rfl) :
    E X (.Call (.Attribute o m apos) (e :: es) [] pos) (dMeth C m n sp τ α) := by
  obtain ⟨t, a1, a2⟩ := he
  obtain ⟨ta, b1, b2⟩ := ha
  refine ⟨_, pe_meth a1 c hm F hr hb .nil pass0 b1 hst hpl ht, fun σ H δ S w sl Q R k h => ?_⟩
  refine a2 σ H δ S w sl _ _ (fun v H1 d S1 g1 rv q => ?_) h
  cases d with
  | rf p =>
    obtain rfl := rv
    obtain ⟨fs, es2, el, q⟩ := q
    obtain ⟨ho, e0, dx, us, rfl, rs⟩ := g1.wd _ _ es2
    refine ⟨p, dx, us, rfl, e0, rs.none el, ?_⟩
    refine b2 σ H1 δ S1 g1.wd (sl.im (g1.im w)) _ _ (fun vs H2 ds S2 g2 rs2 q2 => ?_) q
    refine ⟨S2, .rf p :: ds, g2.wd, ⟨_, _, rfl, rfl, ?_⟩, q2.1, Q, fun v H3 d S3 g3 r3 q3 => k v H3 d S3 ((g1.trans g2).trans g3) r3 q3, q2.2⟩
    rw [List.append_nil]
    exact rs2
  | _ => exact False.elim q
theorem e_meth0 {pl : Sem Bool} (c : Cls X.K C) (hm : Meth X.K C m g) (F : FnOk X.prog X.w X.K X.mg X.base CX0 k g fd ps (lift X.K n sp)) (hr : Room k X.A) (hb : Binds X.K fd ps []) (he : E X o τ)
    (ht : eval (.Call (.Attribute o m apos) [] [] pos) X.env = (do
      let ov ← eval o X.env
      standAt apos.atName
      let (f, first) ← holding [ov] (getMethod ov m pl)
      callWith pos f first (backTo pos (starEach [] X.env)) (backToKw pos (keywordEach [] X.env))) := by rfl) :
    E X (.Call (.Attribute o m apos) [] [] pos) (dMeth C m n sp τ dNil) := by
  obtain ⟨t, a1, a2⟩ := he
  refine ⟨_, pe_meth0 a1 c hm F hr hb .nil pass0 ht, fun σ H δ S w sl Q R k h => ?_⟩
  refine a2 σ H δ S w sl _ _ (fun v H1 d S1 g1 rv q => ?_) h
  cases d with
  | rf p =>
    obtain rfl := rv
    obtain ⟨fs, es2, el, q⟩ := q
    obtain ⟨ho, e0, dx, us, rfl, rs⟩ := g1.wd _ _ es2
    exact ⟨p, dx, us, rfl, e0, rs.none el, S1, [.rf p], g1.wd, ⟨_, _, rfl, rfl, rfl⟩, q.1, Q, fun v H3 d S3 g3 r3 q3 => k v H3 d S3 (g1.trans g3) r3 q3, q.2⟩
  | _ => exact False.elim q
def dMake (C : Addr) (n : Nat) (sp : SpD) (l : AD) : ED := fun δ S Q => l δ S fun ds S1 => ∀ p, S1 p = none → ds.length + 1 = n ∧ sp (.rf p :: ds) (su S1 p (.ins C [])) fun d S2 => (match d with | .non => Q (.rf p) S2 | _ => False)
theorem e_make {p : Pos} (M : Mk X.K C g) (F : FnOk X.prog X.w X.K X.mg X.base CX0 k g fd ps (lift X.K n sp)) (hr : Room (k + 1) X.A) (hm : X.mg x = some (.ref C)) (hb : Binds X.K fd ps []) (ha : A X (e :: es) α)
    (hg : Gl X x := by rfl) (hdb : (x == ("__debug__" : Str)) = false := by decide) (he : starEach (e :: es) X.env = (false, eval e X.env) :: starEach es X.env := by rfl) (hpl : (backTo pos (starEach es X.env)).any (·.1) = false := by rfl) :
    E X (.Call (.Name x p) (e :: es) [] pos) (dMake C n sp α) := by
  obtain ⟨ta, b1, b2⟩ := ha
  refine ⟨_, pe_make M F hr hg hm hb .nil pass0 b1 hdb he hpl, fun σ H δ S w sl Q R k h => ?_⟩
  refine b2 σ H δ S w sl _ _ (fun vs H1 ds S1 g1 rs q => ?_) h
  intro y dx hy hdx hne
  have hS := g1.wd.free hy
  obtain ⟨q1, q2⟩ := q y hS
  have ga := Go.new (u := .own y) g1.wd hdx
  have hy2 : upd H1 dx (.own y) y = none := by rw [upd_ne (fun z => hne z.symm)]; exact hy
  have gb := Go.newS (u := .ins C dx []) (o := .ins C []) ga.wd hy2 ⟨dx, [], rfl, rfl⟩
  have gab := ga.trans gb
  refine ⟨_, .rf y :: ds, gb.wd, ⟨_, _, rfl, rfl, ?_⟩, q1, _, fun v H3 d S3 g3 r3 q3 => ?_, q2⟩
  · rw [List.append_nil]
    exact rs.im (gab.im g1.wd)
  · cases d with
    | non => exact ⟨r3, k _ H3 (.rf y) S3 ((g1.trans gab).trans g3) rfl q3⟩
    | _ => exact False.elim q3
theorem e_make0 {p : Pos} (M : Mk X.K C g) (F : FnOk X.prog X.w X.K X.mg X.base CX0 k g fd ps (lift X.K n sp)) (hr : Room (k + 1) X.A) (hm : X.mg x = some (.ref C)) (hb : Binds X.K fd ps [])
    (hg : Gl X x := by rfl) (hdb : (x == ("__debug__" : Str)) = false := by decide) : E X (.Call (.Name x p) [] [] pos) (dMake C n sp dNil) := by
  refine ⟨_, pe_make0 M F hr hg hm hb .nil pass0 hdb, fun σ H δ S w sl Q R k h => ?_⟩
  intro y dx hy hdx hne
  have hS := w.free hy
  obtain ⟨q1, q2⟩ := h y hS
  have ga := Go.new (u := .own y) w hdx
  have hy2 : upd H dx (.own y) y = none := by rw [upd_ne (fun z => hne z.symm)]; exact hy
  have gb := Go.newS (u := .ins C dx []) (o := .ins C []) ga.wd hy2 ⟨dx, [], rfl, rfl⟩
  have gab := ga.trans gb
  refine ⟨_, [.rf y], gb.wd, ⟨_, _, rfl, rfl, rfl⟩, q1, _, fun v H3 d S3 g3 r3 q3 => ?_, q2⟩
  cases d with
  | non => exact ⟨r3, k _ H3 (.rf y) S3 (gab.trans g3) rfl q3⟩
  | _ => exact False.elim q3
/-- x += e (a local int) -/
def dAug (i : Nat) (ρ : R2D) (a : ED) : SD := fun F δ S => match δ[i]? with | some (some x) => (a δ S fun y S1 => ρ x y S1 fun d S2 => F.nx (δ.set i (some d)) S2) | _ => False
end

/-! ### a def of the text -/
section
variable {P : Program} {w : World} {K : PySem.W.Frag} {mg : Str → Option Value} {base : Heap}
def startD (N : List Str) (ds : List D) : Sl := ds.map some ++ List.replicate (N.length - ds.length) none
theorem start_ok {K : PySem.W.Frag} {H : Hp} {N : List Str} {ds : List D} {vs : List V} (r : Reps K H ds vs) : SlOk K H (L2.start N vs) (startD N ds) := by
  have hl := r.length
  refine ⟨by unfold L2.start startD; simp [hl], fun i d e => ?_⟩
  unfold startD at e
  unfold L2.start
  by_cases hi : i < ds.length
  · rw [List.getElem?_append_left (by simpa using hi), List.getElem?_map] at e
    cases q : ds[i]? with
    | none => rw [q] at e; cases e
    | some x =>
      rw [q] at e
      cases e
      obtain ⟨v, a, b⟩ := r.get q
      exact ⟨v, by rw [List.getElem?_append_left (by simpa [← hl] using hi), List.getElem?_map, a]; rfl, b⟩
  · rw [List.getElem?_append_right (by simpa using hi), List.getElem?_replicate] at e
    split at e <;> cases e
/-- what is wanted behind a def's body: some of the objects may be forgotten -/
def endsD (Q : QD) : EndsD := { nx := fun _ S => ∃ S', Sle S' S ∧ Q .non S', rt := fun d S => ∃ S', Sle S' S ∧ Q d S' }
theorem fn_lift {x qual : Str} {st : Stmt} {f : Addr} {fd : FuncData} {N ps : List Str} {k : Nat} {sp : SpD} {τ : SD} (F : Fun K x qual st f fd) (Sc : FnScope N ps (defScope st))
    (hd : ∀ (cdv : Value) (A : Around) (outer : List Env) (s : Shared) (H : Hp) (E : XK), Room k (A.deeper (envOfC qual (defScope st) s.heap.objs.size f cdv)) → B (cxOf CX0 P w K mg base N qual (defScope st) f cdv A outer s H E).nox (defBody st) τ)
    (hq : ∀ ds S Q, ds.length = ps.length → sp ds S Q → τ (endsD Q) (startD N ds) S) : FnOk P w K mg base CX0 (k + 1) f fd ps (lift K ps.length sp) := by
  refine F.ok Sc (fun vs H Q E h => ?_) (fun cdv A outer s H vs Q E hr h => ?_)
  · obtain ⟨S, ds, _, r, hl, _⟩ := h
    rw [← r.length, hl]
  · obtain ⟨S, ds, wd, r, hl, Qd, hk, hs⟩ := h
    obtain ⟨t, h1, h2⟩ := hd cdv A outer s H E hr
    refine ⟨t, h1, h2 _ H _ S wd (start_ok r) (endsD Qd) _ (fun σ' H' δ' S' g _ q => ?_) (fun v H' d S' g r' q => ?_) (fun _ _ _ _ _ _ q => q.elim) (fun _ _ _ _ _ _ q => q.elim) (hq ds S Qd hl hs)⟩
    · obtain ⟨S2, le, q⟩ := q
      exact hk _ H' .non S2 (g.le le) rfl q
    · obtain ⟨S2, le, q⟩ := q
      exact hk _ H' d S2 (g.le le) r' q
/-- a weaker promise -/
theorem fn_imp {k : Nat} {f : Addr} {fd : FuncData} {ps : List Str} {n : Nat} {sp sp' : SpD} (F : FnOk P w K mg base CX0 k f fd ps (lift K n sp)) (h : ∀ ds S Q, sp' ds S Q → sp ds S Q) : FnOk P w K mg base CX0 k f fd ps (lift K n sp') :=
  F.imp fun vs H Q E ⟨S, ds, wd, r, hl, Qd, hk, hs⟩ => ⟨S, ds, wd, r, hl, Qd, hk, h _ _ _ hs⟩
/-- a promise that nobody may call in -/
theorem fn_none {k : Nat} {f : Addr} {fd : FuncData} {ps : List Str} {n : Nat} (sp : SpD) (h : ∀ ds S Q, ¬ sp ds S Q) : FnOk P w K mg base CX0 k f fd ps (lift K n sp) :=
  ⟨fun _ _ _ _ ⟨_, _, _, _, _, _, _, hs⟩ => (h _ _ _ hs).elim, fun _ _ _ _ _ _ _ _ _ _ _ _ _ ⟨_, _, _, _, _, _, _, hs⟩ => (h _ _ _ hs).elim⟩
end
end DL

set_option Elab.async false
set_option linter.all false
set_option maxRecDepth 100000
namespace DL
open PySem PySem.Spec L2 PyProof.Rows
section
variable {X : Cx} {a b c e o value elt : Expr} {es : List Expr} {pos p2 p q apos cpos pos' py spos : Pos} {τ τa τb τc τv : ED} {α ν ν' : AD} {ι : ID} {γ : GD} {κ : TD} {ξ : SD} {tg iter : Expr} {x f m y : Str} {C : Addr}
theorem hu {k : Nat} {A : Around} (hr : Room k A) : A.units + 64 < cLine := hr.units
/-- a constant of the module -/
def GlobC (K : PySem.W.Frag) (mg : Str → Option Value) (x : Str) (d : D) : Prop := ∃ u v, mg x = some u ∧ RelV v u ∧ ∀ H, Rep K H d v
theorem e_glob {d : D} (h : GlobC X.K X.mg x d) (hg : Gl X x := by rfl) (hd : (x == ("__debug__" : Str)) = false := by decide) : E X (.Name x pos) (dC d) := by
  obtain ⟨u, v, hm, r, hr⟩ := h
  exact ⟨_, pe_glob hg hm r hd, sim_c hr⟩
theorem glob_int {K : PySem.W.Frag} {mg : Str → Option Value} {i : Int} {t : Tok} (h : mg x = some (.int i t)) : GlobC K mg x (.int i) := ⟨_, .int i, h, ⟨t, rfl⟩, fun _ => rfl⟩
theorem glob_str {K : PySem.W.Frag} {mg : Str → Option Value} {s : Str} {t : Tok} (w : List Nat) (h : mg x = some (.str s t)) (e : s = ⟨w.toArray⟩ := by decide +kernel) : GlobC K mg x (.str w) := ⟨_, .str s, h, ⟨t, rfl⟩, fun _ => by rw [e]; rfl⟩
/-- name = [..] on one line, the name a local -/
theorem s_setLc (i : Nat) {ifs : List Expr} {scope : Scope} {own : List (Str × Nat)} (hN : X.N.Nodup) (hi : I X tg iter ι) (ok : blkC X.N X.env.scope scope own = true)
    (hg : Gw X scope (own.map (·.2)) tg γ) (ht : Tw X scope ifs κ) (he : ∀ (s : Shared) (H : Hp) (C : Addr) (cl : List (Str × Addr)) (fp : List Addr), E (X.blk s H scope (compEnvC scope cl C X.env) fp) elt τ)
    (hy : X.N[i]? = some y := by rfl) (hyl : X.env.scope.names.lookup y = some .local := by rfl)
    (hsw : swapsWith (.ListComp elt [⟨tg, iter, ifs, 0⟩] scope pos) (some (.Name y py)) spos.line X.env = pure true := by exact sw_true rfl rfl rfl (by decide +kernel))
    (hc : X.calm = true := by rfl) (hs : ∀ x, foldedSetIterable iter X.env x = pure x := by intro _; rfl) : S1 X (.Assign [.Name y py] (.ListComp elt [⟨tg, iter, ifs, 0⟩] scope pos) spos) (dAsg (dNew (dLc ι γ κ τ (own.map (·.2)))) (dName i)) := by
  obtain ⟨ti, i1, i2⟩ := hi
  obtain ⟨g, g1, g2⟩ := hg
  obtain ⟨t, t1, t2⟩ := ht
  refine ⟨_, ps_setLc (te := canE X.K τ) hc hN hy hyl hsw i1 (blkOk_by ok) g1 t1 (fun s H C cl fp => (he s H C cl fp).can) hs, fun σ H δ S w sl F G hn hr hb hct h => ?_⟩
  refine sim_lc i2 g2 t2 sim_can σ H δ S w sl _ _ (fun p H' vs ds S' g h0 hp hs r' q => ?_) h
  have g' := g.own h0 hp hs r'
  exact hn _ H' _ _ g' ((sl.im (g.im w)).set i (d := .rf p) rfl) (q p hs)
/-- a comprehension's target of several names -/
def Gws (X : Cx) (scope : Scope) (vs : List Nat) (ts : List Expr) (γ : GsD) : Prop := ∃ g : TGs, (∀ (s : Shared) (H : Hp) (C : Addr) (cl : List (Str × Addr)) (fp : List Addr), PGs (X.blk s H scope (compEnvC scope cl C X.env) fp) ts g) ∧
  ∀ σ σ0 H δ S us ds, Wd X.K H S → SlOk X.K H σ δ → Reps X.K H ds us → wipe σ vs = wipe σ0 vs → ∀ (Q : Sl → Sh → Prop) (R : L2.St → Hp → Prop), (∀ σ' H' δ' S', wipe σ' vs = wipe σ0 vs → Go X.K S H S' H' → SlOk X.K H' σ' δ' → Q δ' S' → R σ' H') → γ ds δ S Q → g us σ H R
theorem wipe_set_any {σ : L2.St} {x : V} {vs : List Nat} {i : Nat} (hi : i ∈ vs) : wipe (σ.set i (some x)) vs = wipe σ vs := by
  have key : ∀ (vs : List Nat) (τ : L2.St) (j : Nat), (wipe τ vs)[j]? = if j ∈ vs then (if j < τ.length then some none else none) else τ[j]? := by
    intro vs
    induction vs with
    | nil => intro τ j; simp [wipe]
    | cons v vs ih =>
      intro τ j
      unfold wipe
      by_cases h : v = j
      · subst h
        rw [List.getElem?_set_self', ih]
        by_cases h2 : v ∈ vs
        · simp [h2]
        · simp [h2]
          by_cases h3 : v < τ.length
          · simp [h3]
          · simp [h3]
      · rw [List.getElem?_set_ne h, ih]
        have : j ≠ v := fun z => h z.symm
        simp [this]
  apply List.ext_getElem?
  intro j
  rw [key, key, List.length_set]
  by_cases h : j ∈ vs
  · simp only [h, if_true]
  · simp only [h, if_false]
    have : i ≠ j := fun z => h (z ▸ hi)
    rw [List.getElem?_set_ne this]
theorem gws_nil {scope : Scope} {vs : List Nat} : Gws X scope vs [] dGnil := ⟨gNil, fun _ _ _ _ _ => pgs_nil, fun σ σ0 H δ S us ds w sl r e Q R k h => by
  cases ds with
  | nil => exact ⟨r, k σ H δ S e (Go.refl w) sl h⟩
  | cons _ _ => exact False.elim h⟩
theorem gws_cons (i : Nat) {scope : Scope} {vs : List Nat} {ts : List Expr} {γs : GsD} (hN : X.N.Nodup) (h2 : Gws X scope vs ts γs) (hi : X.N[i]? = some x := by rfl) (hm : i ∈ vs := by decide)
    (hx : ∀ (s : Shared) (H : Hp) (C : Addr) (cl : List (Str × Addr)) (fp : List Addr), Loc (X.blk s H scope (compEnvC scope cl C X.env) fp).env.scope x := by intro _ _ _ _ _; first | exact Or.inl rfl | exact Or.inr rfl)
    (hf : ∀ (s : Shared) (H : Hp) (C : Addr) (cl : List (Str × Addr)) (fp : List Addr), (X.blk s H scope (compEnvC scope cl C X.env) fp).fn x = true ∨ (X.blk s H scope (compEnvC scope cl C X.env) fp).env.scope.names.lookup x = some .local := by intro _ _ _ _ _; first | exact .inr rfl | exact .inl rfl)
    (hs : ∀ (s : Shared) (H : Hp) (C : Addr) (cl : List (Str × Addr)) (fp : List Addr), (assignEach (.Name x pos :: ts) (X.blk s H scope (compEnvC scope cl C X.env) fp).env).map (·.2) = assign (.Name x pos) (X.blk s H scope (compEnvC scope cl C X.env) fp).env :: (assignEach ts (X.blk s H scope (compEnvC scope cl C X.env) fp).env).map (·.2) := by intro _ _ _ _ _; rfl) :
    Gws X scope vs (.Name x pos :: ts) (dGcons (dName i) γs) := by
  obtain ⟨g, b1, b2⟩ := h2
  refine ⟨gCons (gName i) g, fun s H C cl fp => pgs_cons (pg_name hN hi (hx s H C cl fp) (hf s H C cl fp)) (b1 s H C cl fp) (hs s H C cl fp), fun σ σ0 H δ S us ds w sl r e Q R k h => ?_⟩
  cases ds with
  | nil => exact False.elim h
  | cons d ds =>
    obtain ⟨v, rr, rfl, rv, rs⟩ := r
    exact ⟨v, rr, rfl, b2 _ σ0 H _ S rr ds w (sl.set i rv) rs (by rw [wipe_set_any hm]; exact e) Q R k h⟩
theorem wipe_idem {σ : L2.St} : ∀ {vs : List Nat}, wipe (wipe σ vs) vs = wipe σ vs := by
  have key : ∀ (vs : List Nat) (τ : L2.St) (j : Nat), (wipe τ vs)[j]? = if j ∈ vs then (if j < τ.length then some none else none) else τ[j]? := by
    intro vs
    induction vs with
    | nil => intro τ j; simp [wipe]
    | cons v vs ih =>
      intro τ j
      unfold wipe
      by_cases h : v = j
      · subst h
        rw [List.getElem?_set_self', ih]
        by_cases h2 : v ∈ vs
        · simp [h2]
        · simp [h2]
          by_cases h3 : v < τ.length
          · simp [h3]
          · simp [h3]
      · rw [List.getElem?_set_ne h, ih]
        have : j ≠ v := fun z => h z.symm
        simp [this]
  intro vs
  apply List.ext_getElem?
  intro j
  rw [key, key, wipe_length]
  by_cases h : j ∈ vs
  · simp only [h, if_true]
  · simp only [h, if_false]
theorem gw_tup {k n : Nat} {scope : Scope} {vs : List Nat} {ts : List Expr} {γs : GsD} (h : Gws X scope vs ts γs) (hc : X.calm = true := by rfl)
    (hn : ∀ (s : Shared) (H : Hp) (C : Addr) (cl : List (Str × Addr)) (fp : List Addr), (assignEach ts (X.blk s H scope (compEnvC scope cl C X.env) fp).env).length = n := by intro _ _ _ _ _; rfl)
    (hst : ∀ (s : Shared) (H : Hp) (C : Addr) (cl : List (Str × Addr)) (fp : List Addr), (assignEach ts (X.blk s H scope (compEnvC scope cl C X.env) fp).env).findIdx? (·.1) = none := by intro _ _ _ _ _; rfl) : Gw X scope vs (.Tuple ts k pos) (dGtup γs n) := by
  obtain ⟨g, b1, b2⟩ := h
  refine ⟨gTup X.K n g, fun s H C cl fp => pg_tup hc (b1 s H C cl fp) (hn s H C cl fp) (hst s H C cl fp), fun σ H δ S v d w sl rv Q R k h => ?_⟩
  cases d with
  | tup ds =>
    obtain ⟨a, us, rfl, hq, rs⟩ := rv
    exact ⟨a, us, rfl, hq, by rw [← rs.length]; exact h.1, b2 _ (wipe σ vs) H _ S us ds w sl rs rfl Q R (fun σ' H' δ' S' e => k σ' H' δ' S' (e.trans wipe_idem)) h.2⟩
  | _ => exact False.elim h
end

/-! ### the text's defs behind the top -/
structure Def (K : PySem.W.Frag) (mg : Str → Option Value) (name : Str) (st : Stmt) (ps : List Str) (f : Addr) (fd : FuncData) : Prop where
  fn : Fun K name name st f fd
  mg : mg name = some (.ref f)
  bi : Binds K fd ps []
structure MDef (K : PySem.W.Frag) (name qual : Str) (st : Stmt) (ps : List Str) (f : Addr) (fd : FuncData) : Prop where
  fn : Fun K name qual st f fd
  bi : Binds K fd ps []
theorem only_frz {K : PySem.W.Frag} {H : Hp} {a : Addr} {ns : List Int} (h : Only H) (hs : SqL K H a (ns.map V.int)) : Rep K H (.frz (ns.map D.int)) (.ref a) := by
  refine ⟨a, ns.map V.int, rfl, ?_, Reps.of_ints⟩
  rcases hs with (hs | ⟨o, hs⟩) | hs
  · rcases h a with z | ⟨o, xs, z⟩
    · rw [hs] at z; cases z
    · rw [hs] at z; cases z
  · exact .inl ⟨o, hs⟩
  · exact .inr hs
/-- the law's promise -/
def sp_law : SpD := fun ds S Q => (∃ ns : List Int, ds = [.frz (ns.map D.int)] ∧ ns.length ≤ 63) ∧ Q (.bl true) (fun _ => none)
theorem law_start {K : PySem.W.Frag} {H : Hp} {a : Addr} {ns : List Int} (hl : ns.length ≤ 63) (h : Only H) (hs : SqL K H a (ns.map V.int)) : lift K 1 sp_law [.ref a] H (fun v _ => v = .bl true) fun _ _ _ => False := by
  refine ⟨fun _ => none, [.frz (ns.map D.int)], fun _ _ e => (by cases e), ⟨_, _, rfl, only_frz h hs, rfl⟩, rfl, fun d _ => d = .bl true, fun v H' d S' _ r e => ?_, ⟨ns, rfl, hl⟩, rfl⟩
  subst e
  exact r
end DL

set_option Elab.async false
set_option linter.all false
set_option maxRecDepth 100000
namespace DL
open PySem PySem.Spec L2
/-! ### loops over data -/
theorem loop_inv {γ : GD} {τ : SD} {F : EndsD} {ck : Sh → Prop} (Iv : List D → Sl → Sh → Prop)
    (hs : ∀ x xs δ S (N : Sl → Sh → Prop), Iv (x :: xs) δ S → (∀ δ' S', Iv xs δ' S' → N δ' S') → γ x δ S fun δ1 S1 => τ { F with nx := N, ct := N, bk := F.nx } δ1 S1)
    (hc : ∀ xs δ S, Iv xs δ S → ck S) (hd : ∀ δ S, Iv [] δ S → F.nx δ S) : ∀ xs δ S, Iv xs δ S → dLoop γ τ F ck xs δ S
  | [], δ, S, h => hd δ S h
  | x :: xs, δ, S, h => hs x xs δ S _ h fun δ' S' h' => ⟨hc xs δ' S' h', loop_inv Iv hs hc hd xs δ' S' h'⟩
/-- by the part that is done -/
theorem loop_pre {γ : GD} {τ : SD} {F : EndsD} {ck : Sh → Prop} {all : List D} (Iv : List D → Sl → Sh → Prop) {δ : Sl} {S : Sh} (h0 : Iv [] δ S)
    (hs : ∀ pre x post, all = pre ++ x :: post → ∀ δ S (N : Sl → Sh → Prop), Iv pre δ S → (∀ δ' S', Iv (pre ++ [x]) δ' S' → N δ' S') → γ x δ S fun δ1 S1 => τ { F with nx := N, ct := N, bk := F.nx } δ1 S1)
    (hc : ∀ pre δ S, Iv pre δ S → ck S) (hd : ∀ δ S, Iv all δ S → F.nx δ S) : dLoop γ τ F ck all δ S := by
  refine loop_inv (fun rest δ S => ∃ pre, all = pre ++ rest ∧ Iv pre δ S) ?_ ?_ ?_ all δ S ⟨[], rfl, h0⟩
  · rintro x xs δ S N ⟨pre, e, h⟩ hN
    exact hs pre x xs e δ S N h fun δ' S' h' => hN δ' S' ⟨pre ++ [x], by rw [e, List.append_assoc]; rfl, h'⟩
  · rintro xs δ S ⟨pre, e, h⟩
    exact hc pre δ S h
  · rintro δ S ⟨pre, e, h⟩
    rw [List.append_nil] at e
    subst e
    exact hd δ S h
theorem wh_inv {κ : TD} {τ : SD} {F : EndsD} (Iv : Nat → Sl → Sh → Prop)
    (hs : ∀ n δ S (N : Sl → Sh → Prop), Iv n δ S → (∀ m δ' S', m < n → Iv m δ' S' → N δ' S') → κ δ S fun b S1 => if b = true then τ { F with nx := N, ct := N, bk := F.nx } δ S1 else F.nx δ S1) :
    ∀ n δ S k, Iv n δ S → n < k → dWh κ τ F k δ S := by
  intro n
  induction n using Nat.strongRecOn with
  | ind n ih =>
    intro δ S k h hk
    cases k with
    | zero => omega
    | succ k => exact hs n δ S _ h fun m δ' S' hm h' => ih m hm δ' S' k h' (by omega)
theorem while_inv {κ : TD} {τ : SD} {F : EndsD} (Iv : Nat → Sl → Sh → Prop) {n : Nat} {δ : Sl} {S : Sh} (h0 : Iv n δ S)
    (hs : ∀ n δ S (N : Sl → Sh → Prop), Iv n δ S → (∀ m δ' S', m < n → Iv m δ' S' → N δ' S') → κ δ S fun b S1 => if b = true then τ { F with nx := N, ct := N, bk := F.nx } δ S1 else F.nx δ S1) : dWhile κ τ F δ S :=
  ⟨n + 1, wh_inv Iv hs n δ S _ h0 (Nat.lt_succ_self n)⟩
theorem comp_inv {γ : GD} {κ : TD} {τ : ED} {δ : Sl} {ck : Sh → Prop} {Q : List D → Sh → Prop} (Iv : List D → List D → Sh → Prop)
    (hs : ∀ x xs acc S (Y : D → Sh → Prop) (Z : Sh → Prop), Iv (x :: xs) acc S → (∀ d S', Iv xs (acc ++ [d]) S' → acc.length < sizeLine → Y d S') → (∀ S', Iv xs acc S' → Z S') → γ x δ S fun δ1 S1 => κ δ1 S1 fun b S2 => if b = true then τ δ1 S2 Y else Z S2)
    (hl : ∀ x xs acc S, Iv (x :: xs) acc S → acc.length < sizeLine) (hc : ∀ xs acc S, Iv xs acc S → ck S) (hd : ∀ acc S, Iv [] acc S → Q acc S) : ∀ xs acc S, Iv xs acc S → dComp γ κ τ δ ck Q xs acc S
  | [], acc, S, h => hd acc S h
  | x :: xs, acc, S, h => hs x xs acc S (fun d S3 => acc.length < sizeLine ∧ ck S3 ∧ dComp γ κ τ δ ck Q xs (acc ++ [d]) S3) (fun S2 => ck S2 ∧ dComp γ κ τ δ ck Q xs acc S2) h
      (fun d S' h' hl' => ⟨hl', hc _ _ _ h', comp_inv Iv hs hl hc hd xs (acc ++ [d]) S' h'⟩) fun S' h' => ⟨hc _ _ _ h', comp_inv Iv hs hl hc hd xs acc S' h'⟩
/-- no test, elements that change nothing -/
theorem comp_map {γ : GD} {τ : ED} {δ : Sl} {ck : Sh → Prop} {Q : List D → Sh → Prop} (f : D → D) {S : Sh} (hc : ck S) : ∀ (xs acc : List D), (∀ x ∈ xs, ∀ R : QD, R (f x) S → γ x δ S fun δ1 S1 => τ δ1 S1 R) → acc.length + xs.length ≤ sizeLine → Q (acc ++ xs.map f) S →
    dComp γ dYes τ δ ck Q xs acc S
  | [], acc, _, _, q => by rw [List.map_nil, List.append_nil] at q; exact q
  | x :: xs, acc, h, hl, q => by
    rw [List.length_cons] at hl
    refine h x List.mem_cons_self _ ⟨by omega, hc, comp_map f hc xs (acc ++ [f x]) (fun y hy => h y (List.mem_cons_of_mem _ hy)) (by rw [List.length_append, List.length_singleton]; omega) ?_⟩
    rw [List.append_assoc]
    exact q
/-- with a test -/
theorem comp_filter {γ : GD} {κ : TD} {τ : ED} {δ : Sl} {ck : Sh → Prop} {Q : List D → Sh → Prop} (p : D → Bool) (f : D → D) {S : Sh} (hc : ck S) : ∀ (xs acc : List D),
    (∀ x ∈ xs, ∀ (Y : QD) (Z : Sh → Prop), (p x = true → Y (f x) S) → (p x = false → Z S) → γ x δ S fun δ1 S1 => κ δ1 S1 fun b S2 => if b = true then τ δ1 S2 Y else Z S2) → acc.length + xs.length ≤ sizeLine → Q (acc ++ (xs.filter p).map f) S →
    dComp γ κ τ δ ck Q xs acc S
  | [], acc, _, _, q => by rw [List.filter_nil, List.map_nil, List.append_nil] at q; exact q
  | x :: xs, acc, h, hl, q => by
    rw [List.length_cons] at hl
    refine h x List.mem_cons_self _ _ (fun e => ?_) (fun e => ?_)
    · refine ⟨by omega, hc, comp_filter p f hc xs (acc ++ [f x]) (fun y hy => h y (List.mem_cons_of_mem _ hy)) (by rw [List.length_append, List.length_singleton]; omega) ?_⟩
      rw [List.filter_cons, if_pos e, List.map_cons] at q
      rw [List.append_assoc]
      exact q
    · refine ⟨hc, comp_filter p f hc xs acc (fun y hy => h y (List.mem_cons_of_mem _ hy)) (by omega) ?_⟩
      rw [List.filter_cons, if_neg (by rw [e]; exact Bool.false_ne_true)] at q
      exact q
/-- elements that may do more: each satisfies P, the objects stay in Iv -/
theorem comp_all {γ : GD} {τ : ED} {δ : Sl} {ck : Sh → Prop} {Q : List D → Sh → Prop} (P : D → Prop) (Iv : Sh → Prop) (hck : ∀ S, Iv S → ck S) (hs : ∀ (xs : List D) (x : D), x ∈ xs → ∀ S, Iv S → ∀ R : QD, (∀ d S', P d → Iv S' → R d S') → γ x δ S fun δ1 S1 => τ δ1 S1 R) :
    ∀ (xs acc : List D) (S : Sh), Iv S → (∀ d ∈ acc, P d) → acc.length + xs.length ≤ sizeLine → (∀ ds S', ds.length = acc.length + xs.length → (∀ d ∈ ds, P d) → Iv S' → Q ds S') → dComp γ dYes τ δ ck Q xs acc S
  | [], acc, S, hi, ha, _, q => q acc S (by simp) ha hi
  | x :: xs, acc, S, hi, ha, hl, q => by
    rw [List.length_cons] at hl
    refine hs (x :: xs) x List.mem_cons_self S hi _ fun d S' hp hi' => ⟨by omega, hck S' hi', comp_all P Iv hck hs xs (acc ++ [d]) S' hi' (fun e he => ?_) (by rw [List.length_append, List.length_singleton]; omega) fun ds S2 e1 e2 e3 => q ds S2 (by rw [e1, List.length_append, List.length_singleton, List.length_cons]; omega) e2 e3⟩
    rcases List.mem_append.mp he with z | z
    · exact ha e z
    · rw [List.mem_singleton.mp z]; exact hp
theorem rng_mem {lo : Int} {n : Nat} {x : D} (h : x ∈ rng lo n) : ∃ i : Nat, i < n ∧ x = .int (lo + i) := by
  unfold rng at h
  obtain ⟨i, hi, rfl⟩ := List.mem_map.mp h
  exact ⟨i, List.mem_range.mp hi, rfl⟩
theorem rng_len (lo : Int) (n : Nat) : (rng lo n).length = n := by unfold rng; simp
theorem rng_split {lo : Int} {n : Nat} {pre post : List D} {x : D} (h : rng lo n = pre ++ x :: post) : x = .int (lo + pre.length) ∧ pre.length < n := by
  have h1 : (rng lo n)[pre.length]? = some x := by rw [h, List.getElem?_append_right (Nat.le_refl _), Nat.sub_self]; rfl
  have hl : pre.length < n := by
    have := congrArg List.length h
    rw [rng_len, List.length_append, List.length_cons] at this
    omega
  unfold rng at h1
  rw [List.getElem?_map, List.getElem?_range hl] at h1
  exact ⟨(Option.some.inj h1).symm, hl⟩
theorem ifb {A B : Prop} {c : Prop} [Decidable c] (h1 : c → A) (h2 : ¬ c → B) : if decide c = true then A else B := by
  by_cases h : c
  · rw [if_pos (decide_eq_true h)]; exact h1 h
  · rw [if_neg (by rw [decide_eq_false h]; exact Bool.false_ne_true)]; exact h2 h
theorem ifB {A B : Prop} {b : Bool} (h1 : b = true → A) (h2 : b = false → B) : if b = true then A else B := by
  cases b
  · exact h2 rfl
  · exact h1 rfl
/-! ### where the readings stop -/
/-- holds the rewriting off what it tags -/
inductive Tag {β : Sort _} (a : β) : Type
  | mk : Tag a
def callK (sp : SpD) (ds : List D) (S : Sh) (Q : QD) (_ : Tag Q) : Prop := sp ds S Q
def loopK (γ : GD) (τ : SD) (F : EndsD) (ck : Sh → Prop) (xs : List D) (δ : Sl) (S : Sh) (_ : Tag γ) (_ : Tag τ) (_ : Tag F) (_ : Tag ck) : Prop := dLoop γ τ F ck xs δ S
def whileK (κ : TD) (τ : SD) (F : EndsD) (δ : Sl) (S : Sh) (_ : Tag κ) (_ : Tag τ) (_ : Tag F) : Prop := dWhile κ τ F δ S
def compK (γ : GD) (κ : TD) (τ : ED) (δ : Sl) (ck : Sh → Prop) (Q : List D → Sh → Prop) (xs acc : List D) (S : Sh) (_ : Tag γ) (_ : Tag κ) (_ : Tag τ) (_ : Tag ck) (_ : Tag Q) : Prop := dComp γ κ τ δ ck Q xs acc S
theorem dCall_k (n : Nat) (sp : SpD) (dv : List D) (a : AD) (δ : Sl) (S : Sh) (Q : QD) : dCall n sp dv a δ S Q = a δ S fun ds S1 => (ds ++ dv).length = n ∧ callK sp (ds ++ dv) S1 Q .mk := rfl
theorem dMeth_k (C : Addr) (m : Str) (n : Nat) (sp : SpD) (a : ED) (l : AD) (δ : Sl) (S : Sh) (Q : QD) : dMeth C m n sp a l δ S Q = a δ S fun x S1 => match x with
  | .rf p => ∃ fs, S1 p = some (.ins C fs) ∧ fs.lookup m = none ∧ l δ S1 fun ds S2 => (x :: ds).length = n ∧ callK sp (x :: ds) S2 Q .mk
  | _ => False := rfl
theorem dMake_k (C : Addr) (n : Nat) (sp : SpD) (l : AD) (δ : Sl) (S : Sh) (Q : QD) : dMake C n sp l δ S Q = l δ S fun ds S1 => ∀ p, S1 p = none → ds.length + 1 = n ∧ callK sp (.rf p :: ds) (su S1 p (.ins C [])) (fun d S2 => (match d with | .non => Q (.rf p) S2 | _ => False)) .mk := rfl
theorem dFor_k (ι : ID) (γ : GD) (τ : SD) (F : EndsD) (δ : Sl) (S : Sh) : dFor ι γ τ F δ S = ι δ S fun xs ck S1 => loopK γ τ F ck xs δ S1 .mk .mk .mk .mk := rfl
theorem dWhile_k (κ : TD) (τ : SD) (F : EndsD) (δ : Sl) (S : Sh) : dWhile κ τ F δ S = whileK κ τ F δ S .mk .mk .mk := rfl
theorem dLc_k (ι : ID) (γ : GD) (κ : TD) (τ : ED) (vs : List Nat) (δ : Sl) (S : Sh) (Q : List D → Sh → Prop) : dLc ι γ κ τ vs δ S Q = ι δ S fun xs ck S1 => compK γ κ τ (dWipe δ vs) ck Q xs [] S1 .mk .mk .mk .mk .mk := rfl
end DL

set_option Elab.async false
set_option linter.all false
set_option maxRecDepth 100000
namespace DL
open PySem PySem.Spec L2 PySem.StrLaws PySem.Builtin PySem.Builtin.Str
/-! ### the first place of a sign in a window -/
theorem occ_full (s sub : Str) (hi : Nat) : ∀ (l : List Nat) (st : Array Nat × Nat), 1 ≤ st.fst.size → (forIn l st (occBody s sub hi 1)).run.fst = st.fst
  | [], st, h => rfl
  | a :: l, st, h => by
    rw [List.forIn_cons]
    unfold occBody
    rw [if_neg (by rintro ⟨⟨⟨h1, _⟩, _⟩, _⟩; omega)]
    exact occ_full s sub hi l (st.fst, st.snd) h
theorem occ_find (s sub : Str) (hi : Nat) : ∀ (l : List Nat) (free : Nat), (∀ i ∈ l, free ≤ i) →
    (forIn l ((#[] : Array Nat), free) (occBody s sub hi 1)).run.fst.toList = (l.find? fun i => decide (i + sub.length ≤ hi ∧ subAt s sub i = true)).toList
  | [], free, _ => rfl
  | a :: l, free, hf => by
    rw [List.forIn_cons]
    unfold occBody
    have ha : free ≤ a := hf a (List.mem_cons_self ..)
    by_cases hc : a + sub.length ≤ hi ∧ subAt s sub a = true
    · rw [if_pos ⟨⟨⟨by simp, ha⟩, hc.1⟩, hc.2⟩, List.find?_cons_of_pos (by simpa using hc)]
      exact congrArg Array.toList (occ_full s sub hi l _ (by simp))
    · rw [if_neg (fun h => hc ⟨h.1.2, h.2⟩), List.find?_cons_of_neg (by simpa using hc)]
      exact occ_find s sub hi l free fun i hi' => hf i (List.mem_cons_of_mem _ hi')
theorem occ_one (s sub : Str) (lo hi : Nat) : occurrences s sub lo hi 1 = ((List.range' lo (hi + 1 - lo)).find? fun i => decide (i + sub.length ≤ hi ∧ subAt s sub i = true)).toList := by
  rw [occ_eq]
  exact occ_find s sub hi _ lo fun i hi' => by
    obtain ⟨h1, _⟩ := List.mem_range'_1.mp hi'
    exact h1
theorem subAt_c (t : List Nat) (c i : Nat) : subAt (tx t) (tx [c]) i = true ↔ t[i]? = some c := by
  rw [subAt_eq]
  exact take1_drop
theorem find4_some {t : List Nat} {c a e k : Nat} (h1 : t[k]? = some c) (ha : a ≤ k) (he : k < e) (hm : ∀ j, a ≤ j → j < k → t[j]? ≠ some c) : Txt.findIn (tx t) (tx [c]) a e = k := by
  have hk : k < t.length := (List.getElem?_eq_some_iff.mp h1).1
  have f : fromIndex (tx t).length a = a := by unfold fromIndex; rw [if_neg (by omega)]; omega
  have g : toIndexW (tx t).length e = min e t.length := by unfold toIndexW; rw [if_neg (by omega)]; show min _ (t.toArray.size) = _; rw [List.size_toArray]; omega
  have hf : ((List.range' a (min e t.length + 1 - a)).find? fun i => decide (i + (tx [c]).length ≤ min e t.length ∧ subAt (tx t) (tx [c]) i = true)) = some k := by
    rw [List.find?_eq_some_iff_getElem]
    refine ⟨decide_eq_true ⟨by show k + 1 ≤ _; omega, (subAt_c t c k).mpr h1⟩, k - a, by rw [List.length_range']; omega, by rw [List.getElem_range']; omega, fun j hj => ?_⟩
    rw [List.getElem_range', Bool.not_eq_true', decide_eq_false_iff_not]
    rintro ⟨_, h3⟩
    exact hm (a + 1 * j) (by omega) (by omega) ((subAt_c t c _).mp h3)
  unfold Txt.findIn
  rw [f, g, occ_one, hf]
  rfl
theorem find4_none {t : List Nat} {c a e : Nat} (ha : a ≤ t.length) (hm : ∀ j, a ≤ j → j < e → t[j]? ≠ some c) : Txt.findIn (tx t) (tx [c]) a e = -1 := by
  have f : fromIndex (tx t).length a = a := by unfold fromIndex; rw [if_neg (by omega)]; omega
  have g : toIndexW (tx t).length e = min e t.length := by unfold toIndexW; rw [if_neg (by omega)]; show min _ (t.toArray.size) = _; rw [List.size_toArray]; omega
  have hf : ((List.range' a (min e t.length + 1 - a)).find? fun i => decide (i + (tx [c]).length ≤ min e t.length ∧ subAt (tx t) (tx [c]) i = true)) = none := by
    rw [List.find?_eq_none]
    intro i hi
    obtain ⟨h1, h2⟩ := List.mem_range'_1.mp hi
    rw [decide_eq_true_eq]
    rintro ⟨h3, h4⟩
    have h3' : i + 1 ≤ min e t.length := h3
    exact hm i (by omega) (by omega) ((subAt_c t c _).mp h4)
  unfold Txt.findIn
  rw [f, g, occ_one, hf]
  rfl
/-! ### fields, read on the spot -/
theorem dFld_m (C : Addr) (a : ED) (f : Str) (δ : Sl) (S : Sh) (Q : QD) : dFld C a f δ S Q = a δ S fun x S1 => match x with
  | .rf p => (match S1 p with | some (.ins C' fs) => C' = C ∧ (match fs.lookup f with | some d => Q d S1 | none => False) | _ => False)
  | _ => False := by
  unfold dFld
  congr 1
  funext x S1
  cases x <;> try rfl
  rename_i p
  refine propext ⟨?_, ?_⟩
  · rintro ⟨fs, d, h1, h2, h3⟩
    show (match S1 p with | some (.ins C' fs) => C' = C ∧ (match fs.lookup f with | some d => Q d S1 | none => False) | _ => False)
    rw [h1]
    refine ⟨rfl, ?_⟩
    rw [h2]
    exact h3
  · intro h
    have h' : (match S1 p with | some (.ins C' fs) => C' = C ∧ (match fs.lookup f with | some d => Q d S1 | none => False) | _ => False) := h
    split at h'
    · rename_i C' fs e
      obtain ⟨rfl, h2⟩ := h'
      split at h2
      · rename_i d e2
        exact ⟨fs, d, e, e2, h2⟩
      · exact h2.elim
    · exact h'.elim
theorem dSetF_m (C : Addr) (a v : ED) (f : Str) (F : EndsD) (δ : Sl) (S : Sh) : dSetF C a v f F δ S = v δ S fun y S1 => a δ S1 fun x S2 => match x with
  | .rf p => (match S2 p with | some (.ins C' fs) => C' = C ∧ fs.length < 1000 ∧ F.nx δ (su S2 p (.ins C (putFD f y fs))) | _ => False)
  | _ => False := by
  unfold dSetF
  congr 1
  funext y S1
  congr 1
  funext x S2
  cases x <;> try rfl
  rename_i p
  refine propext ⟨?_, ?_⟩
  · rintro ⟨fs, h1, h2, h3⟩
    show (match S2 p with | some (.ins C' fs) => C' = C ∧ fs.length < 1000 ∧ F.nx δ (su S2 p (.ins C (putFD f y fs))) | _ => False)
    rw [h1]
    exact ⟨rfl, h2, h3⟩
  · intro h
    have h' : (match S2 p with | some (.ins C' fs) => C' = C ∧ fs.length < 1000 ∧ F.nx δ (su S2 p (.ins C (putFD f y fs))) | _ => False) := h
    split at h'
    · rename_i C' fs e
      obtain ⟨rfl, h2⟩ := h'
      exact ⟨fs, e, h2⟩
    · exact h'.elim
theorem dMeth_m (C : Addr) (m : Str) (n : Nat) (sp : SpD) (a : ED) (l : AD) (δ : Sl) (S : Sh) (Q : QD) : dMeth C m n sp a l δ S Q = a δ S fun x S1 => match x with
  | .rf p => (match S1 p with | some (.ins C' fs) => C' = C ∧ fs.lookup m = none ∧ l δ S1 fun ds S2 => (x :: ds).length = n ∧ callK sp (x :: ds) S2 Q .mk | _ => False)
  | _ => False := by
  unfold dMeth
  congr 1
  funext x S1
  cases x <;> try rfl
  rename_i p
  refine propext ⟨?_, ?_⟩
  · rintro ⟨fs, h1, h2, h3⟩
    show (match S1 p with | some (.ins C' fs) => C' = C ∧ fs.lookup m = none ∧ l δ S1 fun ds S2 => (D.rf p :: ds).length = n ∧ callK sp (D.rf p :: ds) S2 Q .mk | _ => False)
    rw [h1]
    exact ⟨rfl, h2, h3⟩
  · intro h
    have h' : (match S1 p with | some (.ins C' fs) => C' = C ∧ fs.lookup m = none ∧ l δ S1 fun ds S2 => (D.rf p :: ds).length = n ∧ callK sp (D.rf p :: ds) S2 Q .mk | _ => False) := h
    split at h'
    · rename_i C' fs e
      obtain ⟨rfl, h2⟩ := h'
      exact ⟨fs, e, h2⟩
    · exact h'.elim
end DL

set_option Elab.async false
set_option linter.all false
set_option maxRecDepth 100000

namespace LW
open PySem PySem.Spec L2 DL

def top (i : Nat) : Stmt := PySem.Challenge.pw_oncemail_k42_talk_commands_whole.main.body.getD i (.Pass ⟨0, 0, 0, 0⟩)
abbrev s_ListenerU_initU : Stmt := (inClass (top 2) 0)
abbrev s_Listener_hear : Stmt := (inClass (top 2) 1)
abbrev s_Listener_faulty : Stmt := (inClass (top 2) 2)
abbrev s_ListenerUfault : Stmt := (inClass (top 2) 3)
abbrev s_ListenerUhear_line : Stmt := (inClass (top 2) 4)
abbrev s_ListenerUhear_literal : Stmt := (inClass (top 2) 5)
abbrev s_read_length : Stmt := (top 3)
abbrev s_read_number : Stmt := (top 4)
abbrev s_say : Stmt := (top 5)
abbrev s_llaw_cell : Stmt := (top 7)
abbrev s_llaw_digits : Stmt := (top 8)
abbrev s_llaw_draw : Stmt := (top 9)
abbrev s_llaw_same : Stmt := (top 10)
abbrev s_llaw_command : Stmt := (top 11)
abbrev s_llaw_signs : Stmt := (top 12)
abbrev s_llaw_wrong : Stmt := (top 13)
abbrev s_law : Stmt := (top 14)
abbrev N_ListenerU_initU : List Str := ["self", "most"]
abbrev P_ListenerU_initU : List Str := ["self", "most"]
theorem sc_ListenerU_initU : FnScope N_ListenerU_initU P_ListenerU_initU (defScope s_ListenerU_initU) := ⟨rfl, rfl, rfl, by decide +kernel, rfl, by decide +kernel, by decide +kernel⟩
abbrev N_Listener_hear : List Str := ["self", "text", "commands", "going"]
abbrev P_Listener_hear : List Str := ["self", "text"]
theorem sc_Listener_hear : FnScope N_Listener_hear P_Listener_hear (defScope s_Listener_hear) := ⟨rfl, rfl, rfl, by decide +kernel, rfl, by decide +kernel, by decide +kernel⟩
abbrev N_Listener_faulty : List Str := ["self"]
abbrev P_Listener_faulty : List Str := ["self"]
theorem sc_Listener_faulty : FnScope N_Listener_faulty P_Listener_faulty (defScope s_Listener_faulty) := ⟨rfl, rfl, rfl, by decide +kernel, rfl, by decide +kernel, by decide +kernel⟩
abbrev N_ListenerUfault : List Str := ["self"]
abbrev P_ListenerUfault : List Str := ["self"]
theorem sc_ListenerUfault : FnScope N_ListenerUfault P_ListenerUfault (defScope s_ListenerUfault) := ⟨rfl, rfl, rfl, by decide +kernel, rfl, by decide +kernel, by decide +kernel⟩
abbrev N_ListenerUhear_line : List Str := ["self", "commands", "end", "words", "many"]
abbrev P_ListenerUhear_line : List Str := ["self", "commands"]
theorem sc_ListenerUhear_line : FnScope N_ListenerUhear_line P_ListenerUhear_line (defScope s_ListenerUhear_line) := ⟨rfl, rfl, rfl, by decide +kernel, rfl, by decide +kernel, by decide +kernel⟩
abbrev N_ListenerUhear_literal : List Str := ["self", "commands", "end"]
abbrev P_ListenerUhear_literal : List Str := ["self", "commands"]
theorem sc_ListenerUhear_literal : FnScope N_ListenerUhear_literal P_ListenerUhear_literal (defScope s_ListenerUhear_literal) := ⟨rfl, rfl, rfl, by decide +kernel, rfl, by decide +kernel, by decide +kernel⟩
abbrev N_read_length : List Str := ["word"]
abbrev P_read_length : List Str := ["word"]
theorem sc_read_length : FnScope N_read_length P_read_length (defScope s_read_length) := ⟨rfl, rfl, rfl, by decide +kernel, rfl, by decide +kernel, by decide +kernel⟩
abbrev N_read_number : List Str := ["word"]
abbrev P_read_number : List Str := ["word"]
theorem sc_read_number : FnScope N_read_number P_read_number (defScope s_read_number) := ⟨rfl, rfl, rfl, by decide +kernel, rfl, by decide +kernel, by decide +kernel⟩
abbrev N_say : List Str := ["words", "literal", "length"]
abbrev P_say : List Str := ["words", "literal"]
theorem sc_say : FnScope N_say P_say (defScope s_say) := ⟨rfl, rfl, rfl, by decide +kernel, rfl, by decide +kernel, by decide +kernel⟩
abbrev N_llaw_cell : List Str := ["script", "k"]
abbrev P_llaw_cell : List Str := ["script", "k"]
theorem sc_llaw_cell : FnScope N_llaw_cell P_llaw_cell (defScope s_llaw_cell) := ⟨rfl, rfl, rfl, by decide +kernel, rfl, by decide +kernel, by decide +kernel⟩
abbrev N_llaw_digits : List Str := ["script", "first", "last", "digits", "k", "cell", "turn", "seed"]
abbrev P_llaw_digits : List Str := ["script", "first", "last"]
theorem sc_llaw_digits : FnScope N_llaw_digits P_llaw_digits (defScope s_llaw_digits) := ⟨rfl, rfl, rfl, by decide +kernel, rfl, by decide +kernel, by decide +kernel⟩
abbrev N_llaw_draw : List Str := ["box", "many", "at"]
abbrev P_llaw_draw : List Str := ["box", "many"]
theorem sc_llaw_draw : FnScope N_llaw_draw P_llaw_draw (defScope s_llaw_draw) := ⟨rfl, rfl, rfl, by decide +kernel, rfl, by decide +kernel, by decide +kernel⟩
abbrev N_llaw_same : List Str := ["actual", "due", "k"]
abbrev P_llaw_same : List Str := ["actual", "due"]
theorem sc_llaw_same : FnScope N_llaw_same P_llaw_same (defScope s_llaw_same) := ⟨rfl, rfl, rfl, by decide +kernel, rfl, by decide +kernel, by decide +kernel⟩
abbrev N_llaw_command : List Str := ["box", "many", "words", "literal", "k", "word"]
abbrev P_llaw_command : List Str := ["box"]
theorem sc_llaw_command : FnScope N_llaw_command P_llaw_command (defScope s_llaw_command) := ⟨rfl, rfl, rfl, by decide +kernel, rfl, by decide +kernel, by decide +kernel⟩
abbrev N_llaw_signs : List Str := ["command"]
abbrev P_llaw_signs : List Str := ["command"]
theorem sc_llaw_signs : FnScope N_llaw_signs P_llaw_signs (defScope s_llaw_signs) := ⟨rfl, rfl, rfl, by decide +kernel, rfl, by decide +kernel, by decide +kernel⟩
abbrev N_llaw_wrong : List Str := ["box", "most", "kind", "text", "line"]
abbrev P_llaw_wrong : List Str := ["box", "most"]
theorem sc_llaw_wrong : FnScope N_llaw_wrong P_llaw_wrong (defScope s_llaw_wrong) := ⟨rfl, rfl, rfl, by decide +kernel, rfl, by decide +kernel, by decide +kernel⟩
abbrev N_law : List Str := ["script", "box", "most", "commands", "command", "fault", "cuts", "listener", "heard", "cut", "ends", "text", "wrong", "told", "due", "k"]
abbrev P_law : List Str := ["script"]
theorem sc_law : FnScope N_law P_law (defScope s_law) := ⟨rfl, rfl, rfl, by decide +kernel, rfl, by decide +kernel, by decide +kernel⟩
end LW

set_option Elab.async false
set_option linter.all false
set_option maxRecDepth 100000
namespace LW
open PySem PySem.Spec L2 DL
/-! ### what every law shares -/
def sp_llaw_cell : SpD := fun ds S Q => ∃ (ns : List Int) (k : Int), ds = [.frz (ns.map D.int), .int k] ∧ 0 ≤ k ∧ ∀ i, Q (.int i) S
def Dig (gs : List Int) : Prop := (∀ g ∈ gs, 0 ≤ g ∧ g < 1000) ∧ gs.length ≤ 100000
def sp_llaw_digits : SpD := fun ds S Q => ∃ (ns : List Int), ds = [.frz (ns.map D.int), .int 0, .int 63] ∧ ∀ gs p, Dig gs → S p = none → Q (.rf p) (su S p (.lst (gs.map D.int)))
/-- the box of draws stands at b -/
def Box (S : Sh) (b : Addr) : Prop := ∃ (dg : Addr) (gs : List Int) (at' : Int), S b = some (.lst [.rf dg, .int at']) ∧ S dg = some (.lst (gs.map D.int)) ∧ Dig gs ∧ 0 ≤ at' ∧ dg ≠ b
/-- draws alone: nothing else has changed -/
def Bx (b : Addr) (S S' : Sh) : Prop := Box S' b ∧ ∀ p, p ≠ b → S' p = S p
def sp_llaw_draw : SpD := fun ds S Q => ∃ (b : Addr) (m : Int), ds = [.rf b, .int m] ∧ 0 < m ∧ Box S b ∧ ∀ r S', 0 ≤ r → r < m → Bx b S S' → Q (.int r) S'
theorem Bx.trans {b : Addr} {S S1 S2 : Sh} (a : Bx b S S1) (c : Bx b S1 S2) : Bx b S S2 := ⟨c.1, fun p h => (c.2 p h).trans (a.2 p h)⟩
theorem Bx.refl {b : Addr} {S : Sh} (h : Box S b) : Bx b S S := ⟨h, fun _ _ => rfl⟩
/-! strict equality -/
mutual
def deq : D → D → Bool
  | .non, .non => true
  | .bl a, .bl b => a == b
  | .int a, .int b => a == b
  | .str a, .str b => a == b
  | .tup a, .tup b => deqs a b
  | _, _ => false
def deqs : List D → List D → Bool
  | [], [] => true
  | x :: xs, y :: ys => deq x y && deqs xs ys
  | _, _ => false
end
/-! plain data -/
mutual
def pln : D → Bool
  | .non => true | .bl _ => true | .int _ => true | .str _ => true | .tup xs => plns xs | _ => false
def plns : List D → Bool
  | [] => true
  | x :: xs => pln x && plns xs
end
mutual
def dep : D → Nat
  | .tup xs => deps xs + 1
  | _ => 0
def deps : List D → Nat
  | [] => 0
  | x :: xs => max (dep x) (deps xs)
end
/-! no tuple is longer than what may be walked -/
mutual
def szd : D → Bool
  | .tup xs => decide (xs.length < 2 ^ 62) && szds xs
  | _ => true
def szds : List D → Bool
  | [] => true
  | x :: xs => szd x && szds xs
end
def sp_same (n : Nat) : SpD := fun ds S Q => ∃ a d, ds = [a, d] ∧ pln a = true ∧ pln d = true ∧ szd d = true ∧ dep d < n ∧ Q (.bl (deq a d)) S
/-! ### the listener -/
abbrev Wds := List (List Nat)
abbrev Md := Option (Wds × Nat)
def sD (ws : Wds) : D := .tup (ws.map D.str)
def cnt (n : Nat) : List Nat := 123 :: (decs (n : Int) ++ [125])
def bad6 : Wds := [[123, 48, 49, 125], [123, 45, 49, 125], [123, 125], [123, 49], [123, 49, 125, 98], [123, 49, 50, 51, 52, 53, 54, 125]]
def RL (w : List Nat) (o : Option Nat) : Prop := (∃ n, n < 60 ∧ w = cnt n ∧ o = some n) ∨ (w ∈ bad6 ∧ o = none)
def oD : Option Nat → D
  | some n => .int n
  | none => .non
def mdW : Md → D
  | some (ws, _) => sD ws
  | none => .non
def mdN (n : Int) : Md → Prop
  | some (_, k) => n = (k : Int)
  | none => True
abbrev jn (ws : Wds) : List Nat := TL.joinL [32] ws
structure Lin (ws : Wds) : Prop where
  ne : ws ≠ []
  bl : ∀ w ∈ ws, 32 ∉ w ∧ 10 ∉ w
  le : (jn ws).length ≤ 2000
inductive StR
  | wait | fault
  | next (o : List D) (md : Md) (r : List Nat)
inductive Step (m : Int) : Md → List Nat → StR → Prop
  | wl (r : List Nat) : 10 ∉ r → r.length ≤ 2000 → Step m none r .wait
  | fl (r : List Nat) : 10 ∉ r.take 2001 → 2000 < r.length → Step m none r .fault
  | fe (ws : Wds) (r : List Nat) : Lin ws → [] ∈ ws → Step m none (jn ws ++ 10 :: r) .fault
  | fn (ws : Wds) (w r : List Nat) (o : Option Nat) : Lin (ws ++ [w]) → [] ∉ ws ++ [w] → w.head? = some 123 → RL w o → (∀ k, o = some k → m < k) → Step m none (jn (ws ++ [w]) ++ 10 :: r) .fault
  | nl (ws : Wds) (w r : List Nat) : Lin (ws ++ [w]) → [] ∉ ws ++ [w] → w.head? ≠ some 123 → Step m none (jn (ws ++ [w]) ++ 10 :: r) (.next [.tup [sD (ws ++ [w]), .non]] none r)
  | ll (ws : Wds) (w r : List Nat) (k : Nat) : Lin (ws ++ [w]) → [] ∉ ws ++ [w] → w.head? = some 123 → RL w (some k) → (k : Int) ≤ m → Step m none (jn (ws ++ [w]) ++ 10 :: r) (.next [] (some (ws, k)) r)
  | wr (ws : Wds) (k : Nat) (r : List Nat) : r.length ≤ k → Step m (some (ws, k)) r .wait
  | fr (ws : Wds) (x : List Nat) (c : Nat) (r : List Nat) : c ≠ 10 → Step m (some (ws, x.length)) (x ++ c :: r) .fault
  | nr (ws : Wds) (x r : List Nat) : Step m (some (ws, x.length)) (x ++ 10 :: r) (.next [.tup [sD ws, .str x]] none r)
inductive Run (m : Int) : Nat → Md → List Nat → List D → Option (Md × List Nat) → Prop
  | wait {md : Md} {r : List Nat} : Step m md r .wait → Run m 0 md r [] (some (md, r))
  | fault {md : Md} {r : List Nat} : Step m md r .fault → Run m 0 md r [] none
  | next {n : Nat} {md md' : Md} {r r' : List Nat} {o os : List D} {R : Option (Md × List Nat)} : Step m md r (.next o md' r') → Run m n md' r' os R → Run m (n + 1) md r (o ++ os) R
def LF (m : Int) (t : List Nat) (a : Int) (w : D) (n : Int) (f : Bool) : List (Str × D) := [("_most", .int m), ("_text", .str t), ("_at", .int a), ("_words", w), ("_many", .int n), ("_faulty", .bl f)]
def sp_ListenerU_initU (C : Addr) : SpD := fun ds S Q => ∃ (p : Addr) (m : Int), ds = [.rf p, .int m] ∧ S p = some (.ins C []) ∧ ∀ S', S' p = some (.ins C (LF m [] 0 .non 0 false)) → (∀ q, q ≠ p → S' q = S q) → Q .non S'
def sp_ListenerUfault (C : Addr) : SpD := fun ds S Q => ∃ (p : Addr) (m : Int) (t : List Nat) (a : Int) (w : D) (n : Int), ds = [.rf p] ∧ S p = some (.ins C (LF m t a w n false)) ∧ Q (.bl false) (su S p (.ins C (LF m t a w n true)))
def sp_Listener_faulty (C : Addr) : SpD := fun ds S Q => ∃ (p : Addr) (m : Int) (t : List Nat) (a : Int) (w : D) (n : Int) (f : Bool), ds = [.rf p] ∧ S p = some (.ins C (LF m t a w n f)) ∧ Q (.bl f) S
/-- what one step leaves: the text stands whole, the place moves -/
def Left (C : Addr) (S : Sh) (p c : Addr) (m : Int) (t : List Nat) (cs : List D) (Q : QD) : StR → Prop
  | .wait => Q (.bl false) S
  | .fault => ∀ S' a w n, S' p = some (.ins C (LF m t (a : Nat) w n true)) → S' c = some (.lst cs) → (∀ q, q ≠ p → q ≠ c → S' q = S q) → Q (.bl false) S'
  | .next o md r => ∀ S' t0 n, t0 ++ r = t → mdN n md → S' p = some (.ins C (LF m t t0.length (mdW md) n false)) → S' c = some (.lst (cs ++ o)) → (∀ q, q ≠ p → q ≠ c → S' q = S q) → Q (.bl true) S'
def sp_step (g : Md → Prop) (C : Addr) : SpD := fun ds S Q => ∃ (p c : Addr) (m : Int) (t0 r : List Nat) (md : Md) (n : Int) (cs : List D) (st : StR), g md ∧ ds = [.rf p, .rf c] ∧ p ≠ c ∧ S p = some (.ins C (LF m (t0 ++ r) t0.length (mdW md) n false)) ∧ mdN n md ∧
  S c = some (.lst cs) ∧ cs.length ≤ 100 ∧ (t0 ++ r).length ≤ 100000 ∧ Step m md r st ∧ Left C S p c m (t0 ++ r) cs Q st
def sp_ListenerUhear_line (C : Addr) : SpD := sp_step (fun md => md = none) C
def sp_ListenerUhear_literal (C : Addr) : SpD := sp_step (fun md => ∃ x, md = some x) C
/-- a listener between two portions -/
def Lis (C : Addr) (m : Int) (p : Addr) (b : Nat) (S : Sh) : Option (Md × List Nat) → Prop
  | some (md, r) => ∃ n, S p = some (.ins C (LF m r 0 (mdW md) n false)) ∧ mdN n md ∧ r.length ≤ b
  | none => ∃ t w n, S p = some (.ins C (LF m t 0 w n true)) ∧ t.length ≤ b
def RunO (m : Int) (x : List Nat) (o : List D) (R : Option (Md × List Nat)) : Option (Md × List Nat) → Prop
  | some (md, r) => ∃ j, Run m j md (r ++ x) o R
  | none => o = [] ∧ R = none
def sp_Listener_hear (C : Addr) : SpD := fun ds S Q => ∃ (p : Addr) (m : Int) (x : List Nat) (b : Nat) (R0 R : Option (Md × List Nat)) (o : List D), ds = [.rf p, .str x] ∧ Lis C m p b S R0 ∧ b + x.length ≤ 100000 ∧ RunO m x o R R0 ∧ o.length ≤ 50 ∧
  ∀ S', Lis C m p (b + x.length) S' R → (∀ q, q ≠ p → S' q = S q) → Q (.tup o) S'
def sp_read_number : SpD := fun ds S Q => ∃ w o, RL w o ∧ ds = [.str (w.drop 1).dropLast] ∧ w.length ≤ 7 ∧ w.getLast? = some 125 ∧ Q (oD o) S
def sp_read_length : SpD := fun ds S Q => ∃ w o, RL w o ∧ ds = [.str w] ∧ Q (oD o) S
/-! commands -/
abbrev Cmd := Wds × Option (List Nat)
def lD : Option (List Nat) → D
  | some x => .str x
  | none => .non
def cD (c : Cmd) : D := .tup [sD c.1, lD c.2]
def sg : Cmd → List Nat
  | (ws, none) => jn ws ++ [10]
  | (ws, some x) => jn (ws ++ [cnt x.length]) ++ [10] ++ x ++ [10]
structure Cg (c : Cmd) : Prop where
  ne : c.1 ≠ []
  le : c.1.length ≤ 6
  wd : ∀ w ∈ c.1, w ≠ [] ∧ 32 ∉ w ∧ 10 ∉ w ∧ w.length ≤ 10
  last : c.2 = none → ∀ w, c.1.getLast? = some w → w.head? ≠ some 123
  lit : ∀ x, c.2 = some x → x.length ≤ 20
def sp_say : SpD := fun ds S Q => ∃ c, Cg c ∧ ds = [sD c.1, lD c.2] ∧ Q (.str (sg c)) S
def sp_llaw_signs : SpD := fun ds S Q => ∃ c, Cg c ∧ ds = [cD c] ∧ Q (.str (sg c)) S
def sp_llaw_command : SpD := fun ds S Q => ∃ b, ds = [.rf b] ∧ Box S b ∧ ∀ c S', Cg c → Bx b S S' → Q (cD c) S'
/-- a wrong text from a place on: after fl signs of it the listener is at fault -/
inductive Bad (m : Int) : Md → List Nat → Nat → Prop
  | empty (ws : Wds) (t : List Nat) : Lin ws → [] ∈ ws → Bad m none (jn ws ++ 10 :: t) ((jn ws).length + 1)
  | count (ws : Wds) (w t : List Nat) (o : Option Nat) : Lin (ws ++ [w]) → [] ∉ ws ++ [w] → w.head? = some 123 → RL w o → (∀ k, o = some k → m < k) → Bad m none (jn (ws ++ [w]) ++ 10 :: t) ((jn (ws ++ [w])).length + 1)
  | long (l t : List Nat) : 10 ∉ l → l.length = 2001 → Bad m none (l ++ t) 2001
  | lit (ws : Wds) (x : List Nat) (c : Nat) (t : List Nat) : c ≠ 10 → Bad m (some (ws, x.length)) (x ++ c :: t) (x.length + 1)
  | two (ws : Wds) (w r : List Nat) (k f : Nat) : Lin (ws ++ [w]) → [] ∉ ws ++ [w] → w.head? = some 123 → RL w (some k) → (k : Int) ≤ m → Bad m (some (ws, k)) r f → Bad m none (jn (ws ++ [w]) ++ 10 :: r) ((jn (ws ++ [w])).length + 1 + f)
  | none : Bad m none [] 1
def sp_llaw_wrong : SpD := fun ds S Q => ∃ (b : Addr) (m : Nat), ds = [.rf b, .int m] ∧ 20 ≤ m ∧ m < 50 ∧ Box S b ∧
  ∀ S1 p wr (f : Nat), Bx b S S1 → S1 p = none → (∀ t, Bad m none (wr ++ t) f) → 1 ≤ f → f ≤ wr.length → wr.length ≤ 3000 → Q (.rf p) (su S1 p (.lst [.str wr, .int f]))
end LW

set_option Elab.async false
set_option linter.all false
set_option maxRecDepth 100000

namespace LW
open PySem PySem.Spec L2 DL

abbrev rd_ListenerU_initU (C : Nat → Addr) : SD :=
  (dSeq (dSetF (C 0) (dVar 0) (dVar 1) "_most")
  (dSeq (dSetF (C 0) (dVar 0) (dC (.str [])) "_text")
  (dSeq (dSetF (C 0) (dVar 0) (dC (.int 0)) "_at")
  (dSeq (dSetF (C 0) (dVar 0) (dC .non) "_words")
  (dSeq (dSetF (C 0) (dVar 0) (dC (.int 0)) "_many")
  (dSetF (C 0) (dVar 0) (dC (.bl false)) "_faulty"))))))
abbrev rd_Listener_hear (C : Nat → Addr) : SD :=
  (dSeq (dAsg (dNew (dLst dNil)) (dName 2))
  (dSeq (dSetF (C 0) (dVar 0) (dOp dAdd (dFld (C 0) (dVar 0) "_text") (dVar 1)) "_text")
  (dSeq (dAsg (dNotV (dFld (C 0) (dVar 0) "_faulty")) (dName 3))
  (dSeq (dWhile (dTru (dVar 3)) (dIfS (dTB (dOp dIsN (dFld (C 0) (dVar 0) "_words") (dC .non))) (dAsg (dMeth (C 0) "_hear_line" 2 (sp_ListenerUhear_line (C 0)) (dVar 0) (dCons (dVar 2) dNil)) (dName 3)) (dAsg (dMeth (C 0) "_hear_literal" 2 (sp_ListenerUhear_literal (C 0)) (dVar 0) (dCons (dVar 2) dNil)) (dName 3))))
  (dSeq (dSetF (C 0) (dVar 0) (dSlice (dFld (C 0) (dVar 0) "_text") (dPart (dFld (C 0) (dVar 0) "_at")) dNoP) "_text")
  (dSeq (dSetF (C 0) (dVar 0) (dC (.int 0)) "_at")
  (dRet (dOnL (fun ds S Q => Q (.tup ds) S) (dAsL (dVar 2))))))))))
abbrev rd_Listener_faulty (C : Nat → Addr) : SD :=
  (dRet (dFld (C 0) (dVar 0) "_faulty"))
abbrev rd_ListenerUfault (C : Nat → Addr) : SD :=
  (dSeq (dSetF (C 0) (dVar 0) (dC (.bl true)) "_faulty")
  (dRet (dC (.bl false))))
abbrev rd_ListenerUhear_line (C : Nat → Addr) : SD :=
  (dSeq (dAsg (dBM "str" dFind4 (dFld (C 0) (dVar 0) "_text") (dCons (dC (.str [10])) (dCons (dFld (C 0) (dVar 0) "_at") (dCons (dOp dAdd (dOp dAdd (dFld (C 0) (dVar 0) "_at") (dC (.int 2000))) (dC (.int 1))) dNil)))) (dName 2))
  (dSeq (dIfS (dTB (dOp dLt (dVar 2) (dC (.int 0)))) (dRet (dIfE (dTB (dOp dGt (dOp dSub (dCB dLen (dCons (dFld (C 0) (dVar 0) "_text") dNil)) (dFld (C 0) (dVar 0) "_at")) (dC (.int 2000)))) (dMeth (C 0) "_fault" 1 (sp_ListenerUfault (C 0)) (dVar 0) dNil) (dC (.bl false)))) dNext)
  (dSeq (dAsg (dOnL (fun ds S Q => Q (.tup ds) S) (dSplit (dSlice (dFld (C 0) (dVar 0) "_text") (dPart (dFld (C 0) (dVar 0) "_at")) (dPart (dVar 2))) (dC (.str [32])))) (dName 3))
  (dSeq (dIfS (dTB (dOp dIn (dC (.str [])) (dVar 3))) (dRet (dMeth (C 0) "_fault" 1 (sp_ListenerUfault (C 0)) (dVar 0) dNil)) dNext)
  (dSeq (dSetF (C 0) (dVar 0) (dOp dAdd (dVar 2) (dC (.int 1))) "_at")
  (dSeq (dIfS (dNot (dTru (dBM "str" dSta (dOp dIx (dVar 3) (dUn dNeg (dC (.int 1)))) (dCons (dC (.str [123])) dNil)))) (dSeq (dDrop (dBM "list" dApp (dVar 1) (dCons (dTup (dCons (dVar 3) (dCons (dC .non) dNil))) dNil)))
  (dRet (dC (.bl true)))) dNext)
  (dSeq (dAsg (dCall 1 sp_read_length [] (dCons (dOp dIx (dVar 3) (dUn dNeg (dC (.int 1)))) dNil)) (dName 4))
  (dSeq (dIfS (dOr (dTB (dOp dIsN (dVar 4) (dC .non))) (dTB (dOp dGt (dVar 4) (dFld (C 0) (dVar 0) "_most")))) (dRet (dMeth (C 0) "_fault" 1 (sp_ListenerUfault (C 0)) (dVar 0) dNil)) dNext)
  (dSeq (dSetF (C 0) (dVar 0) (dSlice (dVar 3) dNoP (dPart (dUn dNeg (dC (.int 1))))) "_words")
  (dSeq (dSetF (C 0) (dVar 0) (dVar 4) "_many")
  (dRet (dC (.bl true)))))))))))))
abbrev rd_ListenerUhear_literal (C : Nat → Addr) : SD :=
  (dSeq (dAsg (dOp dAdd (dFld (C 0) (dVar 0) "_at") (dFld (C 0) (dVar 0) "_many")) (dName 2))
  (dSeq (dIfS (dTB (dOp dLe (dCB dLen (dCons (dFld (C 0) (dVar 0) "_text") dNil)) (dVar 2))) (dRet (dC (.bl false))) dNext)
  (dSeq (dIfS (dTB (dOp dNe (dOp dIx (dFld (C 0) (dVar 0) "_text") (dVar 2)) (dC (.str [10])))) (dRet (dMeth (C 0) "_fault" 1 (sp_ListenerUfault (C 0)) (dVar 0) dNil)) dNext)
  (dSeq (dDrop (dBM "list" dApp (dVar 1) (dCons (dTup (dCons (dFld (C 0) (dVar 0) "_words") (dCons (dSlice (dFld (C 0) (dVar 0) "_text") (dPart (dFld (C 0) (dVar 0) "_at")) (dPart (dVar 2))) dNil))) dNil)))
  (dSeq (dSetF (C 0) (dVar 0) (dC .non) "_words")
  (dSeq (dSetF (C 0) (dVar 0) (dOp dAdd (dVar 2) (dC (.int 1))) "_at")
  (dRet (dC (.bl true)))))))))
abbrev rd_read_length : SD :=
  (dSeq (dIfS (dOr (dNot (dTru (dBM "str" dEnd (dVar 0) (dCons (dC (.str [125])) dNil)))) (dTB (dOp dGt (dCB dLen (dCons (dVar 0) dNil)) (dC (.int 7))))) (dRet (dC .non)) dNext)
  (dRet (dCall 1 sp_read_number [] (dCons (dSlice (dVar 0) (dPart (dC (.int 1))) (dPart (dUn dNeg (dC (.int 1))))) dNil))))
abbrev rd_read_number : SD :=
  (dSeq (dIfS (dOr (dNot (dTru (dBM0 "str" dIsasc (dVar 0)))) (dOr (dNot (dTru (dBM0 "str" dIsdig (dVar 0)))) (dTB (dOp dGt (dCB dLen (dCons (dVar 0) dNil)) (dC (.int 9)))))) (dRet (dC .non)) dNext)
  (dSeq (dIfS (dAnd (dTru (dBM "str" dSta (dVar 0) (dCons (dC (.str [48])) dNil))) (dTB (dOp dNe (dVar 0) (dC (.str [48]))))) (dRet (dC .non)) dNext)
  (dRet (dCB dIntS (dCons (dVar 0) dNil)))))
abbrev rd_say : SD :=
  (dSeq (dIfS (dTB (dOp dIsN (dVar 1) (dC .non))) (dRet (dOp dAdd (dBM "str" dJoinT (dC (.str [32])) (dCons (dVar 0) dNil)) (dC (.str [10])))) dNext)
  (dSeq (dAsg (dOp dAdd (dOp dAdd (dC (.str [123])) (dCB dStr (dCons (dCB dLen (dCons (dVar 1) dNil)) dNil))) (dC (.str [125]))) (dName 2))
  (dRet (dOp dAdd (dOp dAdd (dOp dAdd (dBM "str" dJoin (dC (.str [32])) (dLst (dStar (dVar 0) (dCons (dVar 2) dNil)))) (dC (.str [10]))) (dVar 1)) (dC (.str [10]))))))
abbrev rd_llaw_cell : SD :=
  (dSeq (dIfS (dTB (dOp dLt (dVar 1) (dCB dLen (dCons (dVar 0) dNil)))) (dRet (dOp dIx (dVar 0) (dVar 1))) dNext)
  (dRet (dC (.int 0))))
abbrev rd_llaw_digits : SD :=
  (dSeq (dAsg (dNew (dLst dNil)) (dName 3))
  (dSeq (dFor (dRng2 (dCons (dVar 1) (dCons (dVar 2) dNil))) (dName 4) (dSeq (dIfS (dTB (dOp dGt (dCB dLen (dCons (dVar 3) dNil)) (dC (.int 1500)))) dBreak dNext)
  (dSeq (dAsg (dCall 2 sp_llaw_cell [] (dCons (dVar 0) (dCons (dVar 4) dNil))) (dName 5))
  (dSeq (dIfS (dTB (dOp dLt (dVar 5) (dC (.int 0)))) (dAsg (dOp dSub (dC (.int 1)) (dOp dMul (dC (.int 2)) (dVar 5))) (dName 5)) dNext)
  (dIfS (dTB (dOp dGe (dVar 5) (dOp dPow (dC (.int 10)) (dC (.int 18))))) (dFor (dRng1 (dCons (dC (.int 60)) dNil)) (dName 6) (dIfS (dTB (dOp dGt (dVar 5) (dC (.int 0)))) (dSeq (dDrop (dBM "list" dApp (dVar 3) (dCons (dOp dMod (dCB dInt (dCons (dVar 5) dNil)) (dC (.int 1000))) dNil)))
  (dAsg (dOp dFdiv (dVar 5) (dC (.int 1000))) (dName 5))) dNext)) (dSeq (dAsg (dOp dMod (dCB dInt (dCons (dOp dAdd (dOp dAdd (dOp dMul (dVar 5) (dC (.int 48271))) (dOp dMul (dVar 4) (dC (.int 69621)))) (dC (.int 11))) dNil)) (dC (.int 2147483647))) (dName 7))
  (dFor (dRng1 (dCons (dC (.int 12)) dNil)) (dName 6) (dSeq (dAsg (dOp dMod (dCB dInt (dCons (dOp dAdd (dOp dAdd (dOp dMul (dVar 7) (dC (.int 16807))) (dOp dMul (dC (.int 7)) (dVar 6))) (dC (.int 1))) dNil)) (dC (.int 2147483647))) (dName 7))
  (dDrop (dBM "list" dApp (dVar 3) (dCons (dOp dMod (dCB dInt (dCons (dOp dFdiv (dVar 7) (dC (.int 997))) dNil)) (dC (.int 1000))) dNil)))))))))))
  (dRet (dVar 3))))
abbrev rd_llaw_draw : SD :=
  (dSeq (dAsg (dOp dIx (dVar 0) (dC (.int 1))) (dName 2))
  (dSeq (dAsg (dOp dAdd (dVar 2) (dC (.int 1))) (dSetL (dVar 0) (dC (.int 1))))
  (dSeq (dIfS (dTB (dOp dLt (dVar 2) (dCB dLen (dCons (dOp dIx (dVar 0) (dC (.int 0))) dNil)))) (dRet (dOp dMod (dCB dInt (dCons (dOp dIx (dOp dIx (dVar 0) (dC (.int 0))) (dVar 2)) dNil)) (dVar 1))) dNext)
  (dRet (dOp dMod (dCB dInt (dCons (dOp dMul (dVar 2) (dC (.int 7))) dNil)) (dVar 1))))))
abbrev rd_llaw_same (n : Nat) : SD :=
  (dSeq (dIfS (dTru (dIsi .tTuple (dVar 1))) (dSeq (dIfS (dOr (dNot (dTru (dIsi .tTuple (dVar 0)))) (dTB (dOp dNe (dCB dLen (dCons (dVar 0) dNil)) (dCB dLen (dCons (dVar 1) dNil))))) (dRet (dC (.bl false))) dNext)
  (dSeq (dFor (dRng1 (dCons (dCB dLen (dCons (dVar 1) dNil)) dNil)) (dName 2) (dIfS (dNot (dTru (dCall 2 (sp_same n) [] (dCons (dOp dIx (dVar 0) (dVar 2)) (dCons (dOp dIx (dVar 1) (dVar 2)) dNil))))) (dRet (dC (.bl false))) dNext))
  (dRet (dC (.bl true))))) dNext)
  (dSeq (dIfS (dTB (dOp dIsN (dVar 1) (dC .non))) (dRet (dOp dIsN (dVar 0) (dC .non))) dNext)
  (dSeq (dIfS (dTB (dOp dIsB (dVar 1) (dC (.bl true)))) (dRet (dOp dIsB (dVar 0) (dC (.bl true)))) dNext)
  (dSeq (dIfS (dTB (dOp dIsB (dVar 1) (dC (.bl false)))) (dRet (dOp dIsB (dVar 0) (dC (.bl false)))) dNext)
  (dSeq (dIfS (dTru (dIsi .tInt (dVar 1))) (dRet (dAndV (dIsi .tInt (dVar 0)) (dAndV (dNotV (dIsi .tBool (dVar 0))) (dOp dEq (dVar 0) (dVar 1))))) dNext)
  (dRet (dAndV (dIsi .tStr (dVar 0)) (dOp dEq (dVar 0) (dVar 1)))))))))
abbrev rd_llaw_command : SD :=
  (dSeq (dAsg (dOp dAdd (dC (.int 1)) (dCall 2 sp_llaw_draw [] (dCons (dVar 0) (dCons (dC (.int 4)) dNil)))) (dName 1))
  (dSeq (dAsg (dOnL (fun ds S Q => Q (.tup ds) S) (dLc (dRng1 (dCons (dVar 1) dNil)) (dName 4) dYes (dIxL (dLst (dCons (dC (.str [100, 111])) (dCons (dC (.str [97, 123])) (dCons (dC (.str [55])) (dCons (dC (.str [45])) (dCons (dC (.str [120, 58, 121])) (dCons (dC (.str [123, 49, 125, 120])) (dCons (dC (.str [123, 48, 49, 125])) (dCons (dC (.str [91])) (dCons (dC (.str [78, 97, 109, 101])) dNil)))))))))) (dCall 2 sp_llaw_draw [] (dCons (dVar 0) (dCons (dC (.int 9)) dNil)))) [4])) (dName 2))
  (dSeq (dAsg (dOnL (fun ds S Q => Q (.tup ds) S) (dLc (dIt (dVar 2)) (dName 5) dYes (dIfE (dTB (dOp dNe (dVar 5) (dC (.str [123, 48, 49, 125])))) (dVar 5) (dC (.str [122, 123, 48, 49, 125]))) [5])) (dName 2))
  (dSeq (dAsg (dC .non) (dName 3))
  (dSeq (dIfS (dTB (dOp dEq (dCall 2 sp_llaw_draw [] (dCons (dVar 0) (dCons (dC (.int 2)) dNil))) (dC (.int 0)))) (dAsg (dSlice (dBM "str" dJoin (dC (.str [])) (dLc (dRng1 (dCons (dCall 2 sp_llaw_draw [] (dCons (dVar 0) (dCons (dC (.int 6)) dNil))) dNil)) (dName 4) dYes (dIxL (dLst (dCons (dC (.str [97])) (dCons (dC (.str [10])) (dCons (dC (.str [32])) (dCons (dC (.str [123, 50, 125])) (dCons (dC (.str [100, 111, 32, 49, 10])) (dCons (dC (.str [98, 121, 101])) dNil))))))) (dCall 2 sp_llaw_draw [] (dCons (dVar 0) (dCons (dC (.int 6)) dNil)))) [4])) dNoP (dPart (dC (.int 20)))) (dName 3)) (dIfS (dTB (dOp dEq (dSlice (dOp dIx (dVar 2) (dUn dNeg (dC (.int 1)))) dNoP (dPart (dC (.int 1)))) (dC (.str [123])))) (dAsg (dOp dAdd (dVar 2) (dTup (dCons (dC (.str [101])) dNil))) (dName 2)) dNext))
  (dRet (dTup (dCons (dVar 2) (dCons (dVar 3) dNil)))))))))
abbrev rd_llaw_signs : SD :=
  (dSeq (dIfS (dTB (dOp dIsN (dOp dIx (dVar 0) (dC (.int 1))) (dC .non))) (dRet (dOp dAdd (dBM "str" dJoinT (dC (.str [32])) (dCons (dOp dIx (dVar 0) (dC (.int 0))) dNil)) (dC (.str [10])))) dNext)
  (dRet (dOp dAdd (dOp dAdd (dOp dAdd (dOp dAdd (dOp dAdd (dBM "str" dJoinT (dC (.str [32])) (dCons (dOp dIx (dVar 0) (dC (.int 0))) dNil)) (dC (.str [32, 123]))) (dCB dStr (dCons (dCB dLen (dCons (dOp dIx (dVar 0) (dC (.int 1))) dNil)) dNil))) (dC (.str [125, 10]))) (dOp dIx (dVar 0) (dC (.int 1)))) (dC (.str [10])))))
abbrev rd_llaw_wrong : SD :=
  (dSeq (dAsg (dCall 2 sp_llaw_draw [] (dCons (dVar 0) (dCons (dC (.int 9)) dNil))) (dName 2))
  (dSeq (dIfS (dTB (dOp dEq (dVar 2) (dC (.int 0)))) (dRet (dNew (dLst (dCons (dC (.str [10])) (dCons (dC (.int 1)) dNil))))) dNext)
  (dSeq (dIfS (dTB (dOp dLt (dVar 2) (dC (.int 4)))) (dSeq (dAsg (dIxL (dLst (dCons (dC (.str [32, 97, 10])) (dCons (dC (.str [97, 32, 10])) (dCons (dC (.str [97, 32, 32, 98, 10])) dNil)))) (dOp dSub (dVar 2) (dC (.int 1)))) (dName 4))
  (dRet (dNew (dLst (dCons (dVar 4) (dCons (dCB dLen (dCons (dVar 4) dNil)) dNil)))))) dNext)
  (dSeq (dIfS (dTB (dOp dEq (dVar 2) (dC (.int 4)))) (dRet (dNew (dLst (dCons (dOp dMulS (dC (.str [120])) (dC (.int 2001))) (dCons (dC (.int 2001)) dNil))))) dNext)
  (dSeq (dIfS (dTB (dOp dEq (dVar 2) (dC (.int 5)))) (dSeq (dAsg (dOp dAdd (dOp dAdd (dC (.str [97, 32, 123])) (dCB dStr (dCons (dOp dAdd (dVar 1) (dC (.int 1))) dNil))) (dC (.str [125, 10]))) (dName 4))
  (dRet (dNew (dLst (dCons (dVar 4) (dCons (dCB dLen (dCons (dVar 4) dNil)) dNil)))))) dNext)
  (dSeq (dIfS (dTB (dOp dEq (dVar 2) (dC (.int 6)))) (dSeq (dAsg (dIxL (dLst (dCons (dC (.str [97, 32, 123, 48, 49, 125, 10])) (dCons (dC (.str [97, 32, 123, 45, 49, 125, 10])) (dCons (dC (.str [97, 32, 123, 125, 10])) (dCons (dC (.str [97, 32, 123, 49, 10])) (dCons (dC (.str [97, 32, 123, 49, 125, 98, 10])) (dCons (dC (.str [97, 32, 123, 49, 50, 51, 52, 53, 54, 125, 10])) dNil))))))) (dCall 2 sp_llaw_draw [] (dCons (dVar 0) (dCons (dC (.int 6)) dNil)))) (dName 4))
  (dRet (dNew (dLst (dCons (dVar 4) (dCons (dCB dLen (dCons (dVar 4) dNil)) dNil)))))) dNext)
  (dSeq (dAsg (dOp dMulS (dC (.str [121])) (dCall 2 sp_llaw_draw [] (dCons (dVar 0) (dCons (dC (.int 3)) dNil)))) (dName 3))
  (dSeq (dAsg (dOp dAdd (dOp dAdd (dOp dAdd (dC (.str [97, 32, 123])) (dCB dStr (dCons (dCB dLen (dCons (dVar 3) dNil)) dNil))) (dC (.str [125, 10]))) (dVar 3)) (dName 4))
  (dRet (dNew (dLst (dCons (dOp dAdd (dVar 4) (dC (.str [122]))) (dCons (dOp dAdd (dCB dLen (dCons (dVar 4) dNil)) (dC (.int 1))) dNil)))))))))))))
abbrev rd_law (C : Nat → Addr) : SD :=
  (dSeq (dAsg (dNew (dLst (dCons (dCall 3 sp_llaw_digits [] (dCons (dVar 0) (dCons (dC (.int 0)) (dCons (dC (.int 63)) dNil)))) (dCons (dC (.int 0)) dNil)))) (dName 1))
  (dSeq (dAsg (dOp dAdd (dC (.int 20)) (dCall 2 sp_llaw_draw [] (dCons (dVar 1) (dCons (dC (.int 30)) dNil)))) (dName 2))
  (dSeq (dAsg (dNew (dLc (dRng1 (dCons (dCall 2 sp_llaw_draw [] (dCons (dVar 1) (dCons (dC (.int 7)) dNil))) dNil)) (dName 15) dYes (dCall 1 sp_llaw_command [] (dCons (dVar 1) dNil)) [15])) (dName 3))
  (dSeq (dAsg (dTup (dCons (dNew (dLst dNil)) (dCons (dC (.str [])) dNil))) (dGtup (dGcons (dName 10) (dGcons (dName 11) dGnil)) 2))
  (dSeq (dFor (dIt (dVar 3)) (dName 4) (dSeq (dIfS (dNot (dTru (dCall 2 (sp_same 4) [] (dCons (dCall 2 sp_say [] (dCons (dOp dIx (dVar 4) (dC (.int 0))) (dCons (dOp dIx (dVar 4) (dC (.int 1))) dNil))) (dCons (dCall 1 sp_llaw_signs [] (dCons (dVar 4) dNil)) dNil))))) (dRet (dC (.bl false))) dNext)
  (dSeq (dAsg (dOp dAdd (dVar 11) (dCall 1 sp_llaw_signs [] (dCons (dVar 4) dNil))) (dName 11))
  (dDrop (dBM "list" dApp (dVar 10) (dCons (dCB dLen (dCons (dVar 11) dNil)) dNil))))))
  (dSeq (dAsg (dUn dNeg (dC (.int 1))) (dName 5))
  (dSeq (dIfS (dTB (dOp dEq (dCall 2 sp_llaw_draw [] (dCons (dVar 1) (dCons (dC (.int 3)) dNil))) (dC (.int 0)))) (dSeq (dAsg (dCall 2 sp_llaw_wrong [] (dCons (dVar 1) (dCons (dVar 2) dNil))) (dName 12))
  (dSeq (dAsg (dOp dAdd (dCB dLen (dCons (dVar 11) dNil)) (dOp dIx (dVar 12) (dC (.int 1)))) (dName 5))
  (dAsg (dOp dAdd (dOp dAdd (dVar 11) (dOp dIx (dVar 12) (dC (.int 0)))) (dIxL (dLst (dCons (dC (.str [])) (dCons (dC (.str [10])) (dCons (dC (.str [98, 121, 101, 10])) (dCons (dC (.str [100, 111, 32, 49, 10])) dNil))))) (dCall 2 sp_llaw_draw [] (dCons (dVar 1) (dCons (dC (.int 4)) dNil))))) (dName 11)))) dNext)
  (dSeq (dAsg (dNew (dCatL (dOnN dSortI (dLc (dRng1 (dCons (dCall 2 sp_llaw_draw [] (dCons (dVar 1) (dCons (dC (.int 5)) dNil))) dNil)) (dName 15) dYes (dOp dMod (dCB dInt (dCons (dOp dAdd (dOp dMul (dCall 2 sp_llaw_draw [] (dCons (dVar 1) (dCons (dC (.int 900)) dNil))) (dC (.int 1000))) (dCall 2 sp_llaw_draw [] (dCons (dVar 1) (dCons (dC (.int 1000)) dNil)))) dNil)) (dOp dAdd (dCB dLen (dCons (dVar 11) dNil)) (dC (.int 1)))) [15])) (dLst (dCons (dCB dLen (dCons (dVar 11) dNil)) dNil)))) (dName 6))
  (dSeq (dIfS (dAnd (dTB (dOp dGt (dVar 5) (dC (.int 0)))) (dTB (dOp dEq (dCall 2 sp_llaw_draw [] (dCons (dVar 1) (dCons (dC (.int 2)) dNil))) (dC (.int 0))))) (dAsg (dNew (dOnN dSortI (dCatE (dVar 6) (dLst (dCons (dOp dSub (dVar 5) (dC (.int 1))) (dCons (dVar 5) dNil)))))) (dName 6)) dNext)
  (dSeq (dAsg (dMake (C 0) 2 (sp_ListenerU_initU (C 0)) (dCons (dVar 2) dNil)) (dName 7))
  (dSeq (dAsg (dC (.int 0)) (dName 8))
  (dSeq (dIfS (dTB (dOp dNotB (dMeth (C 0) "faulty" 1 (sp_Listener_faulty (C 0)) (dVar 7) dNil) (dC (.bl false)))) (dRet (dC (.bl false))) dNext)
  (dSeq (dFor (dIt (dVar 6)) (dName 9) (dSeq (dAsg (dMeth (C 0) "hear" 2 (sp_Listener_hear (C 0)) (dVar 7) (dCons (dSlice (dVar 11) (dPart (dVar 8)) (dPart (dVar 9))) dNil)) (dName 13))
  (dSeq (dAsg (dOnL (fun ds S Q => Q (.tup ds) S) (dLc (dRng1 (dCons (dCB dLen (dCons (dVar 3) dNil)) dNil)) (dName 15) (dTB (dChain dLt dLe (dVar 8) (dOp dIx (dVar 10) (dVar 15)) (dVar 9))) (dOp dIx (dVar 3) (dVar 15)) [15])) (dName 14))
  (dSeq (dAsg (dVar 9) (dName 8))
  (dIfS (dOr (dNot (dTru (dCall 2 (sp_same 4) [] (dCons (dVar 13) (dCons (dVar 14) dNil))))) (dNot (dTru (dCall 2 (sp_same 4) [] (dCons (dMeth (C 0) "faulty" 1 (sp_Listener_faulty (C 0)) (dVar 7) dNil) (dCons (dChain dLt dLe (dC (.int 0)) (dVar 5) (dVar 8)) dNil)))))) (dRet (dC (.bl false))) dNext)))))
  (dRet (dIfE (dTB (dOp dGt (dVar 5) (dC (.int 0)))) (dOp dEqT (dMeth (C 0) "hear" 2 (sp_Listener_hear (C 0)) (dVar 7) (dCons (dC (.str [120, 10])) dNil)) (dTup dNil)) (dC (.bl true)))))))))))))))))
end LW

set_option Elab.async false
set_option linter.all false
set_option maxRecDepth 100000
set_option maxHeartbeats 4000000

namespace LW
open PySem PySem.Spec L2 DL PyProof.Rows

structure Tx (K : PySem.W.Frag) (mg : Str → Option Value) (F : Nat → Addr) (D : Nat → FuncData) (C : Nat → Addr) : Prop where
  d_ListenerU_initU : MDef K "__init__" "Listener.__init__" s_ListenerU_initU P_ListenerU_initU (F 0) (D 0)
  d_Listener_hear : MDef K "hear" "Listener.hear" s_Listener_hear P_Listener_hear (F 1) (D 1)
  me_Listener_hear : Meth K (C 0) "hear" (F 1)
  d_Listener_faulty : MDef K "faulty" "Listener.faulty" s_Listener_faulty P_Listener_faulty (F 2) (D 2)
  me_Listener_faulty : Meth K (C 0) "faulty" (F 2)
  d_ListenerUfault : MDef K "_fault" "Listener._fault" s_ListenerUfault P_ListenerUfault (F 3) (D 3)
  me_ListenerUfault : Meth K (C 0) "_fault" (F 3)
  d_ListenerUhear_line : MDef K "_hear_line" "Listener._hear_line" s_ListenerUhear_line P_ListenerUhear_line (F 4) (D 4)
  me_ListenerUhear_line : Meth K (C 0) "_hear_line" (F 4)
  d_ListenerUhear_literal : MDef K "_hear_literal" "Listener._hear_literal" s_ListenerUhear_literal P_ListenerUhear_literal (F 5) (D 5)
  me_ListenerUhear_literal : Meth K (C 0) "_hear_literal" (F 5)
  d_read_length : Def K mg "read_length" s_read_length P_read_length (F 6) (D 6)
  d_read_number : Def K mg "read_number" s_read_number P_read_number (F 7) (D 7)
  d_say : Def K mg "say" s_say P_say (F 8) (D 8)
  d_llaw_cell : Def K mg "_law_cell" s_llaw_cell P_llaw_cell (F 9) (D 9)
  d_llaw_digits : Def K mg "_law_digits" s_llaw_digits P_llaw_digits (F 10) (D 10)
  d_llaw_draw : Def K mg "_law_draw" s_llaw_draw P_llaw_draw (F 11) (D 11)
  d_llaw_same : Def K mg "_law_same" s_llaw_same P_llaw_same (F 12) (D 12)
  d_llaw_command : Def K mg "_law_command" s_llaw_command P_llaw_command (F 13) (D 13)
  d_llaw_signs : Def K mg "_law_signs" s_llaw_signs P_llaw_signs (F 14) (D 14)
  d_llaw_wrong : Def K mg "_law_wrong" s_llaw_wrong P_llaw_wrong (F 15) (D 15)
  d_law : Def K mg "law" s_law P_law (F 16) (D 16)
  cl_Listener : Cls K (C 0)
  mk_Listener : Mk K (C 0) (F 0)
  mg_Listener : mg "Listener" = some (.ref (C 0))
  n_Listener__at : NoAttr K (C 0) "_at"
  n_Listener__faulty : NoAttr K (C 0) "_faulty"
  n_Listener__many : NoAttr K (C 0) "_many"
  n_Listener__most : NoAttr K (C 0) "_most"
  n_Listener__text : NoAttr K (C 0) "_text"
  n_Listener__words : NoAttr K (C 0) "_words"
  b_bool : mg "bool" = none
  b_int : mg "int" = none
  b_isinstance : mg "isinstance" = none
  b_len : mg "len" = none
  b_range : mg "range" = none
  b_sorted : mg "sorted" = none
  b_str : mg "str" = none
  b_tuple : mg "tuple" = none
  c_MOST_LINE : GlobC K mg "MOST_LINE" (.int 2000)
section
variable {P : Program} {w : World} {K : PySem.W.Frag} {mg : Str → Option Value} {base : Heap} {F : Nat → Addr} {D : Nat → FuncData} {C : Nat → Addr}
theorem dv_ListenerU_initU (T : Tx K mg F D C) {cdv : Value} {A : Around} {outer : List Env} {s : Shared} {H : Hp} {E0 : XK}
    (hr : Room 0 (A.deeper (envOfC "Listener.__init__" (defScope s_ListenerU_initU) s.heap.objs.size (F 0) cdv))) :
    B (cxOf CX0 P w K mg base N_ListenerU_initU "Listener.__init__" (defScope s_ListenerU_initU) (F 0) cdv A outer s H E0).nox (defBody s_ListenerU_initU) (rd_ListenerU_initU C) :=
  (b_cons (s_fld T.cl_Listener T.n_Listener__most (e_var 0) (e_var 1))
  (b_cons (s_fld T.cl_Listener T.n_Listener__text (e_var 0) (e_str []))
  (b_cons (s_fld T.cl_Listener T.n_Listener__at (e_var 0) e_int)
  (b_cons (s_fld T.cl_Listener T.n_Listener__words (e_var 0) e_non)
  (b_cons (s_fld T.cl_Listener T.n_Listener__many (e_var 0) e_int)
  (b_one (s_fld T.cl_Listener T.n_Listener__faulty (e_var 0) e_bl)))))))
theorem dv_Listener_hear (T : Tx K mg F D C) (G_ListenerUhear_line : FnOk P w K mg base CX0 3 (F 4) (D 4) P_ListenerUhear_line (lift K 2 (sp_ListenerUhear_line (C 0)))) (G_ListenerUhear_literal : FnOk P w K mg base CX0 2 (F 5) (D 5) P_ListenerUhear_literal (lift K 2 (sp_ListenerUhear_literal (C 0)))) {cdv : Value} {A : Around} {outer : List Env} {s : Shared} {H : Hp} {E0 : XK}
    (hr : Room 3 (A.deeper (envOfC "Listener.hear" (defScope s_Listener_hear) s.heap.objs.size (F 1) cdv))) :
    B (cxOf CX0 P w K mg base N_Listener_hear "Listener.hear" (defScope s_Listener_hear) (F 1) cdv A outer s H E0).nox (defBody s_Listener_hear) (rd_Listener_hear C) :=
  (b_cons (s_asg (e_new (n_lst a_nil)) (g_name 2 sc_Listener_hear.nd))
  (b_cons (s_fld T.cl_Listener T.n_Listener__text (e_var 0) (e_op o_add (e_fld T.cl_Listener T.n_Listener__text (e_var 0)) (e_var 1)))
  (b_cons (s_asg (e_not (e_fld T.cl_Listener T.n_Listener__faulty (e_var 0))) (g_name 3 sc_Listener_hear.nd))
  (b_cons (s_while (t_tru (e_var 3)) (b_one (s_if (t_cmp o_isN (e_fld T.cl_Listener T.n_Listener__words (e_var 0)) e_non) (b_one (s_asg (e_meth T.cl_Listener T.me_ListenerUhear_line G_ListenerUhear_line (hr.mono (by first | decide | omega)) T.d_ListenerUhear_line.bi (e_var 0) (a_cons (e_var 2) a_nil)) (g_name 3 sc_Listener_hear.nd))) (b_one (s_asg (e_meth T.cl_Listener T.me_ListenerUhear_literal G_ListenerUhear_literal (hr.mono (by first | decide | omega)) T.d_ListenerUhear_literal.bi (e_var 0) (a_cons (e_var 2) a_nil)) (g_name 3 sc_Listener_hear.nd))))))
  (b_cons (s_fld T.cl_Listener T.n_Listener__text (e_var 0) (e_slice (e_fld T.cl_Listener T.n_Listener__text (e_var 0)) (p_some (e_fld T.cl_Listener T.n_Listener__at (e_var 0))) p_none))
  (b_cons (s_fld T.cl_Listener T.n_Listener__at (e_var 0) e_int)
  (b_one (s_ret (e_callTyL cl_tuple T.b_tuple (l_of (e_var 2)))))))))))
theorem dv_Listener_faulty (T : Tx K mg F D C) {cdv : Value} {A : Around} {outer : List Env} {s : Shared} {H : Hp} {E0 : XK}
    (hr : Room 0 (A.deeper (envOfC "Listener.faulty" (defScope s_Listener_faulty) s.heap.objs.size (F 2) cdv))) :
    B (cxOf CX0 P w K mg base N_Listener_faulty "Listener.faulty" (defScope s_Listener_faulty) (F 2) cdv A outer s H E0).nox (defBody s_Listener_faulty) (rd_Listener_faulty C) :=
  (b_one (s_ret (e_fld T.cl_Listener T.n_Listener__faulty (e_var 0))))
theorem dv_ListenerUfault (T : Tx K mg F D C) {cdv : Value} {A : Around} {outer : List Env} {s : Shared} {H : Hp} {E0 : XK}
    (hr : Room 0 (A.deeper (envOfC "Listener._fault" (defScope s_ListenerUfault) s.heap.objs.size (F 3) cdv))) :
    B (cxOf CX0 P w K mg base N_ListenerUfault "Listener._fault" (defScope s_ListenerUfault) (F 3) cdv A outer s H E0).nox (defBody s_ListenerUfault) (rd_ListenerUfault C) :=
  (b_cons (s_fld T.cl_Listener T.n_Listener__faulty (e_var 0) e_bl)
  (b_one (s_ret e_bl)))
theorem dv_ListenerUhear_line (T : Tx K mg F D C) (G_ListenerUfault : FnOk P w K mg base CX0 1 (F 3) (D 3) P_ListenerUfault (lift K 1 (sp_ListenerUfault (C 0)))) (G_read_length : FnOk P w K mg base CX0 2 (F 6) (D 6) P_read_length (lift K 1 sp_read_length)) {cdv : Value} {A : Around} {outer : List Env} {s : Shared} {H : Hp} {E0 : XK}
    (hr : Room 2 (A.deeper (envOfC "Listener._hear_line" (defScope s_ListenerUhear_line) s.heap.objs.size (F 4) cdv))) :
    B (cxOf CX0 P w K mg base N_ListenerUhear_line "Listener._hear_line" (defScope s_ListenerUhear_line) (F 4) cdv A outer s H E0).nox (defBody s_ListenerUhear_line) (rd_ListenerUhear_line C) :=
  (b_cons (s_asg (e_bm PySem.F.plainAttrs_str PySem.F.slot_str_find PySem.F.type_str_find m_find4 (e_fld T.cl_Listener T.n_Listener__text (e_var 0)) (a_cons (e_str [10]) (a_cons (e_fld T.cl_Listener T.n_Listener__at (e_var 0)) (a_cons (e_op o_add (e_op o_add (e_fld T.cl_Listener T.n_Listener__at (e_var 0)) (e_glob T.c_MOST_LINE)) e_int) a_nil)))) (g_name 2 sc_ListenerUhear_line.nd))
  (b_cons (s_if (t_cmp o_lt (e_var 2) e_int) (b_one (s_ret (e_if (t_cmp o_gt (e_op o_sub (e_callB c_len T.b_len (a_cons (e_fld T.cl_Listener T.n_Listener__text (e_var 0)) a_nil)) (e_fld T.cl_Listener T.n_Listener__at (e_var 0))) (e_glob T.c_MOST_LINE)) (e_meth0 T.cl_Listener T.me_ListenerUfault G_ListenerUfault (hr.mono (by first | decide | omega)) T.d_ListenerUfault.bi (e_var 0)) e_bl))) b_nil)
  (b_cons (s_asg (e_callTyL cl_tuple T.b_tuple (l_new (n_split (e_slice (e_fld T.cl_Listener T.n_Listener__text (e_var 0)) (p_some (e_fld T.cl_Listener T.n_Listener__at (e_var 0))) (p_some (e_var 2))) (e_str [32])))) (g_name 3 sc_ListenerUhear_line.nd))
  (b_cons (s_if (t_cmp o_in (e_str []) (e_var 3)) (b_one (s_ret (e_meth0 T.cl_Listener T.me_ListenerUfault G_ListenerUfault (hr.mono (by first | decide | omega)) T.d_ListenerUfault.bi (e_var 0)))) b_nil)
  (b_cons (s_fld T.cl_Listener T.n_Listener__at (e_var 0) (e_op o_add (e_var 2) e_int))
  (b_cons (s_if (t_not (t_tru (e_bm PySem.F.plainAttrs_str PySem.F.slot_str_startswith PySem.F.type_str_startswith m_sta (e_ix (e_var 3) (e_neg e_int)) (a_cons (e_str [123]) a_nil)))) (b_cons (s_expr (e_bm PySem.F.plainAttrs_list PySem.F.slot_list_append PySem.F.type_list_append m_app (e_var 1) (a_cons (e_tup (a_cons (e_var 3) (a_cons e_non a_nil))) a_nil)))
  (b_one (s_ret e_bl))) b_nil)
  (b_cons (s_asg (e_call G_read_length (hr.mono (by first | decide | omega)) T.d_read_length.mg T.d_read_length.fn.kp T.d_read_length.bi (a_cons (e_ix (e_var 3) (e_neg e_int)) a_nil)) (g_name 4 sc_ListenerUhear_line.nd))
  (b_cons (s_if (DL.T.w (w_or (t_cmp o_isN (e_var 4) e_non) (w_or1 (t_cmp o_gt (e_var 4) (e_fld T.cl_Listener T.n_Listener__most (e_var 0)))))) (b_one (s_ret (e_meth0 T.cl_Listener T.me_ListenerUfault G_ListenerUfault (hr.mono (by first | decide | omega)) T.d_ListenerUfault.bi (e_var 0)))) b_nil)
  (b_cons (s_fld T.cl_Listener T.n_Listener__words (e_var 0) (e_slice (e_var 3) p_none (p_some (e_neg e_int))))
  (b_cons (s_fld T.cl_Listener T.n_Listener__many (e_var 0) (e_var 4))
  (b_one (s_ret e_bl))))))))))))
theorem dv_ListenerUhear_literal (T : Tx K mg F D C) (G_ListenerUfault : FnOk P w K mg base CX0 1 (F 3) (D 3) P_ListenerUfault (lift K 1 (sp_ListenerUfault (C 0)))) {cdv : Value} {A : Around} {outer : List Env} {s : Shared} {H : Hp} {E0 : XK}
    (hr : Room 1 (A.deeper (envOfC "Listener._hear_literal" (defScope s_ListenerUhear_literal) s.heap.objs.size (F 5) cdv))) :
    B (cxOf CX0 P w K mg base N_ListenerUhear_literal "Listener._hear_literal" (defScope s_ListenerUhear_literal) (F 5) cdv A outer s H E0).nox (defBody s_ListenerUhear_literal) (rd_ListenerUhear_literal C) :=
  (b_cons (s_asg (e_op o_add (e_fld T.cl_Listener T.n_Listener__at (e_var 0)) (e_fld T.cl_Listener T.n_Listener__many (e_var 0))) (g_name 2 sc_ListenerUhear_literal.nd))
  (b_cons (s_if (t_cmp o_le (e_callB c_len T.b_len (a_cons (e_fld T.cl_Listener T.n_Listener__text (e_var 0)) a_nil)) (e_var 2)) (b_one (s_ret e_bl)) b_nil)
  (b_cons (s_if (t_cmp o_ne (e_ix (e_fld T.cl_Listener T.n_Listener__text (e_var 0)) (e_var 2)) (e_str [10])) (b_one (s_ret (e_meth0 T.cl_Listener T.me_ListenerUfault G_ListenerUfault (hr.mono (by first | decide | omega)) T.d_ListenerUfault.bi (e_var 0)))) b_nil)
  (b_cons (s_expr (e_bm PySem.F.plainAttrs_list PySem.F.slot_list_append PySem.F.type_list_append m_app (e_var 1) (a_cons (e_tup (a_cons (e_fld T.cl_Listener T.n_Listener__words (e_var 0)) (a_cons (e_slice (e_fld T.cl_Listener T.n_Listener__text (e_var 0)) (p_some (e_fld T.cl_Listener T.n_Listener__at (e_var 0))) (p_some (e_var 2))) a_nil))) a_nil)))
  (b_cons (s_fld T.cl_Listener T.n_Listener__words (e_var 0) e_non)
  (b_cons (s_fld T.cl_Listener T.n_Listener__at (e_var 0) (e_op o_add (e_var 2) e_int))
  (b_one (s_ret e_bl))))))))
theorem dv_read_length (T : Tx K mg F D C) (G_read_number : FnOk P w K mg base CX0 1 (F 7) (D 7) P_read_number (lift K 1 sp_read_number)) {cdv : Value} {A : Around} {outer : List Env} {s : Shared} {H : Hp} {E0 : XK}
    (hr : Room 1 (A.deeper (envOfC "read_length" (defScope s_read_length) s.heap.objs.size (F 6) cdv))) :
    B (cxOf CX0 P w K mg base N_read_length "read_length" (defScope s_read_length) (F 6) cdv A outer s H E0).nox (defBody s_read_length) (rd_read_length) :=
  (b_cons (s_if (DL.T.w (w_or (t_not (t_tru (e_bm PySem.F.plainAttrs_str PySem.F.slot_str_endswith PySem.F.type_str_endswith m_end (e_var 0) (a_cons (e_str [125]) a_nil)))) (w_or1 (t_cmp o_gt (e_callB c_len T.b_len (a_cons (e_var 0) a_nil)) e_int)))) (b_one (s_ret e_non)) b_nil)
  (b_one (s_ret (e_call G_read_number (hr.mono (by first | decide | omega)) T.d_read_number.mg T.d_read_number.fn.kp T.d_read_number.bi (a_cons (e_slice (e_var 0) (p_some e_int) (p_some (e_neg e_int))) a_nil)))))
theorem dv_read_number (T : Tx K mg F D C) {cdv : Value} {A : Around} {outer : List Env} {s : Shared} {H : Hp} {E0 : XK}
    (hr : Room 0 (A.deeper (envOfC "read_number" (defScope s_read_number) s.heap.objs.size (F 7) cdv))) :
    B (cxOf CX0 P w K mg base N_read_number "read_number" (defScope s_read_number) (F 7) cdv A outer s H E0).nox (defBody s_read_number) (rd_read_number) :=
  (b_cons (s_if (DL.T.w (w_or (t_not (t_tru (e_bm0 PySem.F.plainAttrs_str PySem.F.slot_str_isascii PySem.F.type_str_isascii m_isasc (e_var 0)))) (w_or (t_not (t_tru (e_bm0 PySem.F.plainAttrs_str PySem.F.slot_str_isdigit PySem.F.type_str_isdigit m_isdig (e_var 0)))) (w_or1 (t_cmp o_gt (e_callB c_len T.b_len (a_cons (e_var 0) a_nil)) e_int))))) (b_one (s_ret e_non)) b_nil)
  (b_cons (s_if (DL.T.w (w_and (t_tru (e_bm PySem.F.plainAttrs_str PySem.F.slot_str_startswith PySem.F.type_str_startswith m_sta (e_var 0) (a_cons (e_str [48]) a_nil))) (w_and1 (t_cmp o_ne (e_var 0) (e_str [48]))))) (b_one (s_ret e_non)) b_nil)
  (b_one (s_ret (e_callTy c_intS T.b_int (a_cons (e_var 0) a_nil))))))
theorem dv_say (T : Tx K mg F D C) {cdv : Value} {A : Around} {outer : List Env} {s : Shared} {H : Hp} {E0 : XK}
    (hr : Room 0 (A.deeper (envOfC "say" (defScope s_say) s.heap.objs.size (F 8) cdv))) :
    B (cxOf CX0 P w K mg base N_say "say" (defScope s_say) (F 8) cdv A outer s H E0).nox (defBody s_say) (rd_say) :=
  (b_cons (s_if (t_cmp o_isN (e_var 1) e_non) (b_one (s_ret (e_op o_add (e_bm PySem.F.plainAttrs_str PySem.F.slot_str_join PySem.F.type_str_join m_joinT (e_str [32]) (a_cons (e_var 0) a_nil)) (e_str [10])))) b_nil)
  (b_cons (s_asg (e_op o_add (e_op o_add (e_str [123]) (e_callTy c_str T.b_str (a_cons (e_callB c_len T.b_len (a_cons (e_var 1) a_nil)) a_nil))) (e_str [125])) (g_name 2 sc_say.nd))
  (b_one (s_ret (e_op o_add (e_op o_add (e_op o_add (e_bmL PySem.F.plainAttrs_str PySem.F.slot_str_join PySem.F.type_str_join m_join (e_str [32]) (l_new (n_lst (a_star (e_var 0) (a_cons (e_var 2) a_nil))))) (e_str [10])) (e_var 1)) (e_str [10]))))))
theorem dv_llaw_cell (T : Tx K mg F D C) {cdv : Value} {A : Around} {outer : List Env} {s : Shared} {H : Hp} {E0 : XK}
    (hr : Room 0 (A.deeper (envOfC "_law_cell" (defScope s_llaw_cell) s.heap.objs.size (F 9) cdv))) :
    B (cxOf CX0 P w K mg base N_llaw_cell "_law_cell" (defScope s_llaw_cell) (F 9) cdv A outer s H E0).nox (defBody s_llaw_cell) (rd_llaw_cell) :=
  (b_cons (s_if (t_cmp o_lt (e_var 1) (e_callB c_len T.b_len (a_cons (e_var 0) a_nil))) (b_one (s_ret (e_ix (e_var 0) (e_var 1)))) b_nil)
  (b_one (s_ret e_int)))
theorem dv_llaw_digits (T : Tx K mg F D C) (G_llaw_cell : FnOk P w K mg base CX0 1 (F 9) (D 9) P_llaw_cell (lift K 2 sp_llaw_cell)) {cdv : Value} {A : Around} {outer : List Env} {s : Shared} {H : Hp} {E0 : XK}
    (hr : Room 1 (A.deeper (envOfC "_law_digits" (defScope s_llaw_digits) s.heap.objs.size (F 10) cdv))) :
    B (cxOf CX0 P w K mg base N_llaw_digits "_law_digits" (defScope s_llaw_digits) (F 10) cdv A outer s H E0).nox (defBody s_llaw_digits) (rd_llaw_digits) :=
  (b_cons (s_asg (e_new (n_lst a_nil)) (g_name 3 sc_llaw_digits.nd))
  (b_cons (s_for (i_rng2 T.b_range (a_cons (e_var 1) (a_cons (e_var 2) a_nil))) (g_name 4 sc_llaw_digits.nd) (b_cons (s_if (t_cmp o_gt (e_callB c_len T.b_len (a_cons (e_var 3) a_nil)) e_int) (b_one s_break) b_nil)
  (b_cons (s_asg (e_call G_llaw_cell (hr.mono (by first | decide | omega)) T.d_llaw_cell.mg T.d_llaw_cell.fn.kp T.d_llaw_cell.bi (a_cons (e_var 0) (a_cons (e_var 4) a_nil))) (g_name 5 sc_llaw_digits.nd))
  (b_cons (s_if (t_cmp o_lt (e_var 5) e_int) (b_one (s_asg (e_op o_sub e_int (e_op o_mul e_int (e_var 5))) (g_name 5 sc_llaw_digits.nd))) b_nil)
  (b_one (s_if (t_cmp o_ge (e_var 5) (e_op o_pow e_int e_int)) (b_one (s_for (i_rng1 T.b_range (a_cons e_int a_nil)) (g_name 6 sc_llaw_digits.nd) (b_one (s_if (t_cmp o_gt (e_var 5) e_int) (b_cons (s_expr (e_bm PySem.F.plainAttrs_list PySem.F.slot_list_append PySem.F.type_list_append m_app (e_var 3) (a_cons (e_op o_mod (e_callTy c_int T.b_int (a_cons (e_var 5) a_nil)) e_int) a_nil)))
  (b_one (s_asg (e_op o_fdiv (e_var 5) e_int) (g_name 5 sc_llaw_digits.nd)))) b_nil)))) (b_cons (s_asg (e_op o_mod (e_callTy c_int T.b_int (a_cons (e_op o_add (e_op o_add (e_op o_mul (e_var 5) e_int) (e_op o_mul (e_var 4) e_int)) e_int) a_nil)) e_int) (g_name 7 sc_llaw_digits.nd))
  (b_one (s_for (i_rng1 T.b_range (a_cons e_int a_nil)) (g_name 6 sc_llaw_digits.nd) (b_cons (s_asg (e_op o_mod (e_callTy c_int T.b_int (a_cons (e_op o_add (e_op o_add (e_op o_mul (e_var 7) e_int) (e_op o_mul e_int (e_var 6))) e_int) a_nil)) e_int) (g_name 7 sc_llaw_digits.nd))
  (b_one (s_expr (e_bm PySem.F.plainAttrs_list PySem.F.slot_list_append PySem.F.type_list_append m_app (e_var 3) (a_cons (e_op o_mod (e_callTy c_int T.b_int (a_cons (e_op o_fdiv (e_var 7) e_int) a_nil)) e_int) a_nil))))))))))))))
  (b_one (s_ret (e_var 3)))))
theorem dv_llaw_draw (T : Tx K mg F D C) {cdv : Value} {A : Around} {outer : List Env} {s : Shared} {H : Hp} {E0 : XK}
    (hr : Room 0 (A.deeper (envOfC "_law_draw" (defScope s_llaw_draw) s.heap.objs.size (F 11) cdv))) :
    B (cxOf CX0 P w K mg base N_llaw_draw "_law_draw" (defScope s_llaw_draw) (F 11) cdv A outer s H E0).nox (defBody s_llaw_draw) (rd_llaw_draw) :=
  (b_cons (s_asg (e_ix (e_var 0) e_int) (g_name 2 sc_llaw_draw.nd))
  (b_cons (s_asg (e_op o_add (e_var 2) e_int) (g_setL (e_var 0) e_int))
  (b_cons (s_if (t_cmp o_lt (e_var 2) (e_callB c_len T.b_len (a_cons (e_ix (e_var 0) e_int) a_nil))) (b_one (s_ret (e_op o_mod (e_callTy c_int T.b_int (a_cons (e_ix (e_ix (e_var 0) e_int) (e_var 2)) a_nil)) (e_var 1)))) b_nil)
  (b_one (s_ret (e_op o_mod (e_callTy c_int T.b_int (a_cons (e_op o_mul (e_var 2) e_int) a_nil)) (e_var 1)))))))
theorem dv_llaw_same (n : Nat) (T : Tx K mg F D C) (G_llaw_same : FnOk P w K mg base CX0 n (F 12) (D 12) P_llaw_same (lift K 2 (sp_same n))) {cdv : Value} {A : Around} {outer : List Env} {s : Shared} {H : Hp} {E0 : XK}
    (hr : Room n (A.deeper (envOfC "_law_same" (defScope s_llaw_same) s.heap.objs.size (F 12) cdv))) :
    B (cxOf CX0 P w K mg base N_llaw_same "_law_same" (defScope s_llaw_same) (F 12) cdv A outer s H E0).nox (defBody s_llaw_same) (rd_llaw_same n) :=
  (b_cons (s_if (t_tru (e_isi .tTuple (e_var 1) T.b_isinstance T.b_tuple)) (b_cons (s_if (DL.T.w (w_or (t_not (t_tru (e_isi .tTuple (e_var 0) T.b_isinstance T.b_tuple))) (w_or1 (t_cmp o_ne (e_callB c_len T.b_len (a_cons (e_var 0) a_nil)) (e_callB c_len T.b_len (a_cons (e_var 1) a_nil)))))) (b_one (s_ret e_bl)) b_nil)
  (b_cons (s_for (i_rng1 T.b_range (a_cons (e_callB c_len T.b_len (a_cons (e_var 1) a_nil)) a_nil)) (g_name 2 sc_llaw_same.nd) (b_one (s_if (t_not (t_tru (e_call G_llaw_same (hr.mono (by first | decide | omega)) T.d_llaw_same.mg T.d_llaw_same.fn.kp T.d_llaw_same.bi (a_cons (e_ix (e_var 0) (e_var 2)) (a_cons (e_ix (e_var 1) (e_var 2)) a_nil))))) (b_one (s_ret e_bl)) b_nil)))
  (b_one (s_ret e_bl)))) b_nil)
  (b_cons (s_if (t_cmp o_isN (e_var 1) e_non) (b_one (s_ret (e_cmp o_isN (e_var 0) e_non))) b_nil)
  (b_cons (s_if (t_cmp o_isB (e_var 1) e_bl) (b_one (s_ret (e_cmp o_isB (e_var 0) e_bl))) b_nil)
  (b_cons (s_if (t_cmp o_isB (e_var 1) e_bl) (b_one (s_ret (e_cmp o_isB (e_var 0) e_bl))) b_nil)
  (b_cons (s_if (t_tru (e_isi .tInt (e_var 1) T.b_isinstance T.b_int)) (b_one (s_ret (e_and (e_isi .tInt (e_var 0) T.b_isinstance T.b_int) (e_and (e_not (e_isi .tBool (e_var 0) T.b_isinstance T.b_bool)) (e_one (e_cmp o_eq (e_var 0) (e_var 1))))))) b_nil)
  (b_one (s_ret (e_and (e_isi .tStr (e_var 0) T.b_isinstance T.b_str) (e_one (e_cmp o_eq (e_var 0) (e_var 1)))))))))))
theorem dv_llaw_command (T : Tx K mg F D C) (G_llaw_draw : FnOk P w K mg base CX0 1 (F 11) (D 11) P_llaw_draw (lift K 2 sp_llaw_draw)) {cdv : Value} {A : Around} {outer : List Env} {s : Shared} {H : Hp} {E0 : XK}
    (hr : Room 1 (A.deeper (envOfC "_law_command" (defScope s_llaw_command) s.heap.objs.size (F 13) cdv))) :
    B (cxOf CX0 P w K mg base N_llaw_command "_law_command" (defScope s_llaw_command) (F 13) cdv A outer s H E0).nox (defBody s_llaw_command) (rd_llaw_command) :=
  (b_cons (s_asg (e_op o_add e_int (e_call G_llaw_draw (hr.mono (by first | decide | omega)) T.d_llaw_draw.mg T.d_llaw_draw.fn.kp T.d_llaw_draw.bi (a_cons (e_var 0) (a_cons e_int a_nil)))) (g_name 1 sc_llaw_command.nd))
  (b_cons (s_asg (e_callTyL cl_tuple T.b_tuple (l_new (n_lc (own := [("k", 4)]) sc_llaw_command.nd (i_rng1 T.b_range (a_cons (e_var 1) a_nil)) (by first | (show blkC N_llaw_command (defScope s_llaw_command) _ _ = true; decide +kernel) | rfl) (gw_name 4 sc_llaw_command.nd) tw_nil fun _ _ _ _ _ => (e_ixN (n_lst (a_cons (e_str [100, 111]) (a_cons (e_str [97, 123]) (a_cons (e_str [55]) (a_cons (e_str [45]) (a_cons (e_str [120, 58, 121]) (a_cons (e_str [123, 49, 125, 120]) (a_cons (e_str [123, 48, 49, 125]) (a_cons (e_str [91]) (a_cons (e_str [78, 97, 109, 101]) a_nil)))))))))) (e_call G_llaw_draw (hr.mono (by first | decide | omega)) T.d_llaw_draw.mg T.d_llaw_draw.fn.kp T.d_llaw_draw.bi (a_cons (e_var 0) (a_cons e_int a_nil))))))) (g_name 2 sc_llaw_command.nd))
  (b_cons (s_asg (e_callTyL cl_tuple T.b_tuple (l_new (n_lc (own := [("word", 5)]) sc_llaw_command.nd (i_of (e_var 2)) (by first | (show blkC N_llaw_command (defScope s_llaw_command) _ _ = true; decide +kernel) | rfl) (gw_name 5 sc_llaw_command.nd) tw_nil fun _ _ _ _ _ => (e_if (t_cmp o_ne (e_var 5) (e_str [123, 48, 49, 125])) (e_var 5) (e_str [122, 123, 48, 49, 125]))))) (g_name 2 sc_llaw_command.nd))
  (b_cons (s_asg e_non (g_name 3 sc_llaw_command.nd))
  (b_cons (s_if (t_cmp o_eq (e_call G_llaw_draw (hr.mono (by first | decide | omega)) T.d_llaw_draw.mg T.d_llaw_draw.fn.kp T.d_llaw_draw.bi (a_cons (e_var 0) (a_cons e_int a_nil))) e_int) (b_one (s_asg (e_slice (e_bmL PySem.F.plainAttrs_str PySem.F.slot_str_join PySem.F.type_str_join m_join (e_str []) (l_new (n_lc (own := [("k", 4)]) sc_llaw_command.nd (i_rng1 T.b_range (a_cons (e_call G_llaw_draw (hr.mono (by first | decide | omega)) T.d_llaw_draw.mg T.d_llaw_draw.fn.kp T.d_llaw_draw.bi (a_cons (e_var 0) (a_cons e_int a_nil))) a_nil)) (by first | (show blkC N_llaw_command (defScope s_llaw_command) _ _ = true; decide +kernel) | rfl) (gw_name 4 sc_llaw_command.nd) tw_nil fun _ _ _ _ _ => (e_ixN (n_lst (a_cons (e_str [97]) (a_cons (e_str [10]) (a_cons (e_str [32]) (a_cons (e_str [123, 50, 125]) (a_cons (e_str [100, 111, 32, 49, 10]) (a_cons (e_str [98, 121, 101]) a_nil))))))) (e_call G_llaw_draw (hr.mono (by first | decide | omega)) T.d_llaw_draw.mg T.d_llaw_draw.fn.kp T.d_llaw_draw.bi (a_cons (e_var 0) (a_cons e_int a_nil))))))) p_none (p_some e_int)) (g_name 3 sc_llaw_command.nd))) (b_one (s_if (t_cmp o_eq (e_slice (e_ix (e_var 2) (e_neg e_int)) p_none (p_some e_int)) (e_str [123])) (b_one (s_asg (e_op o_add (e_var 2) (e_tup (a_cons (e_str [101]) a_nil))) (g_name 2 sc_llaw_command.nd))) b_nil)))
  (b_one (s_ret (e_tup (a_cons (e_var 2) (a_cons (e_var 3) a_nil))))))))))
theorem dv_llaw_signs (T : Tx K mg F D C) {cdv : Value} {A : Around} {outer : List Env} {s : Shared} {H : Hp} {E0 : XK}
    (hr : Room 0 (A.deeper (envOfC "_law_signs" (defScope s_llaw_signs) s.heap.objs.size (F 14) cdv))) :
    B (cxOf CX0 P w K mg base N_llaw_signs "_law_signs" (defScope s_llaw_signs) (F 14) cdv A outer s H E0).nox (defBody s_llaw_signs) (rd_llaw_signs) :=
  (b_cons (s_if (t_cmp o_isN (e_ix (e_var 0) e_int) e_non) (b_one (s_ret (e_op o_add (e_bm PySem.F.plainAttrs_str PySem.F.slot_str_join PySem.F.type_str_join m_joinT (e_str [32]) (a_cons (e_ix (e_var 0) e_int) a_nil)) (e_str [10])))) b_nil)
  (b_one (s_ret (e_op o_add (e_op o_add (e_op o_add (e_op o_add (e_op o_add (e_bm PySem.F.plainAttrs_str PySem.F.slot_str_join PySem.F.type_str_join m_joinT (e_str [32]) (a_cons (e_ix (e_var 0) e_int) a_nil)) (e_str [32, 123])) (e_callTy c_str T.b_str (a_cons (e_callB c_len T.b_len (a_cons (e_ix (e_var 0) e_int) a_nil)) a_nil))) (e_str [125, 10])) (e_ix (e_var 0) e_int)) (e_str [10])))))
theorem dv_llaw_wrong (T : Tx K mg F D C) (G_llaw_draw : FnOk P w K mg base CX0 1 (F 11) (D 11) P_llaw_draw (lift K 2 sp_llaw_draw)) {cdv : Value} {A : Around} {outer : List Env} {s : Shared} {H : Hp} {E0 : XK}
    (hr : Room 1 (A.deeper (envOfC "_law_wrong" (defScope s_llaw_wrong) s.heap.objs.size (F 15) cdv))) :
    B (cxOf CX0 P w K mg base N_llaw_wrong "_law_wrong" (defScope s_llaw_wrong) (F 15) cdv A outer s H E0).nox (defBody s_llaw_wrong) (rd_llaw_wrong) :=
  (b_cons (s_asg (e_call G_llaw_draw (hr.mono (by first | decide | omega)) T.d_llaw_draw.mg T.d_llaw_draw.fn.kp T.d_llaw_draw.bi (a_cons (e_var 0) (a_cons e_int a_nil))) (g_name 2 sc_llaw_wrong.nd))
  (b_cons (s_if (t_cmp o_eq (e_var 2) e_int) (b_one (s_ret (e_new (n_lst (a_cons (e_str [10]) (a_cons e_int a_nil)))))) b_nil)
  (b_cons (s_if (t_cmp o_lt (e_var 2) e_int) (b_cons (s_asg (e_ixN (n_lst (a_cons (e_str [32, 97, 10]) (a_cons (e_str [97, 32, 10]) (a_cons (e_str [97, 32, 32, 98, 10]) a_nil)))) (e_op o_sub (e_var 2) e_int)) (g_name 4 sc_llaw_wrong.nd))
  (b_one (s_ret (e_new (n_lst (a_cons (e_var 4) (a_cons (e_callB c_len T.b_len (a_cons (e_var 4) a_nil)) a_nil))))))) b_nil)
  (b_cons (s_if (t_cmp o_eq (e_var 2) e_int) (b_one (s_ret (e_new (n_lst (a_cons (e_op o_mulS (e_str [120]) e_int) (a_cons e_int a_nil)))))) b_nil)
  (b_cons (s_if (t_cmp o_eq (e_var 2) e_int) (b_cons (s_asg (e_op o_add (e_op o_add (e_str [97, 32, 123]) (e_callTy c_str T.b_str (a_cons (e_op o_add (e_var 1) e_int) a_nil))) (e_str [125, 10])) (g_name 4 sc_llaw_wrong.nd))
  (b_one (s_ret (e_new (n_lst (a_cons (e_var 4) (a_cons (e_callB c_len T.b_len (a_cons (e_var 4) a_nil)) a_nil))))))) b_nil)
  (b_cons (s_if (t_cmp o_eq (e_var 2) e_int) (b_cons (s_asg (e_ixN (n_lst (a_cons (e_str [97, 32, 123, 48, 49, 125, 10]) (a_cons (e_str [97, 32, 123, 45, 49, 125, 10]) (a_cons (e_str [97, 32, 123, 125, 10]) (a_cons (e_str [97, 32, 123, 49, 10]) (a_cons (e_str [97, 32, 123, 49, 125, 98, 10]) (a_cons (e_str [97, 32, 123, 49, 50, 51, 52, 53, 54, 125, 10]) a_nil))))))) (e_call G_llaw_draw (hr.mono (by first | decide | omega)) T.d_llaw_draw.mg T.d_llaw_draw.fn.kp T.d_llaw_draw.bi (a_cons (e_var 0) (a_cons e_int a_nil)))) (g_name 4 sc_llaw_wrong.nd))
  (b_one (s_ret (e_new (n_lst (a_cons (e_var 4) (a_cons (e_callB c_len T.b_len (a_cons (e_var 4) a_nil)) a_nil))))))) b_nil)
  (b_cons (s_asg (e_op o_mulS (e_str [121]) (e_call G_llaw_draw (hr.mono (by first | decide | omega)) T.d_llaw_draw.mg T.d_llaw_draw.fn.kp T.d_llaw_draw.bi (a_cons (e_var 0) (a_cons e_int a_nil)))) (g_name 3 sc_llaw_wrong.nd))
  (b_cons (s_asg (e_op o_add (e_op o_add (e_op o_add (e_str [97, 32, 123]) (e_callTy c_str T.b_str (a_cons (e_callB c_len T.b_len (a_cons (e_var 3) a_nil)) a_nil))) (e_str [125, 10])) (e_var 3)) (g_name 4 sc_llaw_wrong.nd))
  (b_one (s_ret (e_new (n_lst (a_cons (e_op o_add (e_var 4) (e_str [122])) (a_cons (e_op o_add (e_callB c_len T.b_len (a_cons (e_var 4) a_nil)) e_int) a_nil))))))))))))))
theorem dv_law (T : Tx K mg F D C) (G_ListenerU_initU : FnOk P w K mg base CX0 1 (F 0) (D 0) P_ListenerU_initU (lift K 2 (sp_ListenerU_initU (C 0)))) (G_Listener_hear : FnOk P w K mg base CX0 4 (F 1) (D 1) P_Listener_hear (lift K 2 (sp_Listener_hear (C 0)))) (G_Listener_faulty : FnOk P w K mg base CX0 1 (F 2) (D 2) P_Listener_faulty (lift K 1 (sp_Listener_faulty (C 0)))) (G_say : FnOk P w K mg base CX0 1 (F 8) (D 8) P_say (lift K 2 sp_say)) (G_llaw_digits : FnOk P w K mg base CX0 2 (F 10) (D 10) P_llaw_digits (lift K 3 sp_llaw_digits)) (G_llaw_draw : FnOk P w K mg base CX0 1 (F 11) (D 11) P_llaw_draw (lift K 2 sp_llaw_draw)) (G_llaw_same : FnOk P w K mg base CX0 4 (F 12) (D 12) P_llaw_same (lift K 2 (sp_same 4))) (G_llaw_command : FnOk P w K mg base CX0 2 (F 13) (D 13) P_llaw_command (lift K 1 sp_llaw_command)) (G_llaw_signs : FnOk P w K mg base CX0 1 (F 14) (D 14) P_llaw_signs (lift K 1 sp_llaw_signs)) (G_llaw_wrong : FnOk P w K mg base CX0 2 (F 15) (D 15) P_llaw_wrong (lift K 2 sp_llaw_wrong)) {cdv : Value} {A : Around} {outer : List Env} {s : Shared} {H : Hp} {E0 : XK}
    (hr : Room 4 (A.deeper (envOfC "law" (defScope s_law) s.heap.objs.size (F 16) cdv))) :
    B (cxOf CX0 P w K mg base N_law "law" (defScope s_law) (F 16) cdv A outer s H E0).nox (defBody s_law) (rd_law C) :=
  (b_cons (s_asg (e_new (n_lst (a_cons (e_call G_llaw_digits (hr.mono (by first | decide | omega)) T.d_llaw_digits.mg T.d_llaw_digits.fn.kp T.d_llaw_digits.bi (a_cons (e_var 0) (a_cons e_int (a_cons e_int a_nil)))) (a_cons e_int a_nil)))) (g_name 1 sc_law.nd))
  (b_cons (s_asg (e_op o_add e_int (e_call G_llaw_draw (hr.mono (by first | decide | omega)) T.d_llaw_draw.mg T.d_llaw_draw.fn.kp T.d_llaw_draw.bi (a_cons (e_var 1) (a_cons e_int a_nil)))) (g_name 2 sc_law.nd))
  (b_cons (s_asg (e_new (n_lc (own := [("k", 15)]) sc_law.nd (i_rng1 T.b_range (a_cons (e_call G_llaw_draw (hr.mono (by first | decide | omega)) T.d_llaw_draw.mg T.d_llaw_draw.fn.kp T.d_llaw_draw.bi (a_cons (e_var 1) (a_cons e_int a_nil))) a_nil)) (by first | (show blkC N_law (defScope s_law) _ _ = true; decide +kernel) | rfl) (gw_name 15 sc_law.nd) tw_nil fun _ _ _ _ _ => (e_call G_llaw_command (hr.mono (by first | decide | omega)) T.d_llaw_command.mg T.d_llaw_command.fn.kp T.d_llaw_command.bi (a_cons (e_var 1) a_nil)))) (g_name 3 sc_law.nd))
  (b_cons (s_asg (e_tup (a_cons (e_new (n_lst a_nil)) (a_cons (e_str []) a_nil))) (g_tup (gs_cons (g_name 10 sc_law.nd) (gs_cons (g_name 11 sc_law.nd) gs_nil))))
  (b_cons (s_for (i_of (e_var 3)) (g_name 4 sc_law.nd) (b_cons (s_if (t_not (t_tru (e_call G_llaw_same (hr.mono (by first | decide | omega)) T.d_llaw_same.mg T.d_llaw_same.fn.kp T.d_llaw_same.bi (a_cons (e_call G_say (hr.mono (by first | decide | omega)) T.d_say.mg T.d_say.fn.kp T.d_say.bi (a_cons (e_ix (e_var 4) e_int) (a_cons (e_ix (e_var 4) e_int) a_nil))) (a_cons (e_call G_llaw_signs (hr.mono (by first | decide | omega)) T.d_llaw_signs.mg T.d_llaw_signs.fn.kp T.d_llaw_signs.bi (a_cons (e_var 4) a_nil)) a_nil))))) (b_one (s_ret e_bl)) b_nil)
  (b_cons (s_asg (e_op o_add (e_var 11) (e_call G_llaw_signs (hr.mono (by first | decide | omega)) T.d_llaw_signs.mg T.d_llaw_signs.fn.kp T.d_llaw_signs.bi (a_cons (e_var 4) a_nil))) (g_name 11 sc_law.nd))
  (b_one (s_expr (e_bm PySem.F.plainAttrs_list PySem.F.slot_list_append PySem.F.type_list_append m_app (e_var 10) (a_cons (e_callB c_len T.b_len (a_cons (e_var 11) a_nil)) a_nil)))))))
  (b_cons (s_asg (e_neg e_int) (g_name 5 sc_law.nd))
  (b_cons (s_if (t_cmp o_eq (e_call G_llaw_draw (hr.mono (by first | decide | omega)) T.d_llaw_draw.mg T.d_llaw_draw.fn.kp T.d_llaw_draw.bi (a_cons (e_var 1) (a_cons e_int a_nil))) e_int) (b_cons (s_asg (e_call G_llaw_wrong (hr.mono (by first | decide | omega)) T.d_llaw_wrong.mg T.d_llaw_wrong.fn.kp T.d_llaw_wrong.bi (a_cons (e_var 1) (a_cons (e_var 2) a_nil))) (g_name 12 sc_law.nd))
  (b_cons (s_asg (e_op o_add (e_callB c_len T.b_len (a_cons (e_var 11) a_nil)) (e_ix (e_var 12) e_int)) (g_name 5 sc_law.nd))
  (b_one (s_asg (e_op o_add (e_op o_add (e_var 11) (e_ix (e_var 12) e_int)) (e_ixN (n_lst (a_cons (e_str []) (a_cons (e_str [10]) (a_cons (e_str [98, 121, 101, 10]) (a_cons (e_str [100, 111, 32, 49, 10]) a_nil))))) (e_call G_llaw_draw (hr.mono (by first | decide | omega)) T.d_llaw_draw.mg T.d_llaw_draw.fn.kp T.d_llaw_draw.bi (a_cons (e_var 1) (a_cons e_int a_nil))))) (g_name 11 sc_law.nd))))) b_nil)
  (b_cons (s_asg (e_new (n_cat (n_callBL cn_sortedI T.b_sorted (l_new (n_lc (own := [("k", 15)]) sc_law.nd (i_rng1 T.b_range (a_cons (e_call G_llaw_draw (hr.mono (by first | decide | omega)) T.d_llaw_draw.mg T.d_llaw_draw.fn.kp T.d_llaw_draw.bi (a_cons (e_var 1) (a_cons e_int a_nil))) a_nil)) (by first | (show blkC N_law (defScope s_law) _ _ = true; decide +kernel) | rfl) (gw_name 15 sc_law.nd) tw_nil fun _ _ _ _ _ => (e_op o_mod (e_callTy c_int T.b_int (a_cons (e_op o_add (e_op o_mul (e_call G_llaw_draw (hr.mono (by first | decide | omega)) T.d_llaw_draw.mg T.d_llaw_draw.fn.kp T.d_llaw_draw.bi (a_cons (e_var 1) (a_cons e_int a_nil))) e_int) (e_call G_llaw_draw (hr.mono (by first | decide | omega)) T.d_llaw_draw.mg T.d_llaw_draw.fn.kp T.d_llaw_draw.bi (a_cons (e_var 1) (a_cons e_int a_nil)))) a_nil)) (e_op o_add (e_callB c_len T.b_len (a_cons (e_var 11) a_nil)) e_int))))) (n_lst (a_cons (e_callB c_len T.b_len (a_cons (e_var 11) a_nil)) a_nil)))) (g_name 6 sc_law.nd))
  (b_cons (s_if (DL.T.w (w_and (t_cmp o_gt (e_var 5) e_int) (w_and1 (t_cmp o_eq (e_call G_llaw_draw (hr.mono (by first | decide | omega)) T.d_llaw_draw.mg T.d_llaw_draw.fn.kp T.d_llaw_draw.bi (a_cons (e_var 1) (a_cons e_int a_nil))) e_int)))) (b_one (s_asg (e_new (n_callBL cn_sortedI T.b_sorted (l_new (n_catE (e_var 6) (n_lst (a_cons (e_op o_sub (e_var 5) e_int) (a_cons (e_var 5) a_nil))))))) (g_name 6 sc_law.nd))) b_nil)
  (b_cons (s_asg (e_make T.mk_Listener G_ListenerU_initU (hr.mono (by first | decide | omega)) T.mg_Listener T.d_ListenerU_initU.bi (a_cons (e_var 2) a_nil)) (g_name 7 sc_law.nd))
  (b_cons (s_asg e_int (g_name 8 sc_law.nd))
  (b_cons (s_if (t_cmp o_notB (e_meth0 T.cl_Listener T.me_Listener_faulty G_Listener_faulty (hr.mono (by first | decide | omega)) T.d_Listener_faulty.bi (e_var 7)) e_bl) (b_one (s_ret e_bl)) b_nil)
  (b_cons (s_for (i_of (e_var 6)) (g_name 9 sc_law.nd) (b_cons (s_asg (e_meth T.cl_Listener T.me_Listener_hear G_Listener_hear (hr.mono (by first | decide | omega)) T.d_Listener_hear.bi (e_var 7) (a_cons (e_slice (e_var 11) (p_some (e_var 8)) (p_some (e_var 9))) a_nil)) (g_name 13 sc_law.nd))
  (b_cons (s_asg (e_callTyL cl_tuple T.b_tuple (l_new (n_lc (own := [("k", 15)]) sc_law.nd (i_rng1 T.b_range (a_cons (e_callB c_len T.b_len (a_cons (e_var 3) a_nil)) a_nil)) (by first | (show blkC N_law (defScope s_law) _ _ = true; decide +kernel) | rfl) (gw_name 15 sc_law.nd) (tw_one fun _ _ _ _ _ => (t_chain o_lt o_le (e_var 8) (e_ix (e_var 10) (e_var 15)) (e_var 9))) fun _ _ _ _ _ => (e_ix (e_var 3) (e_var 15))))) (g_name 14 sc_law.nd))
  (b_cons (s_asg (e_var 9) (g_name 8 sc_law.nd))
  (b_one (s_if (DL.T.w (w_or (t_not (t_tru (e_call G_llaw_same (hr.mono (by first | decide | omega)) T.d_llaw_same.mg T.d_llaw_same.fn.kp T.d_llaw_same.bi (a_cons (e_var 13) (a_cons (e_var 14) a_nil))))) (w_or1 (t_not (t_tru (e_call G_llaw_same (hr.mono (by first | decide | omega)) T.d_llaw_same.mg T.d_llaw_same.fn.kp T.d_llaw_same.bi (a_cons (e_meth0 T.cl_Listener T.me_Listener_faulty G_Listener_faulty (hr.mono (by first | decide | omega)) T.d_Listener_faulty.bi (e_var 7)) (a_cons (e_chain o_lt o_le e_int (e_var 5) (e_var 8)) a_nil)))))))) (b_one (s_ret e_bl)) b_nil))))))
  (b_one (s_ret (e_if (t_cmp o_gt (e_var 5) e_int) (e_cmp (o_eqT (hu hr)) (e_meth T.cl_Listener T.me_Listener_hear G_Listener_hear (hr.mono (by first | decide | omega)) T.d_Listener_hear.bi (e_var 7) (a_cons (e_str [120, 10]) a_nil)) (e_tup a_nil)) e_bl))))))))))))))))
end
end LW

set_option Elab.async false
set_option linter.all false
set_option maxRecDepth 100000
set_option maxHeartbeats 4000000
namespace LW
open PySem PySem.Spec L2 DL
local macro_rules | `(tactic| walk_at "dl") => `(tactic| simp -implicitDefEqProofs only [↓dSeq, ↓dIfS, ↓dTB, ↓dOp, ↓dVar, ↓dC, ↓dLt, ↓dLe, ↓dGt, ↓dGe, ↓rII, ↓rIIc, ↓dCB, ↓dCons, ↓dNil, ↓dLen, ↓dInt, ↓dRet, ↓dRetN, ↓dNext, ↓dIx, ↓dAt, ↓startD, List.map_cons, List.map_nil, List.cons_append, List.nil_append, List.append_nil, List.length_cons, List.length_nil, List.getElem?_cons_zero, List.getElem?_cons_succ, List.length_map, ↓dAsg, ↓dName, ↓dNew, ↓dLst, ↓dFor_k, ↓dRng1, ↓dRng2, ↓dCall_k, ↓dAdd, ↓dSub, ↓dMul, ↓dMod, ↓dFdiv, ↓dPow, ↓dEq, ↓dNe, ↓scd, ↓dIsN, ↓dNotN, ↓dIsB, ↓dNotB, ↓dUn, ↓dNeg, ↓dTru, ↓dTruS, ↓dAnd, ↓dOr, ↓dNot, ↓dNotV, ↓dAndV, ↓dOrV, ↓dIfE, ↓dTup, ↓dDrop, ↓dBM, ↓dBM0, ↓tyD, ↓dApp, ↓dSetL, ↓dAsL, ↓dOnL, ↓dOnN, ↓dIsi, ↓tyName, isT, ↓dBreak, ↓dCont, ↓dPar, ↓endsD, List.set_cons_zero, List.set_cons_succ, List.replicate_succ, List.replicate_zero, su_same, ↓dLc_k, ↓dWhile_k, ↓dWipe, ↓dYes, ↓dIt, ↓dItN, ↓dSlice, ↓dPart, ↓dNoP, ↓dCut, ↓dSliceE, ↓dIxL, ↓dChain, ↓dIn, ↓dNotIn, ↓dInS, ↓mS0, ↓mS1, ↓dSta, ↓dEnd, ↓dFind, ↓dIsasc, ↓dIsdig, ↓dIsalp, ↓dIsaln, ↓dIslow, ↓dIspri, ↓okT, ↓okU, ↓ok2, ↓dFind4, ↓dSplit, ↓dJoin, ↓dJoinT, ↓dMulS, ↓dCatL, ↓dCatE, ↓dCatR, ↓dCatEE, ↓dStar, ↓dIntS, ↓dStr, ↓dMax, ↓dMin, ↓dII, ↓dFld, ↓dSetF, ↓dMeth_k, ↓dMake_k, ↓dGtup, ↓dGcons, ↓dGnil, true_and, and_true, Nat.add_zero, reduceCtorEq, ↓reduceIte, Bool.not_true, Bool.not_false, Bool.false_eq_true, if_true, if_false])
local macro_rules | `(tactic| walk_at "dl*") => `(tactic| simp -implicitDefEqProofs only [*, ↓dSeq, ↓dIfS, ↓dTB, ↓dOp, ↓dVar, ↓dC, ↓dLt, ↓dLe, ↓dGt, ↓dGe, ↓rII, ↓rIIc, ↓dCB, ↓dCons, ↓dNil, ↓dLen, ↓dInt, ↓dRet, ↓dRetN, ↓dNext, ↓dIx, ↓dAt, ↓startD, List.map_cons, List.map_nil, List.cons_append, List.nil_append, List.append_nil, List.length_cons, List.length_nil, List.getElem?_cons_zero, List.getElem?_cons_succ, List.length_map, ↓dAsg, ↓dName, ↓dNew, ↓dLst, ↓dFor_k, ↓dRng1, ↓dRng2, ↓dCall_k, ↓dAdd, ↓dSub, ↓dMul, ↓dMod, ↓dFdiv, ↓dPow, ↓dEq, ↓dNe, ↓scd, ↓dIsN, ↓dNotN, ↓dIsB, ↓dNotB, ↓dUn, ↓dNeg, ↓dTru, ↓dTruS, ↓dAnd, ↓dOr, ↓dNot, ↓dNotV, ↓dAndV, ↓dOrV, ↓dIfE, ↓dTup, ↓dDrop, ↓dBM, ↓dBM0, ↓tyD, ↓dApp, ↓dSetL, ↓dAsL, ↓dOnL, ↓dOnN, ↓dIsi, ↓tyName, isT, ↓dBreak, ↓dCont, ↓dPar, ↓endsD, List.set_cons_zero, List.set_cons_succ, List.replicate_succ, List.replicate_zero, su_same, ↓dLc_k, ↓dWhile_k, ↓dWipe, ↓dYes, ↓dIt, ↓dItN, ↓dSlice, ↓dPart, ↓dNoP, ↓dCut, ↓dSliceE, ↓dIxL, ↓dChain, ↓dIn, ↓dNotIn, ↓dInS, ↓mS0, ↓mS1, ↓dSta, ↓dEnd, ↓dFind, ↓dIsasc, ↓dIsdig, ↓dIsalp, ↓dIsaln, ↓dIslow, ↓dIspri, ↓okT, ↓okU, ↓ok2, ↓dFind4, ↓dSplit, ↓dJoin, ↓dJoinT, ↓dMulS, ↓dCatL, ↓dCatE, ↓dCatR, ↓dCatEE, ↓dStar, ↓dIntS, ↓dStr, ↓dMax, ↓dMin, ↓dII, ↓dFld, ↓dSetF, ↓dMeth_k, ↓dMake_k, ↓dGtup, ↓dGcons, ↓dGnil, true_and, and_true, Nat.add_zero, reduceCtorEq, ↓reduceIte, Bool.not_true, Bool.not_false, Bool.false_eq_true, if_true, if_false])
theorem ok_llaw_cell : ∀ ds S Q, ds.length = 2 → sp_llaw_cell ds S Q → rd_llaw_cell (endsD Q) (startD N_llaw_cell ds) S := by
  rintro ds S Q - ⟨ns, k, rfl, hk, h⟩
  walk_at "dl"
  refine ifb (fun hl => ?_) fun _ => ⟨S, Sle.refl S, h _⟩
  obtain ⟨j, rfl⟩ := Int.eq_ofNat_of_zero_le hk
  have hj : j < ns.length := by omega
  have e : atI (ns.map D.int) (j : Int) = some (D.int ns[j]) := atI_nat (by rw [List.getElem?_map, List.getElem?_eq_getElem hj]; rfl)
  rw [e]
  exact ⟨S, Sle.refl S, h _⟩
theorem ok_llaw_draw : ∀ ds S Q, ds.length = 2 → sp_llaw_draw ds S Q → rd_llaw_draw (endsD Q) (startD N_llaw_draw ds) S := by
  rintro ds S Q - ⟨b, m, rfl, hm, ⟨dg, gs, a, hb, hd, hg, ha, hne⟩, h⟩
  have e1 : atI [D.rf dg, D.int a] 1 = some (.int a) := rfl
  have e0 : ∀ x, atI [D.rf dg, D.int x] 0 = some (.rf dg) := fun _ => rfl
  have e2 : ixN 2 1 = some 1 := rfl
  have e3 : su S b (.lst [.rf dg, .int (a + 1)]) dg = some (.lst (gs.map D.int)) := by rw [su_ne hne]; exact hd
  have bx : Bx b S (su S b (.lst [.rf dg, .int (a + 1)])) := ⟨⟨dg, gs, a + 1, su_same, e3, hg, by omega, hne⟩, fun p hp => su_ne hp⟩
  walk_at "dl*"
  refine ifb (fun hl => ?_) fun _ => ?_
  · obtain ⟨j, rfl⟩ := Int.eq_ofNat_of_zero_le ha
    have hj : j < gs.length := by omega
    have e : atI (gs.map D.int) (j : Int) = some (D.int gs[j]) := atI_nat (by rw [List.getElem?_map, List.getElem?_eq_getElem hj]; rfl)
    rw [e]
    exact ⟨_, Sle.refl _, h _ _ (Int.emod_nonneg _ (by omega)) (Int.emod_lt_of_pos _ hm) bx⟩
  · exact ⟨.inr ⟨by decide, by decide⟩, _, Sle.refl _, h _ _ (Int.emod_nonneg _ (by omega)) (Int.emod_lt_of_pos _ hm) bx⟩
theorem Dig.snoc {gs : List Int} {x : Int} (h : ∀ g ∈ gs, 0 ≤ g ∧ g < 1000) : ∀ g ∈ gs ++ [x % 1000], 0 ≤ g ∧ g < 1000 := fun g hg => by
  rcases List.mem_append.mp hg with z | z
  · exact h g z
  · rw [List.mem_singleton.mp z]; omega
theorem ok_llaw_digits : ∀ ds S Q, ds.length = 3 → sp_llaw_digits ds S Q → rd_llaw_digits (endsD Q) (startD N_llaw_digits ds) S := by
  rintro ds S0 Q - ⟨ns, rfl, h⟩
  walk_at "dl"
  refine ⟨Nat.zero_le _, fun p hp => ⟨by decide, ?_⟩⟩
  refine loop_inv (fun rest δ S => ∃ gs k c t s, δ = [some (.frz (ns.map D.int)), some (.int 0), some (.int 63), some (.rf p), k, c, t, s] ∧ S = su S0 p (.lst (gs.map D.int)) ∧ (∀ g ∈ gs, 0 ≤ g ∧ g < 1000) ∧ gs.length + 60 * rest.length ≤ 3780 ∧ ∀ x ∈ rest, ∃ i : Nat, x = .int i) ?_ ?_ ?_ _ _ _
    ⟨[], none, none, none, none, rfl, rfl, by simp, by simp [rng_len], fun x hx => ?_⟩
  · rintro x xs δ S N ⟨gs, k, c, t, s, rfl, rfl, hg, hl, hx⟩ hN
    obtain ⟨i, rfl⟩ := hx x List.mem_cons_self
    have hx' := fun y hy => hx y (List.mem_cons_of_mem _ hy)
    rw [List.length_cons] at hl
    walk_at "dl"
    refine ifb (fun _ => ?_) fun hs => ?_
    · exact ⟨_, Sle.refl _, h gs p ⟨hg, by omega⟩ hp⟩
    refine ⟨ns, _, rfl, by omega, fun cell => ?_⟩
    -- the two ways behind the cell's sign
    have long : ∀ (c t : Option D) (z : Int), loopK (dName 6) (dIfS (dTB (dOp dGt (dVar 5) (dC (.int 0)))) (dSeq (dDrop (dBM "list" dApp (dVar 3) (dCons (dOp dMod (dCB dInt (dCons (dVar 5) dNil)) (dC (.int 1000))) dNil))) (dAsg (dOp dFdiv (dVar 5) (dC (.int 1000))) (dName 5))) dNext)
        { nx := N, rt := fun d S => ∃ S', Sle S' S ∧ Q d S', bk := dRet (dVar 3) { nx := fun x S => ∃ S', Sle S' S ∧ Q D.non S', rt := fun d S => ∃ S', Sle S' S ∧ Q d S' }, ct := N } (fun _ => True) (rng 0 (Int.toNat 60))
        [some (.frz (ns.map D.int)), some (.int 0), some (.int 63), some (.rf p), some (.int i), some (.int z), t, s] (su S0 p (.lst (gs.map D.int))) .mk .mk .mk .mk := by
      intro c t z
      refine loop_inv (fun rest δ S => ∃ hs k z t, δ = [some (.frz (ns.map D.int)), some (.int 0), some (.int 63), some (.rf p), k, some (.int z), t, s] ∧ S = su S0 p (.lst (hs.map D.int)) ∧ (∀ g ∈ hs, 0 ≤ g ∧ g < 1000) ∧ hs.length + rest.length ≤ gs.length + 60) ?_ ?_ ?_ _ _ _
        ⟨gs, _, z, t, rfl, rfl, hg, by rw [rng_len]; exact Nat.le_refl _⟩
      · rintro x xs δ S N ⟨hs, k, z, t, rfl, rfl, hh, hl⟩ hN
        rw [List.length_cons] at hl
        walk_at "dl"
        refine ifb (fun _ => ?_) fun _ => ?_
        · refine ⟨⟨_, rfl⟩, by omega, by rw [sizeLine_eq]; omega, ⟨by decide, by decide⟩, hN _ _ ⟨hs ++ [z % 1000], _, _, _, rfl, by rw [su_su, List.map_append]; rfl, Dig.snoc hh, by rw [List.length_append, List.length_singleton]; omega⟩⟩
        · exact hN _ _ ⟨hs, _, _, _, rfl, rfl, hh, by omega⟩
      · exact fun _ _ _ _ => trivial
      · rintro δ S ⟨hs, k, z, t, rfl, rfl, hh, hl⟩
        exact hN _ _ ⟨hs, _, _, _, _, rfl, rfl, hh, by simp at hl; omega, hx'⟩
    have short : ∀ (c t : Option D) (z : Int), loopK (dName 6) (dSeq (dAsg (dOp dMod (dCB dInt (dCons (dOp dAdd (dOp dAdd (dOp dMul (dVar 7) (dC (.int 16807))) (dOp dMul (dC (.int 7)) (dVar 6))) (dC (.int 1))) dNil)) (dC (.int 2147483647))) (dName 7))
          (dDrop (dBM "list" dApp (dVar 3) (dCons (dOp dMod (dCB dInt (dCons (dOp dFdiv (dVar 7) (dC (.int 997))) dNil)) (dC (.int 1000))) dNil))))
        { nx := N, rt := fun d S => ∃ S', Sle S' S ∧ Q d S', bk := dRet (dVar 3) { nx := fun x S => ∃ S', Sle S' S ∧ Q D.non S', rt := fun d S => ∃ S', Sle S' S ∧ Q d S' }, ct := N } (fun _ => True) (rng 0 (Int.toNat 12))
        [some (.frz (ns.map D.int)), some (.int 0), some (.int 63), some (.rf p), some (.int i), c, t, some (.int z)] (su S0 p (.lst (gs.map D.int))) .mk .mk .mk .mk := by
      intro c t z
      refine loop_inv (fun rest δ S => ∃ hs k z t, δ = [some (.frz (ns.map D.int)), some (.int 0), some (.int 63), some (.rf p), k, c, t, some (.int z)] ∧ S = su S0 p (.lst (hs.map D.int)) ∧ (∀ g ∈ hs, 0 ≤ g ∧ g < 1000) ∧ hs.length + rest.length ≤ gs.length + 12 ∧ ∀ x ∈ rest, ∃ i : Nat, x = .int i) ?_ ?_ ?_ _ _ _
        ⟨gs, _, z, t, rfl, rfl, hg, by rw [rng_len]; exact Nat.le_refl _, fun x hx => let ⟨i, _, e⟩ := rng_mem hx; ⟨i, by rw [e]; simp⟩⟩
      · rintro x xs δ S N ⟨hs, k, z, t, rfl, rfl, hh, hl, hx⟩ hN
        obtain ⟨i, rfl⟩ := hx x List.mem_cons_self
        rw [List.length_cons] at hl
        walk_at "dl"
        refine ⟨.inr ⟨by decide, by decide⟩, .inl ⟨by decide, by decide⟩, by decide, ⟨_, rfl⟩, ⟨by decide, by decide⟩, by decide, by rw [sizeLine_eq]; omega, hN _ _ ⟨hs ++ [_ % 1000], _, _, _, rfl, by rw [su_su, List.map_append]; rfl, Dig.snoc hh, by rw [List.length_append, List.length_singleton]; omega, fun y hy => hx y (List.mem_cons_of_mem _ hy)⟩⟩
      · exact fun _ _ _ _ => trivial
      · rintro δ S ⟨hs, k, z, t, rfl, rfl, hh, hl, _⟩
        exact hN _ _ ⟨hs, _, _, _, _, rfl, rfl, hh, by simp at hl; omega, hx'⟩
    walk_at "dl"
    refine ifb (fun _ => ?_) fun _ => ?_
    · refine ⟨.inl ⟨by decide, by decide⟩, ⟨by decide, by decide, by decide⟩, ifb (fun _ => ⟨by decide, by decide, long c t _⟩) fun _ => ⟨.inr ⟨by decide, by decide⟩, .inr ⟨by decide, by decide⟩, by decide, by decide, by decide, short _ t _⟩⟩
    · refine ⟨⟨by decide, by decide, by decide⟩, ifb (fun _ => ⟨by decide, by decide, long c t _⟩) fun _ => ⟨.inr ⟨by decide, by decide⟩, .inr ⟨by decide, by decide⟩, by decide, by decide, by decide, short _ t _⟩⟩
  · exact fun _ _ _ _ => trivial
  · rintro δ S ⟨gs, k, c, t, s, rfl, rfl, hg, hl, _⟩
    exact ⟨_, Sle.refl _, h gs p ⟨hg, by simpa using Nat.le_trans (Nat.le_add_right _ _) (Nat.le_trans hl (by decide))⟩ hp⟩
  · obtain ⟨i, _, rfl⟩ := rng_mem hx
    exact ⟨i, by simp⟩
/-! ### _law_same -/
theorem deqs_len : ∀ {a d : List D}, a.length ≠ d.length → deqs a d = false
  | [], [], h => absurd rfl h
  | [], _ :: _, _ => rfl
  | _ :: _, [], _ => rfl
  | x :: a, y :: d, h => by
    have : deqs a d = false := deqs_len (by intro e; exact h (by rw [List.length_cons, List.length_cons, e]))
    show (deq x y && deqs a d) = false
    rw [this, Bool.and_false]
theorem deqs_get : ∀ {a d : List D}, a.length = d.length → (deqs a d = true ↔ ∀ (i : Nat) x y, a[i]? = some x → d[i]? = some y → deq x y = true)
  | [], [], _ => ⟨fun _ i x y h => by simp at h, fun _ => rfl⟩
  | [], _ :: _, h => by simp at h
  | _ :: _, [], h => by simp at h
  | x :: a, y :: d, h => by
    have ih := deqs_get (a := a) (d := d) (by simpa using h)
    show (deq x y && deqs a d) = true ↔ _
    rw [Bool.and_eq_true, ih]
    constructor
    · rintro ⟨h1, h2⟩ i u v hu hv
      cases i with
      | zero => simp at hu hv; subst hu; subst hv; exact h1
      | succ i => exact h2 i u v (by simpa using hu) (by simpa using hv)
    · intro k
      exact ⟨k 0 x y rfl rfl, fun i u v hu hv => k (i + 1) u v (by simpa using hu) (by simpa using hv)⟩
theorem plns_get : ∀ {a : List D}, plns a = true → ∀ (i : Nat) x, a[i]? = some x → pln x = true
  | x :: a, h, i, u, hu => by
    have h' : (pln x && plns a) = true := h
    rw [Bool.and_eq_true] at h'
    cases i with
    | zero => simp at hu; subst hu; exact h'.1
    | succ i => exact plns_get h'.2 i u (by simpa using hu)
  | [], _, i, u, hu => by simp at hu
theorem szds_get : ∀ {a : List D}, szds a = true → ∀ (i : Nat) x, a[i]? = some x → szd x = true
  | x :: a, h, i, u, hu => by
    have h' : (szd x && szds a) = true := h
    rw [Bool.and_eq_true] at h'
    cases i with
    | zero => simp at hu; subst hu; exact h'.1
    | succ i => exact szds_get h'.2 i u (by simpa using hu)
  | [], _, i, u, hu => by simp at hu
theorem deps_get : ∀ {a : List D} (i : Nat) x, a[i]? = some x → dep x ≤ deps a
  | x :: a, i, u, hu => by
    show dep u ≤ max (dep x) (deps a)
    cases i with
    | zero => simp at hu; subst hu; exact Nat.le_max_left _ _
    | succ i => exact Nat.le_trans (deps_get i u (by simpa using hu)) (Nat.le_max_right _ _)
  | [], i, u, hu => by simp at hu
theorem deq_ii (a b : Int) : deq (.int a) (.int b) = decide (a = b) := by rw [deq, Bool.eq_iff_iff]; simp
theorem deq_ss (a b : List Nat) : deq (.str a) (.str b) = decide (a = b) := by rw [deq, Bool.eq_iff_iff]; simp
theorem deq_bb (a b : Bool) : deq (.bl a) (.bl b) = decide (a = b) := by cases a <;> cases b <;> decide
theorem ok_same (n : Nat) : ∀ ds S Q, ds.length = 2 → sp_same (n + 1) ds S Q → rd_llaw_same n (endsD Q) (startD N_llaw_same ds) S := by
  rintro ds S Q - ⟨a, d, rfl, pa, pd, zd, hd, h⟩
  have fin : ∀ b, deq a d = b → ∃ S', Sle S' S ∧ Q (.bl b) S' := fun b e => ⟨S, Sle.refl S, by rw [← e]; exact h⟩
  cases d with
  | tup xs =>
    have zd' : (decide (xs.length < 2 ^ 62) && szds xs) = true := zd
    rw [Bool.and_eq_true, decide_eq_true_eq] at zd'
    cases a with
    | tup ys =>
      walk_at "dl"
      by_cases hl : ys.length = xs.length
      · have e1 : decide ((ys.length : Int) = xs.length) = true := decide_eq_true (by rw [hl])
        rw [e1]
        refine ⟨by omega, by omega, ?_⟩
        refine loop_pre (fun pre δ S' => ∃ t, δ = [some (.tup ys), some (.tup xs), t] ∧ S' = S ∧ ∀ (i : Nat) x y, i < pre.length → ys[i]? = some x → xs[i]? = some y → deq x y = true) ⟨none, rfl, rfl, fun i x y hi => absurd hi (Nat.not_lt_zero _)⟩ ?_ (fun _ _ _ _ => trivial) ?_
        · rintro pre x post e δ S' N ⟨t, rfl, rfl, hp⟩ hN
          obtain ⟨rfl, hlt⟩ := rng_split e
          rw [Int.toNat_natCast] at hlt
          have ex : xs[pre.length]? = some xs[pre.length] := List.getElem?_eq_getElem hlt
          have ey : ys[pre.length]? = some (ys[pre.length]'(by omega)) := List.getElem?_eq_getElem (by omega)
          have ax : atI xs ((0 : Int) + (pre.length : Nat)) = some xs[pre.length] := by rw [Int.zero_add]; exact atI_nat ex
          have ay : atI ys ((0 : Int) + (pre.length : Nat)) = some (ys[pre.length]'(by omega)) := by rw [Int.zero_add]; exact atI_nat ey
          simp only [↓dIfS, ↓dNot, ↓dTru, ↓dCall_k, ↓dCons, ↓dNil, ↓dOp, ↓dVar, ↓dIx, ↓dAt, ↓dName, List.set_cons_succ, List.set_cons_zero, List.getElem?_cons_zero, List.getElem?_cons_succ, ax, ay]
          refine ⟨rfl, _, _, rfl, plns_get pa _ _ ey, plns_get pd _ _ ex, szds_get zd'.2 _ _ ex, ?_, ?_⟩
          · have := deps_get _ _ ex
            have hd' : deps xs + 1 < n + 1 := hd
            omega
          · simp only [dTruS]
            cases e2 : deq (ys[pre.length]'(by omega)) xs[pre.length] with
            | true =>
              simp only [Bool.not_true, Bool.false_eq_true, if_false]
              refine hN _ _ ⟨_, rfl, rfl, fun i x y hi hx hy => ?_⟩
              rw [List.length_append, List.length_singleton] at hi
              by_cases hi' : i < pre.length
              · exact hp i x y hi' hx hy
              · have : i = pre.length := by omega
                subst this
                rw [ey] at hx
                rw [ex] at hy
                cases hx; cases hy
                exact e2
            | false =>
              simp only [Bool.not_false, if_true]
              refine fin false ?_
              show deqs ys xs = false
              cases e3 : deqs ys xs with
              | false => rfl
              | true => rw [(deqs_get hl).mp e3 _ _ _ ey ex] at e2; cases e2
        · rintro δ S' ⟨t, rfl, rfl, hp⟩
          refine fin true ?_
          show deqs ys xs = true
          refine (deqs_get hl).mpr fun i x y hx hy => hp i x y ?_ hx hy
          rw [rng_len, Int.toNat_natCast]
          exact (List.getElem?_eq_some_iff.mp hy).1
      · have e1 : decide ((ys.length : Int) = xs.length) = false := decide_eq_false (by omega)
        rw [e1]
        exact fin false (deqs_len hl)
    | rf p => cases pa
    | frz p => cases pa
    | ty p => cases pa
    | _ => walk_at "dl"; exact fin false rfl
  | non => cases a <;> first | (cases pa; done) | (walk_at "dl"; first | exact fin false (by simp only [deq]) | exact fin true (by simp only [deq]))
  | bl c => cases c <;> cases a <;> first | (cases pa; done) | (walk_at "dl"; first | exact fin _ (deq_bb _ _) | exact fin false (by simp only [deq]) | exact fin true (by simp only [deq]))
  | int i => cases a <;> first | (cases pa; done) | (walk_at "dl"; first | exact fin _ (deq_ii _ _) | exact fin false (by simp only [deq]) | exact fin true (by simp only [deq]))
  | str s => cases a <;> first | (cases pa; done) | (walk_at "dl"; first | exact fin _ (deq_ss _ _) | exact fin false (by simp only [deq]) | exact fin true (by simp only [deq]))
  | rf p => cases pd
  | frz p => cases pd
  | ty p => cases pd
end LW

set_option Elab.async false
set_option linter.all false
set_option maxRecDepth 100000
set_option maxHeartbeats 4000000
namespace LW
open PySem PySem.Spec L2 DL
local macro_rules | `(tactic| walk_at "dl") => `(tactic| simp -implicitDefEqProofs only [↓dSeq, ↓dIfS, ↓dTB, ↓dOp, ↓dVar, ↓dC, ↓dLt, ↓dLe, ↓dGt, ↓dGe, ↓rII, ↓rIIc, ↓dCB, ↓dCons, ↓dNil, ↓dLen, ↓dInt, ↓dRet, ↓dRetN, ↓dNext, ↓dIx, ↓dAt, ↓startD, List.map_cons, List.map_nil, List.cons_append, List.nil_append, List.append_nil, List.length_cons, List.length_nil, List.getElem?_cons_zero, List.getElem?_cons_succ, List.length_map, ↓dAsg, ↓dName, ↓dNew, ↓dLst, ↓dFor_k, ↓dRng1, ↓dRng2, ↓dCall_k, ↓dAdd, ↓dSub, ↓dMul, ↓dMod, ↓dFdiv, ↓dPow, ↓dEq, ↓dNe, ↓scd, ↓dIsN, ↓dNotN, ↓dIsB, ↓dNotB, ↓dUn, ↓dNeg, ↓dTru, ↓dTruS, ↓dAnd, ↓dOr, ↓dNot, ↓dNotV, ↓dAndV, ↓dOrV, ↓dIfE, ↓dTup, ↓dDrop, ↓dBM, ↓dBM0, ↓tyD, ↓dApp, ↓dSetL, ↓dAsL, ↓dOnL, ↓dOnN, ↓dIsi, ↓tyName, isT, ↓dBreak, ↓dCont, ↓dPar, ↓endsD, List.set_cons_zero, List.set_cons_succ, List.replicate_succ, List.replicate_zero, su_same, ↓dLc_k, ↓dWhile_k, ↓dWipe, ↓dYes, ↓dIt, ↓dItN, ↓dSlice, ↓dPart, ↓dNoP, ↓dCut, ↓dSliceE, ↓dIxL, ↓dChain, ↓dIn, ↓dNotIn, ↓dInS, ↓mS0, ↓mS1, ↓dSta, ↓dEnd, ↓dFind, ↓dIsasc, ↓dIsdig, ↓dIsalp, ↓dIsaln, ↓dIslow, ↓dIspri, ↓okT, ↓okU, ↓ok2, ↓dFind4, ↓dSplit, ↓dJoin, ↓dJoinT, ↓dMulS, ↓dCatL, ↓dCatE, ↓dCatR, ↓dCatEE, ↓dStar, ↓dIntS, ↓dStr, ↓dMax, ↓dMin, ↓dII, ↓dFld_m, ↓dSetF_m, ↓dMeth_m, ↓dMake_k, ↓dGtup, ↓dGcons, ↓dGnil, true_and, and_true, Nat.add_zero, reduceCtorEq, ↓reduceIte, Bool.not_true, Bool.not_false, Bool.false_eq_true, if_true, if_false])
local macro_rules | `(tactic| walk_at "dl*") => `(tactic| simp -implicitDefEqProofs only [*, ↓dSeq, ↓dIfS, ↓dTB, ↓dOp, ↓dVar, ↓dC, ↓dLt, ↓dLe, ↓dGt, ↓dGe, ↓rII, ↓rIIc, ↓dCB, ↓dCons, ↓dNil, ↓dLen, ↓dInt, ↓dRet, ↓dRetN, ↓dNext, ↓dIx, ↓dAt, ↓startD, List.map_cons, List.map_nil, List.cons_append, List.nil_append, List.append_nil, List.length_cons, List.length_nil, List.getElem?_cons_zero, List.getElem?_cons_succ, List.length_map, ↓dAsg, ↓dName, ↓dNew, ↓dLst, ↓dFor_k, ↓dRng1, ↓dRng2, ↓dCall_k, ↓dAdd, ↓dSub, ↓dMul, ↓dMod, ↓dFdiv, ↓dPow, ↓dEq, ↓dNe, ↓scd, ↓dIsN, ↓dNotN, ↓dIsB, ↓dNotB, ↓dUn, ↓dNeg, ↓dTru, ↓dTruS, ↓dAnd, ↓dOr, ↓dNot, ↓dNotV, ↓dAndV, ↓dOrV, ↓dIfE, ↓dTup, ↓dDrop, ↓dBM, ↓dBM0, ↓tyD, ↓dApp, ↓dSetL, ↓dAsL, ↓dOnL, ↓dOnN, ↓dIsi, ↓tyName, isT, ↓dBreak, ↓dCont, ↓dPar, ↓endsD, List.set_cons_zero, List.set_cons_succ, List.replicate_succ, List.replicate_zero, su_same, ↓dLc_k, ↓dWhile_k, ↓dWipe, ↓dYes, ↓dIt, ↓dItN, ↓dSlice, ↓dPart, ↓dNoP, ↓dCut, ↓dSliceE, ↓dIxL, ↓dChain, ↓dIn, ↓dNotIn, ↓dInS, ↓mS0, ↓mS1, ↓dSta, ↓dEnd, ↓dFind, ↓dIsasc, ↓dIsdig, ↓dIsalp, ↓dIsaln, ↓dIslow, ↓dIspri, ↓okT, ↓okU, ↓ok2, ↓dFind4, ↓dSplit, ↓dJoin, ↓dJoinT, ↓dMulS, ↓dCatL, ↓dCatE, ↓dCatR, ↓dCatEE, ↓dStar, ↓dIntS, ↓dStr, ↓dMax, ↓dMin, ↓dII, ↓dFld_m, ↓dSetF_m, ↓dMeth_m, ↓dMake_k, ↓dGtup, ↓dGcons, ↓dGnil, true_and, and_true, Nat.add_zero, reduceCtorEq, ↓reduceIte, Bool.not_true, Bool.not_false, Bool.false_eq_true, if_true, if_false])
theorem cut_from {β : Type} {xs : List β} {a : Nat} : cutD xs (some (a : Int)) none = xs.drop a := by
  unfold cutD
  rw [HT.sIx_nat, HT.sIx_none, List.take_of_length_le (by rw [List.length_drop]; exact Nat.le_refl _)]
  by_cases h : a ≤ xs.length
  · rw [Nat.min_eq_left h]
  · rw [Nat.min_eq_right (by omega), List.drop_of_length_le (Nat.le_refl _), List.drop_of_length_le (by omega)]
theorem cut_to {β : Type} {xs : List β} {b : Nat} : cutD xs none (some (b : Int)) = xs.take b := by
  unfold cutD
  rw [HT.sIx_nat, HT.sIx_none, List.drop_zero, Nat.sub_zero]
  by_cases h : b ≤ xs.length
  · rw [Nat.min_eq_left h]
  · rw [Nat.min_eq_right (by omega), List.take_of_length_le (Nat.le_refl _), List.take_of_length_le (by omega)]
theorem cut_mid {β : Type} {xs : List β} {a b : Nat} (ha : a ≤ b) (hb : b ≤ xs.length) : cutD xs (some (a : Int)) (some (b : Int)) = (xs.drop a).take (b - a) := by
  unfold cutD
  rw [HT.sIx_nat, HT.sIx_nat, Nat.min_eq_left hb, Nat.min_eq_left (Nat.le_trans ha hb)]
theorem sIx_m1 (n d : Nat) : HT.sIx n d (some (-1)) = n - 1 := by
  show (if (-1 : Int) < 0 then ((-1 : Int) + (n : Int)).toNat else min (-1 : Int).toNat n) = _
  rw [if_pos (by decide)]
  omega
theorem cut_last {β : Type} {xs : List β} : cutD xs none (some (-1)) = xs.dropLast := by
  unfold cutD
  rw [sIx_m1, HT.sIx_none, List.drop_zero, Nat.sub_zero, List.dropLast_eq_take]
theorem cut_ml {β : Type} {xs : List β} (h : 1 ≤ xs.length) : cutD xs (some 1) (some (-1)) = (xs.drop 1).dropLast := by
  unfold cutD
  rw [sIx_m1, show HT.sIx xs.length 0 (some 1) = 1 from by rw [show (1 : Int) = ((1 : Nat) : Int) from rfl, HT.sIx_nat]; omega, List.dropLast_eq_take, List.length_drop]
theorem lf_len {m : Int} {t : List Nat} {a : Int} {w : D} {n : Int} {f : Bool} : (LF m t a w n f).length < 1000 := (by decide : 6 < 1000)
theorem lf_len' {m : Int} {t : List Nat} {a : Int} {w : D} {n : Int} {f : Bool} : ((LF m t a w n f).length < 1000) = True := eq_true lf_len
theorem lk_most {m : Int} {t : List Nat} {a : Int} {w : D} {n : Int} {f : Bool} : (LF m t a w n f).lookup ("_most" : Str) = some (D.int m) := rfl
theorem pf_most {m : Int} {t : List Nat} {a : Int} {w : D} {n : Int} {f : Bool} {m' : Int} : putFD ("_most" : Str) (D.int m') (LF m t a w n f) = LF m' t a w n f := rfl
theorem lk_text {m : Int} {t : List Nat} {a : Int} {w : D} {n : Int} {f : Bool} : (LF m t a w n f).lookup ("_text" : Str) = some (D.str t) := rfl
theorem pf_text {m : Int} {t : List Nat} {a : Int} {w : D} {n : Int} {f : Bool} {t' : List Nat} : putFD ("_text" : Str) (D.str t') (LF m t a w n f) = LF m t' a w n f := rfl
theorem lk_at {m : Int} {t : List Nat} {a : Int} {w : D} {n : Int} {f : Bool} : (LF m t a w n f).lookup ("_at" : Str) = some (D.int a) := rfl
theorem pf_at {m : Int} {t : List Nat} {a : Int} {w : D} {n : Int} {f : Bool} {a' : Int} : putFD ("_at" : Str) (D.int a') (LF m t a w n f) = LF m t a' w n f := rfl
theorem lk_words {m : Int} {t : List Nat} {a : Int} {w : D} {n : Int} {f : Bool} : (LF m t a w n f).lookup ("_words" : Str) = some (w) := rfl
theorem pf_words {m : Int} {t : List Nat} {a : Int} {w : D} {n : Int} {f : Bool} {w' : D} : putFD ("_words" : Str) w' (LF m t a w n f) = LF m t a w' n f := rfl
theorem lk_many {m : Int} {t : List Nat} {a : Int} {w : D} {n : Int} {f : Bool} : (LF m t a w n f).lookup ("_many" : Str) = some (D.int n) := rfl
theorem pf_many {m : Int} {t : List Nat} {a : Int} {w : D} {n : Int} {f : Bool} {n' : Int} : putFD ("_many" : Str) (D.int n') (LF m t a w n f) = LF m t a w n' f := rfl
theorem lk_faulty {m : Int} {t : List Nat} {a : Int} {w : D} {n : Int} {f : Bool} : (LF m t a w n f).lookup ("_faulty" : Str) = some (D.bl f) := rfl
theorem pf_faulty {m : Int} {t : List Nat} {a : Int} {w : D} {n : Int} {f : Bool} {f' : Bool} : putFD ("_faulty" : Str) (D.bl f') (LF m t a w n f) = LF m t a w n f' := rfl
theorem lm_fault {m : Int} {t : List Nat} {a : Int} {w : D} {n : Int} {f : Bool} : (LF m t a w n f).lookup ("_fault" : Str) = none := rfl
theorem lm_hear_line {m : Int} {t : List Nat} {a : Int} {w : D} {n : Int} {f : Bool} : (LF m t a w n f).lookup ("_hear_line" : Str) = none := rfl
theorem lm_hear_literal {m : Int} {t : List Nat} {a : Int} {w : D} {n : Int} {f : Bool} : (LF m t a w n f).lookup ("_hear_literal" : Str) = none := rfl
theorem lm_hear {m : Int} {t : List Nat} {a : Int} {w : D} {n : Int} {f : Bool} : (LF m t a w n f).lookup ("hear" : Str) = none := rfl
theorem lm_faulty_ {m : Int} {t : List Nat} {a : Int} {w : D} {n : Int} {f : Bool} : (LF m t a w n f).lookup ("faulty" : Str) = none := rfl
local macro_rules | `(tactic| walk_at "dlf") => `(tactic| simp -implicitDefEqProofs only [*, lf_len', ↓lk_most, pf_most, ↓lk_text, pf_text, ↓lk_at, pf_at, ↓lk_words, pf_words, ↓lk_many, pf_many, ↓lk_faulty, pf_faulty, lm_fault, lm_hear_line, lm_hear_literal, lm_hear, lm_faulty_, su_same, ↓dSeq, ↓dIfS, ↓dTB, ↓dOp, ↓dVar, ↓dC, ↓dLt, ↓dLe, ↓dGt, ↓dGe, ↓rII, ↓rIIc, ↓dCB, ↓dCons, ↓dNil, ↓dLen, ↓dInt, ↓dRet, ↓dRetN, ↓dNext, ↓dIx, ↓dAt, ↓startD, List.map_cons, List.map_nil, List.cons_append, List.nil_append, List.append_nil, List.length_cons, List.length_nil, List.getElem?_cons_zero, List.getElem?_cons_succ, List.length_map, ↓dAsg, ↓dName, ↓dNew, ↓dLst, ↓dFor_k, ↓dRng1, ↓dRng2, ↓dCall_k, ↓dAdd, ↓dSub, ↓dMul, ↓dMod, ↓dFdiv, ↓dPow, ↓dEq, ↓dNe, ↓scd, ↓dIsN, ↓dNotN, ↓dIsB, ↓dNotB, ↓dUn, ↓dNeg, ↓dTru, ↓dTruS, ↓dAnd, ↓dOr, ↓dNot, ↓dNotV, ↓dAndV, ↓dOrV, ↓dIfE, ↓dTup, ↓dDrop, ↓dBM, ↓dBM0, ↓tyD, ↓dApp, ↓dSetL, ↓dAsL, ↓dOnL, ↓dOnN, ↓dIsi, ↓tyName, isT, ↓dBreak, ↓dCont, ↓dPar, ↓endsD, List.set_cons_zero, List.set_cons_succ, List.replicate_succ, List.replicate_zero, su_same, ↓dLc_k, ↓dWhile_k, ↓dWipe, ↓dYes, ↓dIt, ↓dItN, ↓dSlice, ↓dPart, ↓dNoP, ↓dCut, ↓dSliceE, ↓dIxL, ↓dChain, ↓dIn, ↓dNotIn, ↓dInS, ↓mS0, ↓mS1, ↓dSta, ↓dEnd, ↓dFind, ↓dIsasc, ↓dIsdig, ↓dIsalp, ↓dIsaln, ↓dIslow, ↓dIspri, ↓okT, ↓okU, ↓ok2, ↓dFind4, ↓dSplit, ↓dJoin, ↓dJoinT, ↓dMulS, ↓dCatL, ↓dCatE, ↓dCatR, ↓dCatEE, ↓dStar, ↓dIntS, ↓dStr, ↓dMax, ↓dMin, ↓dII, ↓dFld_m, ↓dSetF_m, ↓dMeth_m, ↓dMake_k, ↓dGtup, ↓dGcons, ↓dGnil, true_and, and_true, Nat.add_zero, reduceCtorEq, ↓reduceIte, Bool.not_true, Bool.not_false, Bool.false_eq_true, if_true, if_false])
variable {C : Nat → Addr}
theorem ok_Listener_faulty : ∀ ds S Q, ds.length = 1 → sp_Listener_faulty (C 0) ds S Q → rd_Listener_faulty C (endsD Q) (startD N_Listener_faulty ds) S := by
  rintro ds S Q - ⟨p, m, t, a, w, n, f, rfl, hp, h⟩
  walk_at "dlf"
  exact ⟨S, Sle.refl S, h⟩
theorem ok_ListenerUfault : ∀ ds S Q, ds.length = 1 → sp_ListenerUfault (C 0) ds S Q → rd_ListenerUfault C (endsD Q) (startD N_ListenerUfault ds) S := by
  rintro ds S Q - ⟨p, m, t, a, w, n, rfl, hp, h⟩
  walk_at "dlf"
  exact ⟨_, Sle.refl _, h⟩
theorem ok_ListenerU_initU : ∀ ds S Q, ds.length = 2 → sp_ListenerU_initU (C 0) ds S Q → rd_ListenerU_initU C (endsD Q) (startD N_ListenerU_initU ds) S := by
  rintro ds S Q - ⟨p, m, rfl, hp, h⟩
  walk_at "dlf"
  refine ⟨(by decide), (by show 1 < 1000; decide), (by show 2 < 1000; decide), (by show 3 < 1000; decide), (by show 4 < 1000; decide), (by show 5 < 1000; decide), _, Sle.refl _, h _ su_same fun q hq => ?_⟩
  rw [su_ne hq, su_ne hq, su_ne hq, su_ne hq, su_ne hq, su_ne hq]
/-! numbers -/
theorem rd_ok : ∀ n, n < 60 → (Txt.isascii (tx (decs ((n : Nat) : Int))) = true ∧ Txt.isdigit (tx (decs (n : Int))) = true ∧ (decs (n : Int)).length ≤ 2 ∧ (Txt.startswith (tx (decs (n : Int))) (tx [48]) = true → decs (n : Int) = [48]) ∧ PySem.intText? (tx (decs (n : Int))) = some (n : Int)) ∧ Txt.endswith (tx (cnt n)) (tx [125]) = true ∧ (cnt n).length ≤ 4 := by decide +kernel
theorem ok_read_number : ∀ ds S Q, ds.length = 1 → sp_read_number ds S Q → rd_read_number (endsD Q) (startD N_read_number ds) S := by
  rintro ds S Q - ⟨w, o, hw, rfl, hl, he, h⟩
  rcases hw with ⟨n, hn, rfl, rfl⟩ | ⟨hb, rfl⟩
  · obtain ⟨⟨h1, h2, h3, h4, h5⟩, h6, h7⟩ := rd_ok n hn
    have e : (List.drop 1 (cnt n)).dropLast = decs (n : Int) := by unfold cnt; simp
    rw [e]
    walk_at "dl*"
    have sl : (3 : Nat) ≤ sizeLine := by rw [sizeLine_eq]; omega
    refine ⟨by omega, ?_⟩
    rw [decide_eq_false (by omega : ¬ ((9 : Int) < (decs (n : Int)).length))]
    have fin : (decs (n : Int)).length ≤ 640 ∧ ∃ n_1, some (n : Int) = some n_1 ∧ ∃ S', Sle S' S ∧ Q (D.int n_1) S' := ⟨by omega, _, rfl, S, Sle.refl S, h⟩
    refine ifB (fun e => absurd e (by decide)) fun _ => ifB (fun e2 => ?_) fun _ => fin
    rw [h4 e2] at fin ⊢
    exact fin
  · have fin : ∃ S', Sle S' S ∧ Q D.non S' := ⟨S, Sle.refl S, h⟩
    simp only [bad6, List.mem_cons, List.not_mem_nil, or_false] at hb
    rcases hb with rfl | rfl | rfl | rfl | rfl | rfl
    all_goals first | (exfalso; revert hl; decide) | (exfalso; revert he; decide) | skip
    · walk_at "dl"
      have e1 : Txt.isascii (tx (List.drop 1 [123, 48, 49, 125]).dropLast) = true := by decide +kernel
      have e2 : Txt.isdigit (tx (List.drop 1 [123, 48, 49, 125]).dropLast) = true := by decide +kernel
      have e3 : Txt.startswith (tx (List.drop 1 [123, 48, 49, 125]).dropLast) (tx [48]) = true := by decide +kernel
      rw [e1, e2, e3]
      exact ⟨by rw [sizeLine_eq]; decide, fin⟩
    · walk_at "dl"
      have e1 : Txt.isascii (tx (List.drop 1 [123, 45, 49, 125]).dropLast) = true := by decide +kernel
      have e2 : Txt.isdigit (tx (List.drop 1 [123, 45, 49, 125]).dropLast) = false := by decide +kernel
      rw [e1, e2]
      exact fin
    · walk_at "dl"
      have e1 : Txt.isascii (tx (List.drop 1 [123, 125]).dropLast) = true := by decide +kernel
      have e2 : Txt.isdigit (tx (List.drop 1 [123, 125]).dropLast) = false := by decide +kernel
      rw [e1, e2]
      exact fin
theorem cnt_last (n : Nat) : (cnt n).getLast? = some 125 := by
  show (([123] ++ decs (n : Int)) ++ [125]).getLast? = some 125
  rw [List.getLast?_concat]
theorem ok_read_length : ∀ ds S Q, ds.length = 1 → sp_read_length ds S Q → rd_read_length (endsD Q) (startD N_read_length ds) S := by
  rintro ds S Q - ⟨w, o, hw, rfl, h⟩
  have go : Txt.endswith (tx w) (tx [125]) = true → w.length ≤ 7 → w.getLast? = some 125 → rd_read_length (endsD Q) (startD N_read_length [.str w]) S := fun e1 e2 e3 => by
    walk_at "dl*"
    refine ⟨by rw [sizeLine_eq]; omega, ?_⟩
    rw [decide_eq_false (by omega : ¬ ((7 : Int) < w.length))]
    have hne : 1 ≤ w.length := by cases w with | nil => cases e3 | cons => simp
    have ec : cutD w (some 1) (some (-1)) = (w.drop 1).dropLast := cut_ml hne
    rw [ec]
    exact ⟨by rw [sizeLine_eq]; omega, w, o, hw, rfl, e2, e3, S, Sle.refl S, h⟩
  rcases hw with ⟨n, hn, rfl, rfl⟩ | ⟨hb, rfl⟩
  · obtain ⟨_, h6, h7⟩ := rd_ok n hn
    exact go h6 (by omega) (cnt_last n)
  · simp only [bad6, List.mem_cons, List.not_mem_nil, or_false] at hb
    have fin : ∃ S', Sle S' S ∧ Q D.non S' := ⟨S, Sle.refl S, h⟩
    rcases hb with rfl | rfl | rfl | rfl | rfl | rfl
    · exact go (by decide +kernel) (by decide) rfl
    · exact go (by decide +kernel) (by decide) rfl
    · exact go (by decide +kernel) (by decide) rfl
    · walk_at "dl"
      have e1 : Txt.endswith (tx [123, 49]) (tx [125]) = false := by decide +kernel
      rw [e1]
      exact fin
    · walk_at "dl"
      have e1 : Txt.endswith (tx [123, 49, 125, 98]) (tx [125]) = false := by decide +kernel
      rw [e1]
      exact fin
    · walk_at "dl"
      have e1 : Txt.endswith (tx [123, 49, 50, 51, 52, 53, 54, 125]) (tx [125]) = true := by decide +kernel
      rw [e1]
      exact ⟨by rw [sizeLine_eq]; decide, fin⟩
/-! ### lines -/
theorem mem_jn : ∀ {ws : Wds} {x : Nat}, x ∈ jn ws → x = 32 ∨ ∃ w ∈ ws, x ∈ w
  | [], x, h => by cases h
  | [p], x, h => .inr ⟨p, List.mem_singleton.mpr rfl, h⟩
  | p :: q :: r, x, h => by
    have h' : x ∈ p ++ ([32] ++ jn (q :: r)) := h
    rcases List.mem_append.mp h' with z | z
    · exact .inr ⟨p, List.mem_cons_self .., z⟩
    rcases List.mem_append.mp z with z | z
    · exact .inl (List.mem_singleton.mp z)
    · rcases mem_jn z with e | ⟨w, hw, e⟩
      · exact .inl e
      · exact .inr ⟨w, List.mem_cons_of_mem _ hw, e⟩
theorem Lin.nl {ws : Wds} (h : Lin ws) : 10 ∉ jn ws := fun hx => by
  rcases mem_jn hx with e | ⟨w, hw, e⟩
  · cases e
  · exact (h.bl w hw).2 e
theorem Lin.spl {ws : Wds} (h : Lin ws) : TL.spl [32] 0 [] (jn ws) = ws := SX.spl_join h.ne fun w hw => (h.bl w hw).1
theorem get_app {t0 r : List Nat} {j : Nat} (h : t0.length ≤ j) : (t0 ++ r)[j]? = r[j - t0.length]? := List.getElem?_append_right h
/-- the line's end is found -/
theorem find_line {t0 l r : List Nat} (hl : 10 ∉ l) (hn : l.length ≤ 2000) : Txt.findIn (tx (t0 ++ (l ++ 10 :: r))) (tx [10]) (t0.length : Int) (((t0.length : Int) + 2000) + 1) = ((t0.length + l.length : Nat) : Int) := by
  have := find4_some (t := t0 ++ (l ++ 10 :: r)) (c := 10) (a := t0.length) (e := t0.length + 2001) (k := t0.length + l.length) (by rw [get_app (by omega), Nat.add_sub_cancel_left, List.getElem?_append_right (Nat.le_refl _), Nat.sub_self]; rfl) (by omega) (by omega) fun j h1 h2 h3 => by
    rw [get_app h1, List.getElem?_append_left (by omega)] at h3
    exact hl (List.mem_of_getElem? h3)
  rw [← this]
  congr 1
/-- it is not found -/
theorem find_no {t0 r : List Nat} (h : 10 ∉ r.take 2001) : Txt.findIn (tx (t0 ++ r)) (tx [10]) (t0.length : Int) (((t0.length : Int) + 2000) + 1) = -1 := by
  have := find4_none (t := t0 ++ r) (c := 10) (a := t0.length) (e := t0.length + 2001) (by rw [List.length_append]; omega) fun j h1 h2 h3 => by
    rw [get_app h1] at h3
    refine h (List.mem_of_getElem? (i := j - t0.length) ?_)
    rw [List.getElem?_take_of_lt (by omega)]
    exact h3
  rw [← this]
  congr 1
theorem flat_ws : ∀ ws : Wds, (ws.map D.str).all flatD = true
  | [] => rfl
  | w :: ws => by
    show (flatD (.str w) && (ws.map D.str).all flatD) = true
    rw [flat_ws ws]; rfl
theorem in_ws : ∀ ws : Wds, inD (.str []) (ws.map D.str) = decide ([] ∈ ws)
  | [] => rfl
  | w :: ws => by
    show (eqD (.str w) (.str []) || inD (.str []) (ws.map D.str)) = _
    rw [in_ws ws]
    cases w with
    | nil => simp [eqD]
    | cons c w => simp [eqD]
theorem at_last {xs : List D} {x : D} : atI (xs ++ [x]) (-1) = some x := by
  unfold atI ixN
  rw [if_neg (by decide), if_pos (by rw [List.length_append, List.length_singleton]; omega)]
  show (xs ++ [x])[((-1 : Int) + ((xs ++ [x]).length : Nat)).toNat]? = some x
  rw [show ((-1 : Int) + ((xs ++ [x]).length : Nat)).toNat = xs.length by rw [List.length_append, List.length_singleton]; omega, List.getElem?_append_right (Nat.le_refl _), Nat.sub_self]
  rfl
theorem sta_c (w : List Nat) (c : Nat) : Txt.startswith (tx w) (tx [c]) = decide (w.head? = some c) := by
  rw [Bool.eq_iff_iff, decide_eq_true_eq]
  unfold Txt.startswith
  rw [Bool.and_eq_true, subAt_c, decide_eq_true_eq]
  cases w with
  | nil => simp
  | cons a w =>
    simp
    intro _
    show 0 + 1 ≤ (a :: w).length
    simp
theorem cut_line {t0 l r : List Nat} : cutD (t0 ++ (l ++ 10 :: r)) (some (t0.length : Int)) (some ((t0.length + l.length : Nat) : Int)) = l := by
  rw [cut_mid (by omega) (by simp only [List.length_append, List.length_cons]; omega), List.drop_left, Nat.add_sub_cancel_left, List.take_left]
theorem RL.len {w : List Nat} {o : Option Nat} (h : RL w o) : w.length ≤ 8 := by
  rcases h with ⟨n, hn, rfl, _⟩ | ⟨hb, _⟩
  · have := (rd_ok n hn).2.2
    omega
  · simp only [bad6, List.mem_cons, List.not_mem_nil, or_false] at hb
    rcases hb with rfl | rfl | rfl | rfl | rfl | rfl <;> decide
theorem ok_ListenerUhear_line : ∀ ds S Q, ds.length = 2 → sp_ListenerUhear_line (C 0) ds S Q → rd_ListenerUhear_line C (endsD Q) (startD N_ListenerUhear_line ds) S := by
  rintro ds S Q - ⟨p, c, m, t0, r, md, n, cs, st, rfl, rfl, hpc, hp, hn, hc, hl, ht, hs, h⟩
  have sz : (1000000 : Nat) ≤ sizeLine := by rw [sizeLine_eq]; omega
  have flt : ∀ S2 a, S2 p = some (.ins (C 0) (LF m (t0 ++ r) (a : Nat) .non n false)) → S2 c = some (.lst cs) → (∀ q, q ≠ p → q ≠ c → S2 q = S q) → st = .fault →
      sp_ListenerUfault (C 0) [.rf p] S2 (fun d S => ∃ S', Sle S' S ∧ Q d S') := fun S2 a e1 e2 e3 e4 => by
    subst e4
    refine ⟨p, m, _, _, _, n, rfl, e1, _, Sle.refl _, h _ a .non n su_same ?_ fun q h1 h2 => ?_⟩
    · rw [su_ne (Ne.symm hpc)]; exact e2
    · rw [su_ne h1]; exact e3 q h1 h2
  have lin : ∀ (ws : Wds) (r' : List Nat), Lin ws → r = jn ws ++ 10 :: r' → ([] ∈ ws → st = .fault) →
      ([] ∉ ws → ∀ x, atI (ws.map D.str) (-1) = some (.str x) → (x.head? ≠ some 123 → st = .next [.tup [sD ws, .non]] none r') ∧
        (x.head? = some 123 → ∃ o, RL x o ∧ ((st = .fault ∧ ∀ k, o = some k → m < k) ∨ (∃ k, o = some k ∧ (k : Int) ≤ m ∧ st = .next [] (some (ws.dropLast, k)) r')))) → rd_ListenerUhear_line C (endsD Q) (startD N_ListenerUhear_line [.rf p, .rf c]) S := fun ws r' hw er h1 h2 => by
    subst er
    have ef := find_line (t0 := t0) (r := r') hw.nl hw.le
    have ec := cut_line (t0 := t0) (l := jn ws) (r := r')
    have es := hw.spl
    have hle := hw.le
    have e32 : ([32].all fun x => decide (x < 256)) = true := by decide
    have sc : ∀ o, su S p o c = some (.lst cs) := fun o => by rw [su_ne (Ne.symm hpc)]; exact hc
    have flt' := flt
    clear flt
    have htl : t0.length + ((jn ws).length + (r'.length + 1)) ≤ 100000 := by simpa only [List.length_append, List.length_cons] using ht
    walk_at "dlf"
    refine ifb (fun hx => by omega) fun _ => ⟨by omega, by decide, by omega, rfl, flat_ws ws, ?_⟩
    rw [in_ws]
    refine ifb (fun he => flt' S _ hp hc (fun _ _ _ => rfl) (h1 he)) fun he => ?_
    obtain ⟨ws0, w, rfl⟩ : ∃ ws0 w, ws = ws0 ++ [w] := ⟨ws.dropLast, ws.getLast hw.ne, (List.dropLast_concat_getLast hw.ne).symm⟩
    have ea : atI ((ws0 ++ [w]).map D.str) (-1) = some (.str w) := by rw [List.map_append, List.map_singleton, at_last]
    obtain ⟨h3, h4⟩ := h2 he w ea
    have ew : ws0.map D.str = (cutD ((ws0 ++ [w]).map D.str) none (some (-1))) := by rw [cut_last, List.map_append, List.map_singleton, List.dropLast_concat]
    rw [ea]
    refine ⟨trivial, ?_⟩
    have es' : Txt.startswith (tx w) (tx [123]) = decide (w.head? = some 123) := sta_c w 123
    have ep : ((t0.length + (jn (ws0 ++ [w])).length : Nat) : Int) + 1 = ((t0 ++ (jn (ws0 ++ [w]) ++ [10])).length : Nat) := by simp only [List.length_append, List.length_singleton]; omega
    have et : (t0 ++ (jn (ws0 ++ [w]) ++ [10])) ++ r' = t0 ++ (jn (ws0 ++ [w]) ++ 10 :: r') := by simp
    show if (!Txt.startswith (tx w) (tx [123])) = true then _ else _
    rw [es']
    by_cases hh : w.head? = some 123
    · rw [decide_eq_true hh]
      obtain ⟨o, ho, hc2⟩ := h4 hh
      refine ⟨w, o, ho, rfl, ?_⟩
      rcases hc2 with ⟨rfl, hk⟩ | ⟨k, rfl, hk, rfl⟩
      · have go : ∀ S', S' p = some (MO.ins (C 0) (LF m (t0 ++ (jn (ws0 ++ [w]) ++ 10 :: r')) (↑(t0.length + (jn (ws0 ++ [w])).length) + 1) (mdW none) n false)) → S' c = some (.lst cs) → (∀ q, q ≠ p → q ≠ c → S' q = S q) → sp_ListenerUfault (C 0) [.rf p] S' (fun d S => ∃ S', Sle S' S ∧ Q d S') := fun S' e1 e2 e3 => by
          rw [ep] at e1
          exact flt' S' _ e1 e2 e3 rfl
        have go' := go _ su_same (sc _) fun q h1 h2 => su_ne h1
        rw [ep] at go'
        cases o with
        | none =>
          walk_at "dlf"
          show if true = true then _ else _
          rw [if_pos rfl]
          exact go'
        | some k =>
          have hk' := hk k rfl
          clear h3 h4 flt' go hk
          walk_at "dlf"
          show if false = true then _ else if decide (m < (k : Int)) = true then _ else _
          rw [if_neg Bool.false_ne_true, if_pos (decide_eq_true hk')]
          exact go'
      · clear h3 h4 flt'
        walk_at "dlf"
        show if false = true then _ else if decide (m < (k : Int)) = true then _ else _
        rw [if_neg Bool.false_ne_true, if_neg (by rw [decide_eq_true_eq]; omega), ← ew]
        rw [List.dropLast_concat] at h
        refine ⟨_, Sle.refl _, h _ (t0 ++ (jn (ws0 ++ [w]) ++ [10])) (k : Int) et rfl su_same ?_ fun q h1 h2 => ?_⟩
        · rw [su_ne (Ne.symm hpc), su_ne (Ne.symm hpc), sc, List.append_nil]
        · rw [su_ne h1, su_ne h1, su_ne h1]
    · rw [decide_eq_false hh]
      have h5 := h3 hh
      subst h5
      refine ⟨⟨_, rfl⟩, by omega, by omega, _, Sle.refl _, h _ (t0 ++ (jn (ws0 ++ [w]) ++ [10])) n et trivial ?_ su_same fun q h1 h2 => ?_⟩
      · rw [su_ne hpc, su_same, ep]
      · rw [su_ne h2, su_ne h1]
  cases hs with
  | wl _ h1 h2 =>
    have ef := find_no (t0 := t0) (r := r) (fun hx => h1 (List.mem_of_mem_take hx))
    walk_at "dlf"
    refine ifb (fun _ => ⟨by omega, ?_⟩) fun hx => absurd (by decide) hx
    refine ifb (fun hx => ?_) fun _ => ⟨S, Sle.refl S, h⟩
    rw [List.length_append] at hx
    omega
  | fl _ h1 h2 =>
    have ef := find_no (t0 := t0) (r := r) h1
    walk_at "dlf"
    refine ifb (fun _ => ⟨by omega, ?_⟩) fun hx => absurd (by decide) hx
    refine ifb (fun hx => ?_) fun hx => ?_
    · exact flt S _ hp hc (fun _ _ _ => rfl) rfl
    · rw [List.length_append] at hx
      omega
  | fe ws r' hw he => exact lin ws r' hw rfl (fun _ => rfl) fun hx => absurd he hx
  | fn ws w r' o hw he hh ho hk =>
    refine lin _ r' hw rfl (fun _ => rfl) fun _ x hx => ?_
    rw [List.map_append, List.map_singleton, at_last] at hx
    cases hx
    exact ⟨fun e => absurd hh e, fun _ => ⟨o, ho, .inl ⟨rfl, hk⟩⟩⟩
  | nl ws w r' hw he hh =>
    refine lin _ r' hw rfl (fun e => absurd e he) fun _ x hx => ?_
    rw [List.map_append, List.map_singleton, at_last] at hx
    cases hx
    exact ⟨fun _ => rfl, fun e => absurd e hh⟩
  | ll ws w r' k hw he hh ho hk =>
    refine lin _ r' hw rfl (fun e => absurd e he) fun _ x hx => ?_
    rw [List.map_append, List.map_singleton, at_last] at hx
    cases hx
    exact ⟨fun e => absurd hh e, fun _ => ⟨_, ho, .inr ⟨k, rfl, hk, by rw [List.dropLast_concat]⟩⟩⟩
end LW

set_option Elab.async false
set_option linter.all false
set_option maxRecDepth 100000
set_option maxHeartbeats 4000000
namespace LW
open PySem PySem.Spec L2 DL
local macro_rules | `(tactic| walk_at "dl") => `(tactic| simp -implicitDefEqProofs only [↓dSeq, ↓dIfS, ↓dTB, ↓dOp, ↓dVar, ↓dC, ↓dLt, ↓dLe, ↓dGt, ↓dGe, ↓rII, ↓rIIc, ↓dCB, ↓dCons, ↓dNil, ↓dLen, ↓dInt, ↓dRet, ↓dRetN, ↓dNext, ↓dIx, ↓dAt, ↓startD, List.map_cons, List.map_nil, List.cons_append, List.nil_append, List.append_nil, List.length_cons, List.length_nil, List.getElem?_cons_zero, List.getElem?_cons_succ, List.length_map, ↓dAsg, ↓dName, ↓dNew, ↓dLst, ↓dFor_k, ↓dRng1, ↓dRng2, ↓dCall_k, ↓dAdd, ↓dSub, ↓dMul, ↓dMod, ↓dFdiv, ↓dPow, ↓dEq, ↓dNe, ↓scd, ↓dIsN, ↓dNotN, ↓dIsB, ↓dNotB, ↓dUn, ↓dNeg, ↓dTru, ↓dTruS, ↓dAnd, ↓dOr, ↓dNot, ↓dNotV, ↓dAndV, ↓dOrV, ↓dIfE, ↓dTup, ↓dDrop, ↓dBM, ↓dBM0, ↓tyD, ↓dApp, ↓dSetL, ↓dAsL, ↓dOnL, ↓dOnN, ↓dIsi, ↓tyName, isT, ↓dBreak, ↓dCont, ↓dPar, ↓endsD, List.set_cons_zero, List.set_cons_succ, List.replicate_succ, List.replicate_zero, su_same, ↓dLc_k, ↓dWhile_k, ↓dWipe, ↓dYes, ↓dIt, ↓dItN, ↓dSlice, ↓dPart, ↓dNoP, ↓dCut, ↓dSliceE, ↓dIxL, ↓dChain, ↓dIn, ↓dNotIn, ↓dInS, ↓mS0, ↓mS1, ↓dSta, ↓dEnd, ↓dFind, ↓dIsasc, ↓dIsdig, ↓dIsalp, ↓dIsaln, ↓dIslow, ↓dIspri, ↓okT, ↓okU, ↓ok2, ↓dFind4, ↓dSplit, ↓dJoin, ↓dJoinT, ↓dMulS, ↓dCatL, ↓dCatE, ↓dCatR, ↓dCatEE, ↓dStar, ↓dIntS, ↓dStr, ↓dMax, ↓dMin, ↓dII, ↓dFld_m, ↓dSetF_m, ↓dMeth_m, ↓dMake_k, ↓dGtup, ↓dGcons, ↓dGnil, true_and, and_true, Nat.add_zero, reduceCtorEq, ↓reduceIte, Bool.not_true, Bool.not_false, Bool.false_eq_true, if_true, if_false])
local macro_rules | `(tactic| walk_at "dl*") => `(tactic| simp -implicitDefEqProofs only [*, ↓dSeq, ↓dIfS, ↓dTB, ↓dOp, ↓dVar, ↓dC, ↓dLt, ↓dLe, ↓dGt, ↓dGe, ↓rII, ↓rIIc, ↓dCB, ↓dCons, ↓dNil, ↓dLen, ↓dInt, ↓dRet, ↓dRetN, ↓dNext, ↓dIx, ↓dAt, ↓startD, List.map_cons, List.map_nil, List.cons_append, List.nil_append, List.append_nil, List.length_cons, List.length_nil, List.getElem?_cons_zero, List.getElem?_cons_succ, List.length_map, ↓dAsg, ↓dName, ↓dNew, ↓dLst, ↓dFor_k, ↓dRng1, ↓dRng2, ↓dCall_k, ↓dAdd, ↓dSub, ↓dMul, ↓dMod, ↓dFdiv, ↓dPow, ↓dEq, ↓dNe, ↓scd, ↓dIsN, ↓dNotN, ↓dIsB, ↓dNotB, ↓dUn, ↓dNeg, ↓dTru, ↓dTruS, ↓dAnd, ↓dOr, ↓dNot, ↓dNotV, ↓dAndV, ↓dOrV, ↓dIfE, ↓dTup, ↓dDrop, ↓dBM, ↓dBM0, ↓tyD, ↓dApp, ↓dSetL, ↓dAsL, ↓dOnL, ↓dOnN, ↓dIsi, ↓tyName, isT, ↓dBreak, ↓dCont, ↓dPar, ↓endsD, List.set_cons_zero, List.set_cons_succ, List.replicate_succ, List.replicate_zero, su_same, ↓dLc_k, ↓dWhile_k, ↓dWipe, ↓dYes, ↓dIt, ↓dItN, ↓dSlice, ↓dPart, ↓dNoP, ↓dCut, ↓dSliceE, ↓dIxL, ↓dChain, ↓dIn, ↓dNotIn, ↓dInS, ↓mS0, ↓mS1, ↓dSta, ↓dEnd, ↓dFind, ↓dIsasc, ↓dIsdig, ↓dIsalp, ↓dIsaln, ↓dIslow, ↓dIspri, ↓okT, ↓okU, ↓ok2, ↓dFind4, ↓dSplit, ↓dJoin, ↓dJoinT, ↓dMulS, ↓dCatL, ↓dCatE, ↓dCatR, ↓dCatEE, ↓dStar, ↓dIntS, ↓dStr, ↓dMax, ↓dMin, ↓dII, ↓dFld_m, ↓dSetF_m, ↓dMeth_m, ↓dMake_k, ↓dGtup, ↓dGcons, ↓dGnil, true_and, and_true, Nat.add_zero, reduceCtorEq, ↓reduceIte, Bool.not_true, Bool.not_false, Bool.false_eq_true, if_true, if_false])
local macro_rules | `(tactic| walk_at "dlf") => `(tactic| simp -implicitDefEqProofs only [*, lf_len', ↓lk_most, pf_most, ↓lk_text, pf_text, ↓lk_at, pf_at, ↓lk_words, pf_words, ↓lk_many, pf_many, ↓lk_faulty, pf_faulty, lm_fault, lm_hear_line, lm_hear_literal, lm_hear, lm_faulty_, su_same, ↓dSeq, ↓dIfS, ↓dTB, ↓dOp, ↓dVar, ↓dC, ↓dLt, ↓dLe, ↓dGt, ↓dGe, ↓rII, ↓rIIc, ↓dCB, ↓dCons, ↓dNil, ↓dLen, ↓dInt, ↓dRet, ↓dRetN, ↓dNext, ↓dIx, ↓dAt, ↓startD, List.map_cons, List.map_nil, List.cons_append, List.nil_append, List.append_nil, List.length_cons, List.length_nil, List.getElem?_cons_zero, List.getElem?_cons_succ, List.length_map, ↓dAsg, ↓dName, ↓dNew, ↓dLst, ↓dFor_k, ↓dRng1, ↓dRng2, ↓dCall_k, ↓dAdd, ↓dSub, ↓dMul, ↓dMod, ↓dFdiv, ↓dPow, ↓dEq, ↓dNe, ↓scd, ↓dIsN, ↓dNotN, ↓dIsB, ↓dNotB, ↓dUn, ↓dNeg, ↓dTru, ↓dTruS, ↓dAnd, ↓dOr, ↓dNot, ↓dNotV, ↓dAndV, ↓dOrV, ↓dIfE, ↓dTup, ↓dDrop, ↓dBM, ↓dBM0, ↓tyD, ↓dApp, ↓dSetL, ↓dAsL, ↓dOnL, ↓dOnN, ↓dIsi, ↓tyName, isT, ↓dBreak, ↓dCont, ↓dPar, ↓endsD, List.set_cons_zero, List.set_cons_succ, List.replicate_succ, List.replicate_zero, su_same, ↓dLc_k, ↓dWhile_k, ↓dWipe, ↓dYes, ↓dIt, ↓dItN, ↓dSlice, ↓dPart, ↓dNoP, ↓dCut, ↓dSliceE, ↓dIxL, ↓dChain, ↓dIn, ↓dNotIn, ↓dInS, ↓mS0, ↓mS1, ↓dSta, ↓dEnd, ↓dFind, ↓dIsasc, ↓dIsdig, ↓dIsalp, ↓dIsaln, ↓dIslow, ↓dIspri, ↓okT, ↓okU, ↓ok2, ↓dFind4, ↓dSplit, ↓dJoin, ↓dJoinT, ↓dMulS, ↓dCatL, ↓dCatE, ↓dCatR, ↓dCatEE, ↓dStar, ↓dIntS, ↓dStr, ↓dMax, ↓dMin, ↓dII, ↓dFld_m, ↓dSetF_m, ↓dMeth_m, ↓dMake_k, ↓dGtup, ↓dGcons, ↓dGnil, true_and, and_true, Nat.add_zero, reduceCtorEq, ↓reduceIte, Bool.not_true, Bool.not_false, Bool.false_eq_true, if_true, if_false])
variable {C : Nat → Addr}
theorem at_mid {l : List Nat} {t r : List Nat} {c : Nat} : (t ++ c :: r)[t.length]? = some c := by rw [List.getElem?_append_right (Nat.le_refl _), Nat.sub_self]; rfl
theorem ok_ListenerUhear_literal : ∀ ds S Q, ds.length = 2 → sp_ListenerUhear_literal (C 0) ds S Q → rd_ListenerUhear_literal C (endsD Q) (startD N_ListenerUhear_literal ds) S := by
  rintro ds S Q - ⟨p, c, m, t0, r, md, n, cs, st, ⟨⟨ws, k⟩, rfl⟩, rfl, hpc, hp, hn, hc, hl, ht, hs, h⟩
  have hn' : n = (k : Int) := hn
  subst hn'
  have sz : (1000000 : Nat) ≤ sizeLine := by rw [sizeLine_eq]; omega
  have sp : ∀ o, su S c o p = some (MO.ins (C 0) (LF m (t0 ++ r) (t0.length : Int) (mdW (some (ws, k))) (k : Int) false)) := fun o => by rw [su_ne hpc]; exact hp
  walk_at "dlf"
  refine ⟨by omega, ifb (fun hx => ?_) fun hx => ?_⟩
  · cases hs with
    | wr _ _ _ h1 => exact ⟨S, Sle.refl S, h⟩
    | fr _ x d r' h1 => simp only [List.length_append, List.length_cons] at hx; omega
    | nr _ x r' => simp only [List.length_append, List.length_cons] at hx; omega
  refine ⟨by omega, ?_⟩
  have ek : (t0.length : Int) + (k : Int) = ((t0.length + k : Nat) : Int) := by omega
  cases hs with
  | wr _ _ _ h1 => exact absurd (by rw [List.length_append]; omega) hx
  | fr _ x d r' h1 =>
    have ea : atI (t0 ++ (x ++ d :: r')) ((t0.length : Int) + (x.length : Nat)) = some d := by
      rw [ek]
      exact atI_nat (by rw [List.getElem?_append_right (by omega), Nat.add_sub_cancel_left, List.getElem?_append_right (Nat.le_refl _), Nat.sub_self]; rfl)
    rw [ea]
    show if (!decide ([d] = [10])) = true then _ else _
    rw [if_pos (by rw [decide_eq_false (by intro e; injection e with e _; exact h1 e)]; rfl)]
    refine ⟨p, m, _, _, _, _, rfl, hp, _, Sle.refl _, h _ t0.length _ _ su_same ?_ fun q h1 h2 => ?_⟩
    · rw [su_ne (Ne.symm hpc)]; exact hc
    · rw [su_ne h1]
  | nr _ x r' =>
    have ea : atI (t0 ++ (x ++ 10 :: r')) ((t0.length : Int) + (x.length : Nat)) = some 10 := by
      rw [ek]
      exact atI_nat (by rw [List.getElem?_append_right (by omega), Nat.add_sub_cancel_left, List.getElem?_append_right (Nat.le_refl _), Nat.sub_self]; rfl)
    have ec : cutD (t0 ++ (x ++ 10 :: r')) (some (t0.length : Int)) (some ((t0.length : Int) + (x.length : Nat))) = x := by rw [ek]; exact cut_line
    rw [ea, ec]
    show if (!decide ([10] = [10])) = true then _ else _
    rw [if_neg (by decide)]
    have ep : (t0.length : Int) + (x.length : Nat) + 1 = ((t0 ++ (x ++ [10])).length : Nat) := by simp only [List.length_append, List.length_singleton]; omega
    have et : (t0 ++ (x ++ [10])) ++ r' = t0 ++ (x ++ 10 :: r') := by simp
    rw [ep]
    refine ⟨⟨_, rfl⟩, by omega, by omega, by omega, _, Sle.refl _, h _ (t0 ++ (x ++ [10])) (x.length : Int) et trivial su_same ?_ fun q h1 h2 => ?_⟩
    · rw [su_ne (Ne.symm hpc), su_ne (Ne.symm hpc), su_same]
      rfl
    · rw [su_ne h1, su_ne h1, su_ne h2]
/-- where the loop stands -/
def HIv (C : Addr) (m : Int) (p c : Addr) (x T : List Nat) (o : List D) (R : Option (Md × List Nat)) (S : Sh) (k : Nat) (δ : Sl) (S' : Sh) : Prop :=
  (∀ q, q ≠ p → q ≠ c → S' q = S q) ∧
  ((∃ (t0 r : List Nat) (md : Md) (n : Int) (cs os : List D) (j : Nat), k = j + 1 ∧ δ = [some (.rf p), some (.str x), some (.rf c), some (.bl true)] ∧ S' p = some (.ins C (LF m (t0 ++ r) t0.length (mdW md) n false)) ∧ mdN n md ∧ S' c = some (.lst cs) ∧
      t0 ++ r = T ∧ Run m j md r os R ∧ cs ++ os = o) ∨
   (k = 0 ∧ δ = [some (.rf p), some (.str x), some (.rf c), some (.bl false)] ∧ S' c = some (.lst o) ∧
      ((∃ (t0 r : List Nat) (md : Md) (n : Int), R = some (md, r) ∧ S' p = some (.ins C (LF m (t0 ++ r) t0.length (mdW md) n false)) ∧ mdN n md ∧ t0 ++ r = T) ∨ (∃ (a : Nat) (w : D) (n : Int), R = none ∧ S' p = some (.ins C (LF m T a w n true))))))
theorem ok_Listener_hear : ∀ ds S Q, ds.length = 2 → sp_Listener_hear (C 0) ds S Q → rd_Listener_hear C (endsD Q) (startD N_Listener_hear ds) S := by
  rintro ds S Q - ⟨p, m, x, b, R0, R, o, rfl, hl, hb, hr, ho, h⟩
  have sz : (1000000 : Nat) ≤ sizeLine := by rw [sizeLine_eq]; omega
  obtain ⟨t, w, n, f, hp, ht, k, hI⟩ : ∃ t w n f, S p = some (.ins (C 0) (LF m t 0 w n f)) ∧ t.length ≤ b ∧ ∃ k, ∀ c S1, S1 p = some (.ins (C 0) (LF m (t ++ x) 0 w n f)) → S1 c = some (.lst []) → (∀ q, q ≠ p → q ≠ c → S1 q = S q) →
      HIv (C 0) m p c x (t ++ x) o R S k [some (.rf p), some (.str x), some (.rf c), some (.bl !f)] S1 := by
    cases R0 with
    | none =>
      obtain ⟨t, w, n, hp, ht⟩ := hl
      obtain ⟨rfl, rfl⟩ := hr
      exact ⟨t, w, n, true, hp, ht, 0, fun c S1 e1 e2 e3 => ⟨e3, .inr ⟨rfl, rfl, e2, .inr ⟨0, w, n, rfl, e1⟩⟩⟩⟩
    | some R0 =>
      obtain ⟨md, r⟩ := R0
      obtain ⟨n, hp, hn, ht⟩ := hl
      obtain ⟨j, hr⟩ := hr
      exact ⟨r, mdW md, n, false, hp, ht, j + 1, fun c S1 e1 e2 e3 => ⟨e3, .inl ⟨[], r ++ x, md, n, [], o, j, rfl, rfl, e1, hn, e2, rfl, hr, rfl⟩⟩⟩
  clear hl hr
  walk_at "dlf"
  refine ⟨by omega, fun c hc => ?_⟩
  have hpc : p ≠ c := fun e => by rw [e, hc] at hp; cases hp
  have sp : ∀ o, su S c o p = some (MO.ins (C 0) (LF m t 0 w n f)) := fun o => by rw [su_ne hpc]; exact hp
  have hT : (t ++ x).length ≤ b + x.length := by rw [List.length_append]; omega
  walk_at "dlf"
  refine ⟨by omega, ?_⟩
  refine while_inv (HIv (C 0) m p c x (t ++ x) o R S) (hI c _ su_same (by rw [su_ne (Ne.symm hpc), su_same]) fun q h1 h2 => by rw [su_ne h1, su_ne h2]) ?_
  clear hI sp
  rintro k δ S1 N ⟨hq, ⟨t0, r, md, n, cs, os, j, rfl, rfl, e1, e2, e3, e4, e5, e6⟩ | ⟨rfl, rfl, e3, e4⟩⟩ hN
  · have ol : cs.length ≤ 100 := by rw [← e6, List.length_append] at ho; omega
    have key : ∀ g : Md → Prop, g md → sp_step g (C 0) [.rf p, .rf c] S1 (fun x_1 S1 => N [some (D.rf p), some (D.str x), some (D.rf c), some x_1] S1) := fun g hg => by
      have mk : ∀ st, Step m md r st → Left (C 0) S1 p c m (t0 ++ r) cs (fun x_1 S1 => N [some (D.rf p), some (D.str x), some (D.rf c), some x_1] S1) st → sp_step g (C 0) [.rf p, .rf c] S1 (fun x_1 S1 => N [some (D.rf p), some (D.str x), some (D.rf c), some x_1] S1) :=
        fun st h1 h2 => ⟨p, c, m, t0, r, md, n, cs, st, hg, rfl, hpc, e1, e2, e3, ol, by rw [e4]; omega, h1, h2⟩
      cases e5 with
      | wait h1 =>
        refine mk _ h1 (hN 0 _ _ (by omega) ⟨hq, .inr ⟨rfl, rfl, ?_, .inl ⟨t0, r, md, n, rfl, e1, e2, e4⟩⟩⟩)
        rw [← e6, List.append_nil]; exact e3
      | fault h1 =>
        refine mk _ h1 fun S' a w' n' f1 f2 f3 => hN 0 _ _ (by omega) ⟨fun q h1 h2 => (f3 q h1 h2).trans (hq q h1 h2), .inr ⟨rfl, rfl, ?_, .inr ⟨a, w', n', rfl, by rw [← e4]; exact f1⟩⟩⟩
        rw [← e6, List.append_nil]; exact f2
      | @next n0 _ md' _ r' o1 os' _ h1 h2 =>
        refine mk _ h1 fun S' t1 n1 f1 f2 f3 f4 f5 => hN (n0 + 1) _ _ (by omega) ⟨fun q h1 h2 => (f5 q h1 h2).trans (hq q h1 h2), .inl ⟨t1, r', md', n1, cs ++ o1, os', n0, rfl, rfl, ?_, f2, f4, f1.trans e4, h2, ?_⟩⟩
        · rw [f1]; exact f3
        · rw [List.append_assoc]; exact e6
    clear hN e5 e6 h
    walk_at "dlf"
    cases md with
    | none =>
      show if true = true then _ else _
      rw [if_pos rfl]
      exact key _ rfl
    | some y =>
      obtain ⟨ws, k⟩ := y
      show if false = true then _ else _
      rw [if_neg Bool.false_ne_true]
      exact key _ ⟨_, rfl⟩
  · obtain ⟨a, w', n', f', e1, hf⟩ : ∃ (a : Nat) (w' : D) (n' : Int) (f' : Bool), S1 p = some (MO.ins (C 0) (LF m (t ++ x) a w' n' f')) ∧ ∀ S', S' p = some (MO.ins (C 0) (LF m ((t ++ x).drop a) 0 w' n' f')) → Lis (C 0) m p (b + x.length) S' R := by
      rcases e4 with ⟨t0, r, md, n, rfl, e1, e2, e4⟩ | ⟨a, w, n, rfl, e1⟩
      · rw [e4] at e1
        refine ⟨_, _, _, _, e1, fun S' hS => ⟨n, ?_, e2, ?_⟩⟩
        · rw [← e4, List.drop_left] at hS; exact hS
        · rw [← e4, List.length_append] at hT; omega
      · exact ⟨a, w, n, true, e1, fun S' hS => ⟨_, w, n, hS, by rw [List.length_drop]; omega⟩⟩
    have sc : ∀ o1 o2, su (su S1 p o1) p o2 c = some (.lst o) := fun o1 o2 => by rw [su_ne (Ne.symm hpc), su_ne (Ne.symm hpc)]; exact e3
    have ec : cutD (t ++ x) (some (a : Int)) none = (t ++ x).drop a := cut_from
    clear hN e4
    have h' := h
    clear h
    walk_at "dlf"
    refine ⟨by omega, su S p (.ins (C 0) (LF m ((t ++ x).drop a) 0 w' n' f')), fun q u hu => ?_, h' _ (hf _ su_same) fun q h1 => su_ne h1⟩
    by_cases h1 : q = p
    · subst h1
      rw [su_same] at hu ⊢
      exact hu
    · rw [su_ne h1] at hu
      rw [su_ne h1, su_ne h1, hq q h1 (fun e => by rw [e, hc] at hu; cases hu)]
      exact hu
end LW

set_option Elab.async false
set_option linter.all false
set_option maxRecDepth 100000
set_option maxHeartbeats 4000000
namespace LW
open PySem PySem.Spec L2 DL
local macro_rules | `(tactic| walk_at "dl") => `(tactic| simp -implicitDefEqProofs only [↓dSeq, ↓dIfS, ↓dTB, ↓dOp, ↓dVar, ↓dC, ↓dLt, ↓dLe, ↓dGt, ↓dGe, ↓rII, ↓rIIc, ↓dCB, ↓dCons, ↓dNil, ↓dLen, ↓dInt, ↓dRet, ↓dRetN, ↓dNext, ↓dIx, ↓dAt, ↓startD, List.map_cons, List.map_nil, List.cons_append, List.nil_append, List.append_nil, List.length_cons, List.length_nil, List.getElem?_cons_zero, List.getElem?_cons_succ, List.length_map, ↓dAsg, ↓dName, ↓dNew, ↓dLst, ↓dFor_k, ↓dRng1, ↓dRng2, ↓dCall_k, ↓dAdd, ↓dSub, ↓dMul, ↓dMod, ↓dFdiv, ↓dPow, ↓dEq, ↓dNe, ↓scd, ↓dIsN, ↓dNotN, ↓dIsB, ↓dNotB, ↓dUn, ↓dNeg, ↓dTru, ↓dTruS, ↓dAnd, ↓dOr, ↓dNot, ↓dNotV, ↓dAndV, ↓dOrV, ↓dIfE, ↓dTup, ↓dDrop, ↓dBM, ↓dBM0, ↓tyD, ↓dApp, ↓dSetL, ↓dAsL, ↓dOnL, ↓dOnN, ↓dIsi, ↓tyName, isT, ↓dBreak, ↓dCont, ↓dPar, ↓endsD, List.set_cons_zero, List.set_cons_succ, List.replicate_succ, List.replicate_zero, su_same, ↓dLc_k, ↓dWhile_k, ↓dWipe, ↓dYes, ↓dIt, ↓dItN, ↓dSlice, ↓dPart, ↓dNoP, ↓dCut, ↓dSliceE, ↓dIxL, ↓dChain, ↓dIn, ↓dNotIn, ↓dInS, ↓mS0, ↓mS1, ↓dSta, ↓dEnd, ↓dFind, ↓dIsasc, ↓dIsdig, ↓dIsalp, ↓dIsaln, ↓dIslow, ↓dIspri, ↓okT, ↓okU, ↓ok2, ↓dFind4, ↓dSplit, ↓dJoin, ↓dJoinT, ↓dMulS, ↓dCatL, ↓dCatE, ↓dCatR, ↓dCatEE, ↓dStar, ↓dIntS, ↓dStr, ↓dMax, ↓dMin, ↓dII, ↓dFld_m, ↓dSetF_m, ↓dMeth_m, ↓dMake_k, ↓dGtup, ↓dGcons, ↓dGnil, true_and, and_true, Nat.add_zero, reduceCtorEq, ↓reduceIte, Bool.not_true, Bool.not_false, Bool.false_eq_true, if_true, if_false])
local macro_rules | `(tactic| walk_at "dl*") => `(tactic| simp -implicitDefEqProofs only [*, ↓dSeq, ↓dIfS, ↓dTB, ↓dOp, ↓dVar, ↓dC, ↓dLt, ↓dLe, ↓dGt, ↓dGe, ↓rII, ↓rIIc, ↓dCB, ↓dCons, ↓dNil, ↓dLen, ↓dInt, ↓dRet, ↓dRetN, ↓dNext, ↓dIx, ↓dAt, ↓startD, List.map_cons, List.map_nil, List.cons_append, List.nil_append, List.append_nil, List.length_cons, List.length_nil, List.getElem?_cons_zero, List.getElem?_cons_succ, List.length_map, ↓dAsg, ↓dName, ↓dNew, ↓dLst, ↓dFor_k, ↓dRng1, ↓dRng2, ↓dCall_k, ↓dAdd, ↓dSub, ↓dMul, ↓dMod, ↓dFdiv, ↓dPow, ↓dEq, ↓dNe, ↓scd, ↓dIsN, ↓dNotN, ↓dIsB, ↓dNotB, ↓dUn, ↓dNeg, ↓dTru, ↓dTruS, ↓dAnd, ↓dOr, ↓dNot, ↓dNotV, ↓dAndV, ↓dOrV, ↓dIfE, ↓dTup, ↓dDrop, ↓dBM, ↓dBM0, ↓tyD, ↓dApp, ↓dSetL, ↓dAsL, ↓dOnL, ↓dOnN, ↓dIsi, ↓tyName, isT, ↓dBreak, ↓dCont, ↓dPar, ↓endsD, List.set_cons_zero, List.set_cons_succ, List.replicate_succ, List.replicate_zero, su_same, ↓dLc_k, ↓dWhile_k, ↓dWipe, ↓dYes, ↓dIt, ↓dItN, ↓dSlice, ↓dPart, ↓dNoP, ↓dCut, ↓dSliceE, ↓dIxL, ↓dChain, ↓dIn, ↓dNotIn, ↓dInS, ↓mS0, ↓mS1, ↓dSta, ↓dEnd, ↓dFind, ↓dIsasc, ↓dIsdig, ↓dIsalp, ↓dIsaln, ↓dIslow, ↓dIspri, ↓okT, ↓okU, ↓ok2, ↓dFind4, ↓dSplit, ↓dJoin, ↓dJoinT, ↓dMulS, ↓dCatL, ↓dCatE, ↓dCatR, ↓dCatEE, ↓dStar, ↓dIntS, ↓dStr, ↓dMax, ↓dMin, ↓dII, ↓dFld_m, ↓dSetF_m, ↓dMeth_m, ↓dMake_k, ↓dGtup, ↓dGcons, ↓dGnil, true_and, and_true, Nat.add_zero, reduceCtorEq, ↓reduceIte, Bool.not_true, Bool.not_false, Bool.false_eq_true, if_true, if_false])
theorem strsOf_snoc (ws : Wds) (x : List Nat) : strsOf (ws.map D.str ++ [D.str x]) = some (ws ++ [x]) := by
  have := strsOf_map (ws ++ [x])
  rw [List.map_append, List.map_singleton] at this
  exact this
theorem at20 {a d : D} : atI [a, d] 0 = some a := rfl
theorem at21 {a d : D} : atI [a, d] 1 = some d := rfl
local macro_rules | `(tactic| walk_at "dlf") => `(tactic| simp -implicitDefEqProofs only [*, lf_len', ↓lk_most, pf_most, ↓lk_text, pf_text, ↓lk_at, pf_at, ↓lk_words, pf_words, ↓lk_many, pf_many, ↓lk_faulty, pf_faulty, lm_fault, lm_hear_line, lm_hear_literal, lm_hear, lm_faulty_, su_same, strsOf_map, strsOf_snoc, at20, at21, ↓dSeq, ↓dIfS, ↓dTB, ↓dOp, ↓dVar, ↓dC, ↓dLt, ↓dLe, ↓dGt, ↓dGe, ↓rII, ↓rIIc, ↓dCB, ↓dCons, ↓dNil, ↓dLen, ↓dInt, ↓dRet, ↓dRetN, ↓dNext, ↓dIx, ↓dAt, ↓startD, List.map_cons, List.map_nil, List.cons_append, List.nil_append, List.append_nil, List.length_cons, List.length_nil, List.getElem?_cons_zero, List.getElem?_cons_succ, List.length_map, ↓dAsg, ↓dName, ↓dNew, ↓dLst, ↓dFor_k, ↓dRng1, ↓dRng2, ↓dCall_k, ↓dAdd, ↓dSub, ↓dMul, ↓dMod, ↓dFdiv, ↓dPow, ↓dEq, ↓dNe, ↓scd, ↓dIsN, ↓dNotN, ↓dIsB, ↓dNotB, ↓dUn, ↓dNeg, ↓dTru, ↓dTruS, ↓dAnd, ↓dOr, ↓dNot, ↓dNotV, ↓dAndV, ↓dOrV, ↓dIfE, ↓dTup, ↓dDrop, ↓dBM, ↓dBM0, ↓tyD, ↓dApp, ↓dSetL, ↓dAsL, ↓dOnL, ↓dOnN, ↓dIsi, ↓tyName, isT, ↓dBreak, ↓dCont, ↓dPar, ↓endsD, List.set_cons_zero, List.set_cons_succ, List.replicate_succ, List.replicate_zero, su_same, ↓dLc_k, ↓dWhile_k, ↓dWipe, ↓dYes, ↓dIt, ↓dItN, ↓dSlice, ↓dPart, ↓dNoP, ↓dCut, ↓dSliceE, ↓dIxL, ↓dChain, ↓dIn, ↓dNotIn, ↓dInS, ↓mS0, ↓mS1, ↓dSta, ↓dEnd, ↓dFind, ↓dIsasc, ↓dIsdig, ↓dIsalp, ↓dIsaln, ↓dIslow, ↓dIspri, ↓okT, ↓okU, ↓ok2, ↓dFind4, ↓dSplit, ↓dJoin, ↓dJoinT, ↓dMulS, ↓dCatL, ↓dCatE, ↓dCatR, ↓dCatEE, ↓dStar, ↓dIntS, ↓dStr, ↓dMax, ↓dMin, ↓dII, ↓dFld_m, ↓dSetF_m, ↓dMeth_m, ↓dMake_k, ↓dGtup, ↓dGcons, ↓dGnil, true_and, and_true, Nat.add_zero, reduceCtorEq, ↓reduceIte, Bool.not_true, Bool.not_false, Bool.false_eq_true, if_true, if_false])
theorem jn_le : ∀ {ws : Wds}, (∀ w ∈ ws, w.length ≤ 10) → (jn ws).length ≤ 11 * ws.length
  | [], _ => Nat.zero_le _
  | [p], h => by
    have := h p (List.mem_singleton.mpr rfl)
    show p.length ≤ _
    rw [List.length_singleton]
    omega
  | p :: q :: r, h => by
    have h1 := h p (List.mem_cons_self ..)
    have h2 := jn_le (ws := q :: r) fun w hw => h w (List.mem_cons_of_mem _ hw)
    show (p ++ ([32] ++ jn (q :: r))).length ≤ _
    rw [List.length_cons] at h2
    rw [List.length_append, List.length_append, List.length_singleton, List.length_cons, List.length_cons]
    omega
theorem jn_snoc : ∀ {ws : Wds} {x : List Nat}, ws ≠ [] → jn (ws ++ [x]) = jn ws ++ ([32] ++ x)
  | [], _, h => absurd rfl h
  | [p], x, _ => rfl
  | p :: q :: r, x, _ => by
    have := jn_snoc (ws := q :: r) (x := x) (by simp)
    show p ++ ([32] ++ jn ((q :: r) ++ [x])) = (p ++ ([32] ++ jn (q :: r))) ++ ([32] ++ x)
    rw [this]
    simp only [List.append_assoc]
theorem sum_le : ∀ {ws : Wds} {b : Nat}, (∀ w ∈ ws, w.length ≤ b) → (ws.map (·.length)).sum ≤ b * ws.length
  | [], _, _ => Nat.zero_le _
  | p :: r, b, h => by
    have h1 := h p (List.mem_cons_self ..)
    have h2 := sum_le (ws := r) fun w hw => h w (List.mem_cons_of_mem _ hw)
    rw [List.map_cons, List.sum_cons, List.length_cons, Nat.mul_succ]
    omega
theorem join_ok {ws : Wds} (hw : ∀ w ∈ ws, w.length ≤ 30) (hn : ws.length ≤ 10) : joinOk [32] ws := by
  have := sum_le hw
  unfold joinOk
  rw [List.length_singleton]
  omega
theorem Cg.w10 {c : Cmd} (h : Cg c) : ∀ w ∈ c.1, w.length ≤ 10 := fun w hw => (h.wd w hw).2.2.2
theorem log_small {n : Nat} (h : n ≤ 2000) : ((n : Nat) : Int).natAbs.log2 < 1920 := by
  rw [Int.natAbs_natCast]
  by_cases h0 : n = 0
  · subst h0; decide
  · exact (Nat.log2_lt h0).mpr (Nat.lt_of_le_of_lt h (Nat.lt_of_lt_of_le (by decide : 2000 < 2 ^ 11) (Nat.pow_le_pow_right (by decide) (by decide))))
theorem ok_say : ∀ ds S Q, ds.length = 2 → sp_say ds S Q → rd_say (endsD Q) (startD N_say ds) S := by
  rintro ds S Q - ⟨⟨ws, l⟩, hc, rfl, h⟩
  have sz : (1000000 : Nat) ≤ sizeLine := by rw [sizeLine_eq]; omega
  have j1 := jn_le hc.w10
  have hl := hc.le
  have j2 : joinOk [32] ws := join_ok (fun w hw => Nat.le_trans (hc.w10 w hw) (by omega)) (Nat.le_trans hl (by decide))
  simp only at j1 hl
  cases l with
  | none =>
    have h' : Q (.str (jn ws ++ [10])) S := h
    show rd_say (endsD Q) (startD N_say [.tup (ws.map D.str), .non]) S
    clear hc h
    walk_at "dlf"
    exact ⟨by show (jn ws).length + 1 ≤ _; omega, S, Sle.refl S, h'⟩
  | some x =>
    have hx := hc.lit x rfl
    have h' : Q (.str (jn (ws ++ [cnt x.length]) ++ [10] ++ x ++ [10])) S := h
    show rd_say (endsD Q) (startD N_say [.tup (ws.map D.str), .str x]) S
    have hw10 : ∀ w ∈ ws, w.length ≤ 10 := hc.w10
    clear hc h
    walk_at "dlf"
    have hd := (rd_ok x.length (by omega)).1.2.2.1
    have hcn := (rd_ok x.length (by omega)).2.2
    have j3 : (jn (ws ++ [cnt x.length])).length ≤ 100 := by
      refine Nat.le_trans (jn_le (ws := ws ++ [cnt x.length]) fun w hw => ?_) (by rw [List.length_append, List.length_singleton]; omega)
      rcases List.mem_append.mp hw with z | z
      · exact hw10 w z
      · rw [List.mem_singleton.mp z]; omega
    have j4 : joinOk [32] (ws ++ [cnt x.length]) := join_ok (fun w hw => by
      rcases List.mem_append.mp hw with z | z
      · have := hw10 w z; omega
      · rw [List.mem_singleton.mp z]; omega) (by rw [List.length_append, List.length_singleton]; omega)
    refine ⟨by omega, log_small (by omega), by omega, by omega, by rw [List.length_append, List.length_map, List.length_singleton]; omega, j4, ?_, ?_, ?_, S, Sle.refl S, h'⟩
    · show (jn (ws ++ [cnt x.length])).length + 1 ≤ _
      omega
    · show (jn (ws ++ [cnt x.length]) ++ [10]).length + x.length ≤ _
      rw [List.length_append, List.length_singleton]; omega
    · show (jn (ws ++ [cnt x.length]) ++ [10] ++ x).length + 1 ≤ _
      rw [List.length_append, List.length_append, List.length_singleton]; omega
theorem ok_llaw_signs : ∀ ds S Q, ds.length = 1 → sp_llaw_signs ds S Q → rd_llaw_signs (endsD Q) (startD N_llaw_signs ds) S := by
  rintro ds S Q - ⟨⟨ws, l⟩, hc, rfl, h⟩
  have sz : (1000000 : Nat) ≤ sizeLine := by rw [sizeLine_eq]; omega
  have j1 := jn_le hc.w10
  have hl := hc.le
  have j2 : joinOk [32] ws := join_ok (fun w hw => Nat.le_trans (hc.w10 w hw) (by omega)) (Nat.le_trans hl (by decide))
  simp only at j1 hl
  cases l with
  | none =>
    have h' : Q (.str (jn ws ++ [10])) S := h
    show rd_llaw_signs (endsD Q) (startD N_llaw_signs [.tup [.tup (ws.map D.str), .non]]) S
    clear hc h
    walk_at "dlf"
    exact ⟨by show (jn ws).length + 1 ≤ _; omega, S, Sle.refl S, h'⟩
  | some x =>
    have hx := hc.lit x rfl
    have h' : Q (.str (jn (ws ++ [cnt x.length]) ++ [10] ++ x ++ [10])) S := h
    rw [jn_snoc hc.ne] at h'
    show rd_llaw_signs (endsD Q) (startD N_llaw_signs [.tup [.tup (ws.map D.str), .str x]]) S
    clear hc h
    walk_at "dlf"
    have hd := (rd_ok x.length (by omega)).1.2.2.1
    have e : jn ws ++ ([32] ++ cnt x.length) ++ [10] ++ x ++ [10] = TL.joinL [32] ws ++ [32, 123] ++ decs (x.length : Int) ++ [125, 10] ++ x ++ [10] := by unfold cnt; simp
    have h2 : Q (.str (jn ws ++ ([32] ++ cnt x.length) ++ [10] ++ x ++ [10])) S := h'
    rw [e] at h2
    have j5 : (TL.joinL [32] ws).length ≤ 100 := by show (jn ws).length ≤ 100; omega
    refine ⟨by omega, by omega, log_small (by omega), ?_, ?_, ?_, ?_, S, Sle.refl S, h2⟩ <;> (simp only [List.length_append, List.length_cons, List.length_nil]; omega)
end LW

set_option Elab.async false
set_option linter.all false
set_option maxRecDepth 100000
set_option maxHeartbeats 4000000
namespace LW
open PySem PySem.Spec L2 DL
local macro_rules | `(tactic| walk_at "dl") => `(tactic| simp -implicitDefEqProofs only [↓dSeq, ↓dIfS, ↓dTB, ↓dOp, ↓dVar, ↓dC, ↓dLt, ↓dLe, ↓dGt, ↓dGe, ↓rII, ↓rIIc, ↓dCB, ↓dCons, ↓dNil, ↓dLen, ↓dInt, ↓dRet, ↓dRetN, ↓dNext, ↓dIx, ↓dAt, ↓startD, List.map_cons, List.map_nil, List.cons_append, List.nil_append, List.append_nil, List.length_cons, List.length_nil, List.getElem?_cons_zero, List.getElem?_cons_succ, List.length_map, ↓dAsg, ↓dName, ↓dNew, ↓dLst, ↓dFor_k, ↓dRng1, ↓dRng2, ↓dCall_k, ↓dAdd, ↓dSub, ↓dMul, ↓dMod, ↓dFdiv, ↓dPow, ↓dEq, ↓dNe, ↓scd, ↓dIsN, ↓dNotN, ↓dIsB, ↓dNotB, ↓dUn, ↓dNeg, ↓dTru, ↓dTruS, ↓dAnd, ↓dOr, ↓dNot, ↓dNotV, ↓dAndV, ↓dOrV, ↓dIfE, ↓dTup, ↓dDrop, ↓dBM, ↓dBM0, ↓tyD, ↓dApp, ↓dSetL, ↓dAsL, ↓dOnL, ↓dOnN, ↓dIsi, ↓tyName, isT, ↓dBreak, ↓dCont, ↓dPar, ↓endsD, List.set_cons_zero, List.set_cons_succ, List.replicate_succ, List.replicate_zero, su_same, ↓dLc_k, ↓dWhile_k, ↓dWipe, ↓dYes, ↓dIt, ↓dItN, ↓dSlice, ↓dPart, ↓dNoP, ↓dCut, ↓dSliceE, ↓dIxL, ↓dChain, ↓dIn, ↓dNotIn, ↓dInS, ↓mS0, ↓mS1, ↓dSta, ↓dEnd, ↓dFind, ↓dIsasc, ↓dIsdig, ↓dIsalp, ↓dIsaln, ↓dIslow, ↓dIspri, ↓okT, ↓okU, ↓ok2, ↓dFind4, ↓dSplit, ↓dJoin, ↓dJoinT, ↓dMulS, ↓dCatL, ↓dCatE, ↓dCatR, ↓dCatEE, ↓dStar, ↓dIntS, ↓dStr, ↓dMax, ↓dMin, ↓dII, ↓dFld_m, ↓dSetF_m, ↓dMeth_m, ↓dMake_k, ↓dGtup, ↓dGcons, ↓dGnil, true_and, and_true, Nat.add_zero, reduceCtorEq, ↓reduceIte, Bool.not_true, Bool.not_false, Bool.false_eq_true, if_true, if_false])
local macro_rules | `(tactic| walk_at "dl*") => `(tactic| simp -implicitDefEqProofs only [*, ↓dSeq, ↓dIfS, ↓dTB, ↓dOp, ↓dVar, ↓dC, ↓dLt, ↓dLe, ↓dGt, ↓dGe, ↓rII, ↓rIIc, ↓dCB, ↓dCons, ↓dNil, ↓dLen, ↓dInt, ↓dRet, ↓dRetN, ↓dNext, ↓dIx, ↓dAt, ↓startD, List.map_cons, List.map_nil, List.cons_append, List.nil_append, List.append_nil, List.length_cons, List.length_nil, List.getElem?_cons_zero, List.getElem?_cons_succ, List.length_map, ↓dAsg, ↓dName, ↓dNew, ↓dLst, ↓dFor_k, ↓dRng1, ↓dRng2, ↓dCall_k, ↓dAdd, ↓dSub, ↓dMul, ↓dMod, ↓dFdiv, ↓dPow, ↓dEq, ↓dNe, ↓scd, ↓dIsN, ↓dNotN, ↓dIsB, ↓dNotB, ↓dUn, ↓dNeg, ↓dTru, ↓dTruS, ↓dAnd, ↓dOr, ↓dNot, ↓dNotV, ↓dAndV, ↓dOrV, ↓dIfE, ↓dTup, ↓dDrop, ↓dBM, ↓dBM0, ↓tyD, ↓dApp, ↓dSetL, ↓dAsL, ↓dOnL, ↓dOnN, ↓dIsi, ↓tyName, isT, ↓dBreak, ↓dCont, ↓dPar, ↓endsD, List.set_cons_zero, List.set_cons_succ, List.replicate_succ, List.replicate_zero, su_same, ↓dLc_k, ↓dWhile_k, ↓dWipe, ↓dYes, ↓dIt, ↓dItN, ↓dSlice, ↓dPart, ↓dNoP, ↓dCut, ↓dSliceE, ↓dIxL, ↓dChain, ↓dIn, ↓dNotIn, ↓dInS, ↓mS0, ↓mS1, ↓dSta, ↓dEnd, ↓dFind, ↓dIsasc, ↓dIsdig, ↓dIsalp, ↓dIsaln, ↓dIslow, ↓dIspri, ↓okT, ↓okU, ↓ok2, ↓dFind4, ↓dSplit, ↓dJoin, ↓dJoinT, ↓dMulS, ↓dCatL, ↓dCatE, ↓dCatR, ↓dCatEE, ↓dStar, ↓dIntS, ↓dStr, ↓dMax, ↓dMin, ↓dII, ↓dFld_m, ↓dSetF_m, ↓dMeth_m, ↓dMake_k, ↓dGtup, ↓dGcons, ↓dGnil, true_and, and_true, Nat.add_zero, reduceCtorEq, ↓reduceIte, Bool.not_true, Bool.not_false, Bool.false_eq_true, if_true, if_false])
local macro_rules | `(tactic| walk_at "dlf") => `(tactic| simp -implicitDefEqProofs only [*, lf_len', ↓lk_most, pf_most, ↓lk_text, pf_text, ↓lk_at, pf_at, ↓lk_words, pf_words, ↓lk_many, pf_many, ↓lk_faulty, pf_faulty, lm_fault, lm_hear_line, lm_hear_literal, lm_hear, lm_faulty_, su_same, strsOf_map, strsOf_snoc, at20, at21, ↓dSeq, ↓dIfS, ↓dTB, ↓dOp, ↓dVar, ↓dC, ↓dLt, ↓dLe, ↓dGt, ↓dGe, ↓rII, ↓rIIc, ↓dCB, ↓dCons, ↓dNil, ↓dLen, ↓dInt, ↓dRet, ↓dRetN, ↓dNext, ↓dIx, ↓dAt, ↓startD, List.map_cons, List.map_nil, List.cons_append, List.nil_append, List.append_nil, List.length_cons, List.length_nil, List.getElem?_cons_zero, List.getElem?_cons_succ, List.length_map, ↓dAsg, ↓dName, ↓dNew, ↓dLst, ↓dFor_k, ↓dRng1, ↓dRng2, ↓dCall_k, ↓dAdd, ↓dSub, ↓dMul, ↓dMod, ↓dFdiv, ↓dPow, ↓dEq, ↓dNe, ↓scd, ↓dIsN, ↓dNotN, ↓dIsB, ↓dNotB, ↓dUn, ↓dNeg, ↓dTru, ↓dTruS, ↓dAnd, ↓dOr, ↓dNot, ↓dNotV, ↓dAndV, ↓dOrV, ↓dIfE, ↓dTup, ↓dDrop, ↓dBM, ↓dBM0, ↓tyD, ↓dApp, ↓dSetL, ↓dAsL, ↓dOnL, ↓dOnN, ↓dIsi, ↓tyName, isT, ↓dBreak, ↓dCont, ↓dPar, ↓endsD, List.set_cons_zero, List.set_cons_succ, List.replicate_succ, List.replicate_zero, su_same, ↓dLc_k, ↓dWhile_k, ↓dWipe, ↓dYes, ↓dIt, ↓dItN, ↓dSlice, ↓dPart, ↓dNoP, ↓dCut, ↓dSliceE, ↓dIxL, ↓dChain, ↓dIn, ↓dNotIn, ↓dInS, ↓mS0, ↓mS1, ↓dSta, ↓dEnd, ↓dFind, ↓dIsasc, ↓dIsdig, ↓dIsalp, ↓dIsaln, ↓dIslow, ↓dIspri, ↓okT, ↓okU, ↓ok2, ↓dFind4, ↓dSplit, ↓dJoin, ↓dJoinT, ↓dMulS, ↓dCatL, ↓dCatE, ↓dCatR, ↓dCatEE, ↓dStar, ↓dIntS, ↓dStr, ↓dMax, ↓dMin, ↓dII, ↓dFld_m, ↓dSetF_m, ↓dMeth_m, ↓dMake_k, ↓dGtup, ↓dGcons, ↓dGnil, true_and, and_true, Nat.add_zero, reduceCtorEq, ↓reduceIte, Bool.not_true, Bool.not_false, Bool.false_eq_true, if_true, if_false])
theorem comp_allP {γ : GD} {τ : ED} {δ : Sl} {ck : Sh → Prop} {Q : List D → Sh → Prop} (P0 P : D → Prop) (Iv : Sh → Prop) (hck : ∀ S, Iv S → ck S) (hs : ∀ x, P0 x → ∀ S, Iv S → ∀ R : QD, (∀ d S', P d → Iv S' → R d S') → γ x δ S fun δ1 S1 => τ δ1 S1 R) :
    ∀ (xs acc : List D) (S : Sh), (∀ x ∈ xs, P0 x) → Iv S → (∀ d ∈ acc, P d) → acc.length + xs.length ≤ sizeLine → (∀ ds S', ds.length = acc.length + xs.length → (∀ d ∈ ds, P d) → Iv S' → Q ds S') → dComp γ dYes τ δ ck Q xs acc S
  | [], acc, S, _, hi, ha, _, q => q acc S (by simp) ha hi
  | x :: xs, acc, S, hx, hi, ha, hl, q => by
    rw [List.length_cons] at hl
    refine hs x (hx x List.mem_cons_self) S hi _ fun d S' hp hi' => ⟨by omega, hck S' hi', comp_allP P0 P Iv hck hs xs (acc ++ [d]) S' (fun y hy => hx y (List.mem_cons_of_mem _ hy)) hi' (fun e he => ?_) (by rw [List.length_append, List.length_singleton]; omega) fun ds S2 e1 e2 e3 => q ds S2 (by rw [e1, List.length_append, List.length_singleton, List.length_cons]; omega) e2 e3⟩
    rcases List.mem_append.mp he with z | z
    · exact ha e z
    · rw [List.mem_singleton.mp z]; exact hp
theorem atI_in {xs : List D} {r : Int} (h0 : 0 ≤ r) (h1 : r < xs.length) : ∃ d ∈ xs, atI xs r = some d := by
  obtain ⟨j, rfl⟩ := Int.eq_ofNat_of_zero_le h0
  have hj : j < xs.length := by omega
  exact ⟨xs[j], List.getElem_mem hj, atI_nat (List.getElem?_eq_getElem hj)⟩
theorem all_str {G : List Nat → Prop} : ∀ {ds : List D}, (∀ d ∈ ds, ∃ s, d = .str s ∧ G s) → ∃ ws : Wds, ds = ws.map D.str ∧ ∀ w ∈ ws, G w
  | [], _ => ⟨[], rfl, fun w hw => absurd hw (List.not_mem_nil)⟩
  | d :: ds, h => by
    obtain ⟨s, rfl, hs⟩ := h d (List.mem_cons_self ..)
    obtain ⟨ws, rfl, hw⟩ := all_str (ds := ds) fun d hd => h d (List.mem_cons_of_mem _ hd)
    exact ⟨s :: ws, rfl, fun w hw' => by
      rcases List.mem_cons.mp hw' with rfl | z
      · exact hs
      · exact hw w z⟩
def Wd0 (s : List Nat) : Prop := s ≠ [] ∧ 32 ∉ s ∧ 10 ∉ s ∧ s.length ≤ 10
abbrev W9 : Wds := [[100, 111], [97, 123], [55], [45], [120, 58, 121], [123, 49, 125, 120], [123, 48, 49, 125], [91], [78, 97, 109, 101]]
abbrev L6 : Wds := [[97], [10], [32], [123, 50, 125], [100, 111, 32, 49, 10], [98, 121, 101]]
theorem w9_ok : ∀ s ∈ W9, s ≠ [] ∧ 32 ∉ s ∧ 10 ∉ s ∧ s.length ≤ 10 := by decide
theorem l6_ok : ∀ s ∈ L6, s.length ≤ 10 := by decide
theorem in_str {ws : Wds} {d : D} (h : d ∈ ws.map D.str) : ∃ s, d = .str s ∧ s ∈ ws := by
  obtain ⟨s, hs, rfl⟩ := List.mem_map.mp h
  exact ⟨s, rfl, hs⟩
theorem join0_len : ∀ ys : Wds, (TL.joinL [] ys).length = (ys.map (·.length)).sum
  | [] => rfl
  | [p] => by
    show p.length = p.length + 0
    omega
  | p :: q :: r => by
    have := join0_len (q :: r)
    show (p ++ ([] ++ TL.joinL [] (q :: r))).length = p.length + ((q :: r).map (·.length)).sum
    rw [List.length_append, List.nil_append, this]
theorem ok_llaw_command : ∀ ds S Q, ds.length = 1 → sp_llaw_command ds S Q → rd_llaw_command (endsD Q) (startD N_llaw_command ds) S := by
  rintro ds S Q - ⟨b, rfl, hb, h⟩
  have sz : (1000000 : Nat) ≤ sizeLine := by rw [sizeLine_eq]; omega
  walk_at "dlf"
  refine ⟨b, 4, rfl, by decide, hb, fun r S1 r0 r1 b1 => ?_⟩
  walk_at "dlf"
  refine ⟨by omega, by omega, ?_⟩
  refine comp_all (fun d => ∃ s, d = .str s ∧ s ∈ W9) (Bx b S) (fun _ _ => trivial) (fun xs x hx S2 b2 R hR => ?_) _ [] S1 b1 (fun d hd => absurd hd List.not_mem_nil) (by rw [rng_len]; simp; omega) fun ds S2 hl hd b2 => ?_
  · clear h
    walk_at "dlf"
    refine ⟨by omega, b, 9, rfl, by decide, b2.1, fun r S3 r0 r1 b3 => ?_⟩
    obtain ⟨d, hd, ed⟩ := atI_in (xs := W9.map D.str) r0 (by exact r1)
    show match atI (W9.map D.str) r with | some d => R d S3 | none => False
    rw [ed]
    exact hR d S3 (in_str hd) (b2.trans b3)
  obtain ⟨ws, rfl, hw⟩ := all_str hd
  rw [List.length_map, rng_len, List.length_nil] at hl
  refine comp_allP (fun d => ∃ s, d = .str s ∧ s ∈ W9) (fun d => ∃ s, d = .str s ∧ Wd0 s) (fun S' => S' = S2) (fun _ _ => trivial) (fun x hx S3 e3 R hR => ?_) _ [] S2 hd rfl (fun d hd => absurd hd List.not_mem_nil) ?_ fun ds S3 hl2 hd2 e3 => ?_
  · obtain ⟨s, rfl, hs⟩ := hx
    clear h
    walk_at "dlf"
    by_cases e : s = [123, 48, 49, 125]
    · rw [decide_eq_true e]
      exact hR _ _ ⟨_, rfl, by decide, by decide, by decide, by decide⟩ rfl
    · rw [decide_eq_false e]
      exact hR _ _ ⟨_, rfl, w9_ok s hs⟩ rfl
  · simp; omega
  subst e3
  obtain ⟨vs, rfl, hv⟩ := all_str hd2
  rw [List.length_map, List.length_map, List.length_nil] at hl2
  have nv : vs ≠ [] := fun e => by rw [e] at hl2; simp at hl2; omega
  have lv : vs.length ≤ 4 := by omega
  obtain ⟨vs0, v, ev⟩ : ∃ vs0 v, vs = vs0 ++ [v] := ⟨vs.dropLast, vs.getLast nv, (List.dropLast_concat_getLast nv).symm⟩
  have el : atI (vs.map D.str) (-1) = some (.str v) := by rw [ev, List.map_append, List.map_singleton, at_last]
  have hvv : Wd0 v := hv v (by rw [ev]; exact List.mem_append_right _ (List.mem_singleton.mpr rfl))
  have e1 : decide (cutD v none (some 1) = [123]) = decide (v.head? = some 123) := by
    rw [show cutD v none (some 1) = v.take 1 from cut_to]
    rw [decide_eq_decide]
    cases v with
    | nil => simp
    | cons c v => simp
  have lvD : (vs.map D.str).length = vs.length := List.length_map ..
  refine ⟨rfl, b, 2, rfl, by decide, b2.1, fun z S4 z0 z1 b4 => ?_⟩
  have b5 := b2.trans b4
  have big : ∀ ys : Wds, (∀ w ∈ ys, w.length ≤ 10) → ys.length ≤ 6 → ∀ S', Bx b S S' → ∃ S2, Sle S2 S' ∧ Q (D.tup [D.tup (vs.map D.str), D.str (cutD (TL.joinL [] ys) none (some 20))]) S2 := fun ys h1 h2 S' b6 =>
    ⟨S', Sle.refl S', h (vs, some (cutD (TL.joinL [] ys) none (some 20))) S' ⟨nv, by simp only; omega, hv, fun e => (by cases e), fun x hx => by
      cases hx
      rw [show cutD (TL.joinL [] ys) none (some 20) = (TL.joinL [] ys).take 20 from cut_to, List.length_take]
      omega⟩ b6⟩
  have sml : (v.head? ≠ some 123) → ∃ S2, Sle S2 S4 ∧ Q (D.tup [D.tup (vs.map D.str), D.non]) S2 := fun h1 => ⟨S4, Sle.refl S4, h (vs, none) S4 ⟨nv, by simp only; omega, hv, fun _ w hw => by
      simp only at hw
      rw [ev, List.getLast?_concat] at hw
      cases hw
      exact h1, fun x hx => by cases hx⟩ b5⟩
  have smm : ∃ S2, Sle S2 S4 ∧ Q (D.tup [D.tup (vs.map D.str ++ [D.str [101]]), D.non]) S2 := ⟨S4, Sle.refl S4, by
    have := h (vs ++ [[101]], none) S4 ⟨by simp, by simp only [List.length_append, List.length_singleton]; omega, fun w hw => by
      rcases List.mem_append.mp hw with z | z
      · exact hv w z
      · rw [List.mem_singleton.mp z]; exact ⟨by decide, by decide, by decide, by decide⟩, fun _ w hw => by
      simp only at hw
      rw [List.getLast?_concat] at hw
      cases hw
      decide, fun x hx => by cases hx⟩ b5
    unfold cD sD at this
    rw [List.map_append] at this
    exact this⟩
  clear h ev
  walk_at "dlf"
  refine ifb (fun hz => ?_) fun hz => ?_
  · refine ⟨b, 6, rfl, by decide, b5.1, fun y S5 y0 y1 b6 => ?_⟩
    walk_at "dlf"
    refine ⟨by omega, by omega, ?_⟩
    refine comp_all (fun d => ∃ s, d = .str s ∧ s.length ≤ 10) (Bx b S) (fun _ _ => trivial) (fun xs x hx S6 b7 R hR => ?_) _ [] S5 (b5.trans b6) (fun d hd => absurd hd List.not_mem_nil) (by rw [rng_len]; simp; omega) fun ds S6 hl6 hd6 b7 => ?_
    · walk_at "dlf"
      refine ⟨by omega, b, 6, rfl, by decide, b7.1, fun r S7 r0 r1 b8 => ?_⟩
      obtain ⟨d, hd, ed⟩ := atI_in (xs := L6.map D.str) r0 (by exact r1)
      show match atI (L6.map D.str) r with | some d => R d S7 | none => False
      rw [ed]
      obtain ⟨s, rfl, hs⟩ := in_str hd
      exact hR _ S7 ⟨s, rfl, l6_ok s hs⟩ (b7.trans b8)
    · obtain ⟨ys, rfl, hy⟩ := all_str hd6
      rw [List.length_map, rng_len, List.length_nil] at hl6
      have := sum_le hy
      have hl7 : ys.length ≤ 6 := by omega
      have jo : joinOk [] ys := by unfold joinOk; rw [List.length_nil]; omega
      have jl : (TL.joinL [] ys).length ≤ 60 := by rw [join0_len]; omega
      rw [strsOf_map]
      exact ⟨jo, (show (TL.joinL [] ys).length ≤ sizeLine from by omega), (show 2 ≤ sizeLine from by omega), big ys hy hl7 S6 b7⟩
  · refine ⟨by have := hvv.2.2.2; omega, ?_⟩
    refine ifb (fun h1 => ⟨by omega, by omega, by omega⟩) fun h1 => ⟨by omega, sml h1⟩
end LW

set_option Elab.async false
set_option linter.all false
set_option maxRecDepth 100000
set_option maxHeartbeats 4000000
namespace LW
open PySem PySem.Spec L2 DL
local macro_rules | `(tactic| walk_at "dl") => `(tactic| simp -implicitDefEqProofs only [↓dSeq, ↓dIfS, ↓dTB, ↓dOp, ↓dVar, ↓dC, ↓dLt, ↓dLe, ↓dGt, ↓dGe, ↓rII, ↓rIIc, ↓dCB, ↓dCons, ↓dNil, ↓dLen, ↓dInt, ↓dRet, ↓dRetN, ↓dNext, ↓dIx, ↓dAt, ↓startD, List.map_cons, List.map_nil, List.cons_append, List.nil_append, List.append_nil, List.length_cons, List.length_nil, List.getElem?_cons_zero, List.getElem?_cons_succ, List.length_map, ↓dAsg, ↓dName, ↓dNew, ↓dLst, ↓dFor_k, ↓dRng1, ↓dRng2, ↓dCall_k, ↓dAdd, ↓dSub, ↓dMul, ↓dMod, ↓dFdiv, ↓dPow, ↓dEq, ↓dNe, ↓scd, ↓dIsN, ↓dNotN, ↓dIsB, ↓dNotB, ↓dUn, ↓dNeg, ↓dTru, ↓dTruS, ↓dAnd, ↓dOr, ↓dNot, ↓dNotV, ↓dAndV, ↓dOrV, ↓dIfE, ↓dTup, ↓dDrop, ↓dBM, ↓dBM0, ↓tyD, ↓dApp, ↓dSetL, ↓dAsL, ↓dOnL, ↓dOnN, ↓dIsi, ↓tyName, isT, ↓dBreak, ↓dCont, ↓dPar, ↓endsD, List.set_cons_zero, List.set_cons_succ, List.replicate_succ, List.replicate_zero, su_same, ↓dLc_k, ↓dWhile_k, ↓dWipe, ↓dYes, ↓dIt, ↓dItN, ↓dSlice, ↓dPart, ↓dNoP, ↓dCut, ↓dSliceE, ↓dIxL, ↓dChain, ↓dIn, ↓dNotIn, ↓dInS, ↓mS0, ↓mS1, ↓dSta, ↓dEnd, ↓dFind, ↓dIsasc, ↓dIsdig, ↓dIsalp, ↓dIsaln, ↓dIslow, ↓dIspri, ↓okT, ↓okU, ↓ok2, ↓dFind4, ↓dSplit, ↓dJoin, ↓dJoinT, ↓dMulS, ↓dCatL, ↓dCatE, ↓dCatR, ↓dCatEE, ↓dStar, ↓dIntS, ↓dStr, ↓dMax, ↓dMin, ↓dII, ↓dFld_m, ↓dSetF_m, ↓dMeth_m, ↓dMake_k, ↓dGtup, ↓dGcons, ↓dGnil, true_and, and_true, Nat.add_zero, reduceCtorEq, ↓reduceIte, Bool.not_true, Bool.not_false, Bool.false_eq_true, if_true, if_false])
local macro_rules | `(tactic| walk_at "dl*") => `(tactic| simp -implicitDefEqProofs only [*, ↓dSeq, ↓dIfS, ↓dTB, ↓dOp, ↓dVar, ↓dC, ↓dLt, ↓dLe, ↓dGt, ↓dGe, ↓rII, ↓rIIc, ↓dCB, ↓dCons, ↓dNil, ↓dLen, ↓dInt, ↓dRet, ↓dRetN, ↓dNext, ↓dIx, ↓dAt, ↓startD, List.map_cons, List.map_nil, List.cons_append, List.nil_append, List.append_nil, List.length_cons, List.length_nil, List.getElem?_cons_zero, List.getElem?_cons_succ, List.length_map, ↓dAsg, ↓dName, ↓dNew, ↓dLst, ↓dFor_k, ↓dRng1, ↓dRng2, ↓dCall_k, ↓dAdd, ↓dSub, ↓dMul, ↓dMod, ↓dFdiv, ↓dPow, ↓dEq, ↓dNe, ↓scd, ↓dIsN, ↓dNotN, ↓dIsB, ↓dNotB, ↓dUn, ↓dNeg, ↓dTru, ↓dTruS, ↓dAnd, ↓dOr, ↓dNot, ↓dNotV, ↓dAndV, ↓dOrV, ↓dIfE, ↓dTup, ↓dDrop, ↓dBM, ↓dBM0, ↓tyD, ↓dApp, ↓dSetL, ↓dAsL, ↓dOnL, ↓dOnN, ↓dIsi, ↓tyName, isT, ↓dBreak, ↓dCont, ↓dPar, ↓endsD, List.set_cons_zero, List.set_cons_succ, List.replicate_succ, List.replicate_zero, su_same, ↓dLc_k, ↓dWhile_k, ↓dWipe, ↓dYes, ↓dIt, ↓dItN, ↓dSlice, ↓dPart, ↓dNoP, ↓dCut, ↓dSliceE, ↓dIxL, ↓dChain, ↓dIn, ↓dNotIn, ↓dInS, ↓mS0, ↓mS1, ↓dSta, ↓dEnd, ↓dFind, ↓dIsasc, ↓dIsdig, ↓dIsalp, ↓dIsaln, ↓dIslow, ↓dIspri, ↓okT, ↓okU, ↓ok2, ↓dFind4, ↓dSplit, ↓dJoin, ↓dJoinT, ↓dMulS, ↓dCatL, ↓dCatE, ↓dCatR, ↓dCatEE, ↓dStar, ↓dIntS, ↓dStr, ↓dMax, ↓dMin, ↓dII, ↓dFld_m, ↓dSetF_m, ↓dMeth_m, ↓dMake_k, ↓dGtup, ↓dGcons, ↓dGnil, true_and, and_true, Nat.add_zero, reduceCtorEq, ↓reduceIte, Bool.not_true, Bool.not_false, Bool.false_eq_true, if_true, if_false])
local macro_rules | `(tactic| walk_at "dlf") => `(tactic| simp -implicitDefEqProofs only [*, lf_len', ↓lk_most, pf_most, ↓lk_text, pf_text, ↓lk_at, pf_at, ↓lk_words, pf_words, ↓lk_many, pf_many, ↓lk_faulty, pf_faulty, lm_fault, lm_hear_line, lm_hear_literal, lm_hear, lm_faulty_, su_same, strsOf_map, strsOf_snoc, at20, at21, ↓dSeq, ↓dIfS, ↓dTB, ↓dOp, ↓dVar, ↓dC, ↓dLt, ↓dLe, ↓dGt, ↓dGe, ↓rII, ↓rIIc, ↓dCB, ↓dCons, ↓dNil, ↓dLen, ↓dInt, ↓dRet, ↓dRetN, ↓dNext, ↓dIx, ↓dAt, ↓startD, List.map_cons, List.map_nil, List.cons_append, List.nil_append, List.append_nil, List.length_cons, List.length_nil, List.getElem?_cons_zero, List.getElem?_cons_succ, List.length_map, ↓dAsg, ↓dName, ↓dNew, ↓dLst, ↓dFor_k, ↓dRng1, ↓dRng2, ↓dCall_k, ↓dAdd, ↓dSub, ↓dMul, ↓dMod, ↓dFdiv, ↓dPow, ↓dEq, ↓dNe, ↓scd, ↓dIsN, ↓dNotN, ↓dIsB, ↓dNotB, ↓dUn, ↓dNeg, ↓dTru, ↓dTruS, ↓dAnd, ↓dOr, ↓dNot, ↓dNotV, ↓dAndV, ↓dOrV, ↓dIfE, ↓dTup, ↓dDrop, ↓dBM, ↓dBM0, ↓tyD, ↓dApp, ↓dSetL, ↓dAsL, ↓dOnL, ↓dOnN, ↓dIsi, ↓tyName, isT, ↓dBreak, ↓dCont, ↓dPar, ↓endsD, List.set_cons_zero, List.set_cons_succ, List.replicate_succ, List.replicate_zero, su_same, ↓dLc_k, ↓dWhile_k, ↓dWipe, ↓dYes, ↓dIt, ↓dItN, ↓dSlice, ↓dPart, ↓dNoP, ↓dCut, ↓dSliceE, ↓dIxL, ↓dChain, ↓dIn, ↓dNotIn, ↓dInS, ↓mS0, ↓mS1, ↓dSta, ↓dEnd, ↓dFind, ↓dIsasc, ↓dIsdig, ↓dIsalp, ↓dIsaln, ↓dIslow, ↓dIspri, ↓okT, ↓okU, ↓ok2, ↓dFind4, ↓dSplit, ↓dJoin, ↓dJoinT, ↓dMulS, ↓dCatL, ↓dCatE, ↓dCatR, ↓dCatEE, ↓dStar, ↓dIntS, ↓dStr, ↓dMax, ↓dMin, ↓dII, ↓dFld_m, ↓dSetF_m, ↓dMeth_m, ↓dMake_k, ↓dGtup, ↓dGcons, ↓dGnil, true_and, and_true, Nat.add_zero, reduceCtorEq, ↓reduceIte, Bool.not_true, Bool.not_false, Bool.false_eq_true, if_true, if_false])
theorem rep1 (n c : Nat) : (List.replicate ((n : Nat) : Int).toNat [c]).flatten = List.replicate n c := by
  rw [Int.toNat_natCast]
  induction n with
  | zero => rfl
  | succ n ih => rw [List.replicate_succ, List.flatten_cons, ih]; rfl
theorem cnt_ok : ∀ n, n < 60 → 32 ∉ cnt n ∧ 10 ∉ cnt n ∧ cnt n ≠ [] ∧ (cnt n).head? = some 123 := by decide +kernel
theorem lin_cnt {n : Nat} (h : n < 60) : Lin [[97], cnt n] := ⟨by simp, fun w hw => by
  rcases List.mem_cons.mp hw with rfl | z
  · decide
  · rw [List.mem_singleton.mp z]; exact ⟨(cnt_ok n h).1, (cnt_ok n h).2.1⟩, by
  have := (rd_ok n h).2.2
  show ([97] ++ ([32] ++ cnt n)).length ≤ 2000
  rw [List.length_append, List.length_append, List.length_singleton, List.length_singleton]
  omega⟩
theorem ne_cnt {n : Nat} (h : n < 60) : [] ∉ [[97], cnt n] := fun hx => by
  rcases List.mem_cons.mp hx with e | z
  · cases e
  · exact (cnt_ok n h).2.2.1 (List.mem_singleton.mp z).symm
theorem bad6_ok : ∀ w ∈ bad6, 32 ∉ w ∧ 10 ∉ w ∧ w ≠ [] ∧ w.head? = some 123 ∧ w.length ≤ 10 := by decide
theorem lin_bad {w : List Nat} (h : w ∈ bad6) : Lin [[97], w] := ⟨by simp, fun v hv => by
  rcases List.mem_cons.mp hv with rfl | z
  · decide
  · rw [List.mem_singleton.mp z]; exact ⟨(bad6_ok w h).1, (bad6_ok w h).2.1⟩, by
  have := (bad6_ok w h).2.2.2.2
  show ([97] ++ ([32] ++ w)).length ≤ 2000
  rw [List.length_append, List.length_append, List.length_singleton, List.length_singleton]
  omega⟩
theorem bad_word {m : Int} {w t : List Nat} (h : w ∈ bad6) : Bad m none ((97 :: 32 :: (w ++ [10])) ++ t) (w.length + 3) := by
  have := Bad.count (m := m) [[97]] w t none (lin_bad h) (fun hx => by
    rcases List.mem_cons.mp hx with e | z
    · cases e
    · exact (bad6_ok w h).2.2.1 (List.mem_singleton.mp z).symm) (bad6_ok w h).2.2.2.1 (.inr ⟨h, rfl⟩) (fun k e => by cases e)
  have e1 : jn ([[97]] ++ [w]) ++ 10 :: t = (97 :: 32 :: (w ++ [10])) ++ t := by show ([97] ++ ([32] ++ w)) ++ 10 :: t = _; simp
  have e2 : (jn ([[97]] ++ [w])).length + 1 = w.length + 3 := by show ([97] ++ ([32] ++ w)).length + 1 = _; simp only [List.length_append, List.length_singleton]; omega
  rw [e1, e2] at this
  exact this
theorem ok_llaw_wrong : ∀ ds S Q, ds.length = 2 → sp_llaw_wrong ds S Q → rd_llaw_wrong (endsD Q) (startD N_llaw_wrong ds) S := by
  rintro ds S Q - ⟨b, m, rfl, hm0, hm1, hb, h⟩
  have sz : (1000000 : Nat) ≤ sizeLine := by rw [sizeLine_eq]; omega
  have fin : ∀ S1 wr (f : Nat), Bx b S S1 → (∀ t, Bad m none (wr ++ t) f) → 1 ≤ f → f ≤ wr.length → wr.length ≤ 3000 → ∀ p, S1 p = none → ∃ S', Sle S' (su S1 p (.lst [.str wr, .int (f : Nat)])) ∧ Q (.rf p) S' :=
    fun S1 wr f h1 h2 h3 h4 h5 p hp => ⟨_, Sle.refl _, h S1 p wr f h1 hp h2 h3 h4 h5⟩
  clear h
  walk_at "dl"
  refine ⟨b, 9, rfl, by decide, hb, fun r S1 r0 r1 b1 => ?_⟩
  walk_at "dl"
  have e3 : ∀ (wr : List Nat) (n : Nat), n = wr.length → (∀ t, Bad m none (wr ++ t) n) → 1 ≤ n → n ≤ 100 → ∀ S2, Bx b S S2 → wr.length ≤ sizeLine ∧ 0 + 1 + 1 ≤ sizeLine ∧ ∀ p, S2 p = none → ∃ S', Sle S' (su S2 p (.lst [.str wr, .int (wr.length : Nat)])) ∧ Q (.rf p) S' :=
    fun wr n en hB h1 h2 S2 b2 => ⟨by omega, by omega, fin S2 wr wr.length b2 (by rw [← en]; exact hB) (by omega) (Nat.le_refl _) (by omega)⟩
  refine ifb (fun _ => ⟨by omega, fin S1 [10] 1 b1 (fun t => Bad.empty [[]] t ⟨by decide, by decide, by decide⟩ (by decide)) (by decide) (by decide) (by decide)⟩) fun n0 => ?_
  refine ifb (fun n1 => ⟨by omega, ?_⟩) fun n1 => ?_
  · have hr : r = 1 ∨ r = 2 ∨ r = 3 := by omega
    rcases hr with rfl | rfl | rfl
    · exact e3 [32, 97, 10] 3 rfl (fun t => Bad.empty [[], [97]] t ⟨by decide, by decide, by decide⟩ (by decide)) (by decide) (by decide) S1 b1
    · exact e3 [97, 32, 10] 3 rfl (fun t => Bad.empty [[97], []] t ⟨by decide, by decide, by decide⟩ (by decide)) (by decide) (by decide) S1 b1
    · exact e3 [97, 32, 32, 98, 10] 5 rfl (fun t => Bad.empty [[97], [], [98]] t ⟨by decide, by decide, by decide⟩ (by decide)) (by decide) (by decide) S1 b1
  refine ifb (fun n2 => ?_) fun n2 => ?_
  · have hl : (repS [120] 2001).length = 2001 := by rw [show repS [120] 2001 = List.replicate 2001 120 from rep1 2001 120, List.length_replicate]
    have hx : 10 ∉ repS [120] 2001 := by rw [show repS [120] 2001 = List.replicate 2001 120 from rep1 2001 120]; intro h; cases List.eq_of_mem_replicate h
    exact ⟨by decide, by decide, by decide, by omega, fin S1 _ 2001 b1 (fun t => Bad.long _ t hx hl) (by decide) (by omega) (by omega)⟩
  refine ifb (fun n3 => ?_) fun n3 => ?_
  · have hd := (rd_ok (m + 1) (by omega)).1.2.2.1
    have hk := cnt_ok (m + 1) (by omega)
    have ed : decs ((m : Int) + 1) = decs ((m + 1 : Nat) : Int) := rfl
    rw [ed]
    have eL : (97 :: 32 :: 123 :: (decs ((m + 1 : Nat) : Int) ++ [125, 10])) = jn ([[97]] ++ [cnt (m + 1)]) ++ [10] := by show _ = ([97] ++ ([32] ++ cnt (m + 1))) ++ [10]; unfold cnt; simp
    have eN : (decs ((m + 1 : Nat) : Int) ++ [125, 10]).length + 1 + 1 + 1 = (jn ([[97]] ++ [cnt (m + 1)])).length + 1 := by
      have := congrArg List.length eL
      simp only [List.length_append, List.length_cons, List.length_nil] at this ⊢
      omega
    have hs : (decs ((m + 1 : Nat) : Int) ++ [125, 10]).length ≤ 4 := by simp only [List.length_append, List.length_cons, List.length_nil]; omega
    refine ⟨log_small (n := m + 1) (by omega), by omega, by omega, by omega, by omega, ?_⟩
    rw [eL, eN]
    refine fin S1 _ _ b1 (fun t => ?_) (by omega) (by rw [List.length_append, List.length_singleton]; exact Nat.le_refl _) (by rw [List.length_append, List.length_singleton, ← eN]; omega)
    rw [List.append_assoc]
    exact Bad.count [[97]] (cnt (m + 1)) t (some (m + 1)) (lin_cnt (by omega)) (ne_cnt (by omega)) hk.2.2.2 (.inl ⟨m + 1, by omega, rfl, rfl⟩) fun k e => by cases e; omega
  refine ifb (fun n4 => ?_) fun n4 => ?_
  · refine ⟨by omega, b, 6, rfl, by decide, b1.1, fun z S2 z0 z1 b2 => ?_⟩
    have b3 := b1.trans b2
    have hz : z = 0 ∨ z = 1 ∨ z = 2 ∨ z = 3 ∨ z = 4 ∨ z = 5 := by omega
    rcases hz with rfl | rfl | rfl | rfl | rfl | rfl
    · exact e3 _ 7 rfl (fun t => bad_word (w := [123, 48, 49, 125]) (by decide)) (by decide) (by decide) S2 b3
    · exact e3 _ 7 rfl (fun t => bad_word (w := [123, 45, 49, 125]) (by decide)) (by decide) (by decide) S2 b3
    · exact e3 _ 5 rfl (fun t => bad_word (w := [123, 125]) (by decide)) (by decide) (by decide) S2 b3
    · exact e3 _ 5 rfl (fun t => bad_word (w := [123, 49]) (by decide)) (by decide) (by decide) S2 b3
    · exact e3 _ 7 rfl (fun t => bad_word (w := [123, 49, 125, 98]) (by decide)) (by decide) (by decide) S2 b3
    · exact e3 _ 11 rfl (fun t => bad_word (w := [123, 49, 50, 51, 52, 53, 54, 125]) (by decide)) (by decide) (by decide) S2 b3
  · refine ⟨b, 3, rfl, by decide, b1.1, fun z S2 z0 z1 b2 => ?_⟩
    have b3 := b1.trans b2
    obtain ⟨k, rfl⟩ := Int.eq_ofNat_of_zero_le z0
    have hk : k < 3 := by omega
    have er : repS [121] (k : Int) = List.replicate k 121 := rep1 k 121
    have hR : (repS [121] (k : Int)).length = k := by rw [er, List.length_replicate]
    show _ ∧ _ ∧ _ ∧ _ ∧ _ ∧ _ ∧ _ ∧ _ ∧ _ ∧ _ ∧ _ ∧ _
    generalize repS [121] (k : Int) = R at hR
    subst hR
    have hd := (rd_ok R.length (by omega)).1.2.2.1
    have hc := cnt_ok R.length (by omega)
    have h5 : ∀ u : List Nat, u.length ≤ 50 → u.length ≤ sizeLine := fun u hu => by omega
    have eL : ∀ t, (97 :: 32 :: 123 :: (decs (R.length : Int) ++ [125, 10] ++ R ++ [122])) ++ t = jn ([[97]] ++ [cnt R.length]) ++ 10 :: (R ++ 122 :: t) := fun t => by show _ = ([97] ++ ([32] ++ cnt R.length)) ++ 10 :: (R ++ 122 :: t); unfold cnt; simp
    have eN : ((jn ([[97]] ++ [cnt R.length])).length + 1 + (R.length + 1) : Nat) = ((decs (R.length : Int) ++ [125, 10] ++ R).length + 1 + 1 + 1) + 1 := by
      show ([97] ++ ([32] ++ cnt R.length)).length + 1 + (R.length + 1) = _
      unfold cnt
      simp only [List.length_append, List.length_cons, List.length_nil]
      omega
    refine ⟨by omega, by omega, by show (0 + 1) * ((R.length : Nat) : Int).toNat ≤ _; omega, by omega, log_small (by omega), by omega, by omega, ?_, ?_, ?_, by omega, ?_⟩
    · simp only [List.length_append, List.length_cons, List.length_nil]; omega
    · simp only [List.length_append, List.length_cons, List.length_nil]; omega
    · simp only [List.length_append, List.length_cons, List.length_nil]; omega
    · have := fin S2 (97 :: 32 :: 123 :: (decs (R.length : Int) ++ [125, 10] ++ R ++ [122])) _ b3 (fun t => by
        rw [eL]
        exact Bad.two [[97]] (cnt R.length) (R ++ 122 :: t) R.length (R.length + 1) (lin_cnt (by omega)) (ne_cnt (by omega)) hc.2.2.2 (.inl ⟨R.length, by omega, rfl, rfl⟩) (by omega) (Bad.lit [[97]] R 122 t (by decide))) (by omega) (by rw [eN]; simp only [List.length_append, List.length_cons, List.length_nil]; omega) (by simp only [List.length_append, List.length_cons, List.length_nil]; omega)
      rw [eN] at this
      exact this
end LW

set_option Elab.async false
set_option linter.all false
set_option maxRecDepth 100000
set_option maxHeartbeats 4000000
namespace LW
open PySem PySem.Spec L2 DL
local macro_rules | `(tactic| walk_at "dl") => `(tactic| simp -implicitDefEqProofs only [↓dSeq, ↓dIfS, ↓dTB, ↓dOp, ↓dVar, ↓dC, ↓dLt, ↓dLe, ↓dGt, ↓dGe, ↓rII, ↓rIIc, ↓dCB, ↓dCons, ↓dNil, ↓dLen, ↓dInt, ↓dRet, ↓dRetN, ↓dNext, ↓dIx, ↓dAt, ↓startD, List.map_cons, List.map_nil, List.cons_append, List.nil_append, List.append_nil, List.length_cons, List.length_nil, List.getElem?_cons_zero, List.getElem?_cons_succ, List.length_map, ↓dAsg, ↓dName, ↓dNew, ↓dLst, ↓dFor_k, ↓dRng1, ↓dRng2, ↓dCall_k, ↓dAdd, ↓dSub, ↓dMul, ↓dMod, ↓dFdiv, ↓dPow, ↓dEq, ↓dNe, ↓scd, ↓dIsN, ↓dNotN, ↓dIsB, ↓dNotB, ↓dUn, ↓dNeg, ↓dTru, ↓dTruS, ↓dAnd, ↓dOr, ↓dNot, ↓dNotV, ↓dAndV, ↓dOrV, ↓dIfE, ↓dTup, ↓dDrop, ↓dBM, ↓dBM0, ↓tyD, ↓dApp, ↓dSetL, ↓dAsL, ↓dOnL, ↓dOnN, ↓dIsi, ↓tyName, isT, ↓dBreak, ↓dCont, ↓dPar, ↓endsD, List.set_cons_zero, List.set_cons_succ, List.replicate_succ, List.replicate_zero, su_same, ↓dLc_k, ↓dWhile_k, ↓dWipe, ↓dYes, ↓dIt, ↓dItN, ↓dSlice, ↓dPart, ↓dNoP, ↓dCut, ↓dSliceE, ↓dIxL, ↓dChain, ↓dIn, ↓dNotIn, ↓dInS, ↓mS0, ↓mS1, ↓dSta, ↓dEnd, ↓dFind, ↓dIsasc, ↓dIsdig, ↓dIsalp, ↓dIsaln, ↓dIslow, ↓dIspri, ↓okT, ↓okU, ↓ok2, ↓dFind4, ↓dSplit, ↓dJoin, ↓dJoinT, ↓dMulS, ↓dCatL, ↓dCatE, ↓dCatR, ↓dCatEE, ↓dStar, ↓dIntS, ↓dStr, ↓dMax, ↓dMin, ↓dII, ↓dFld_m, ↓dSetF_m, ↓dMeth_m, ↓dMake_k, ↓dGtup, ↓dGcons, ↓dGnil, true_and, and_true, Nat.add_zero, reduceCtorEq, ↓reduceIte, Bool.not_true, Bool.not_false, Bool.false_eq_true, if_true, if_false])
local macro_rules | `(tactic| walk_at "dl*") => `(tactic| simp -implicitDefEqProofs only [*, ↓dSeq, ↓dIfS, ↓dTB, ↓dOp, ↓dVar, ↓dC, ↓dLt, ↓dLe, ↓dGt, ↓dGe, ↓rII, ↓rIIc, ↓dCB, ↓dCons, ↓dNil, ↓dLen, ↓dInt, ↓dRet, ↓dRetN, ↓dNext, ↓dIx, ↓dAt, ↓startD, List.map_cons, List.map_nil, List.cons_append, List.nil_append, List.append_nil, List.length_cons, List.length_nil, List.getElem?_cons_zero, List.getElem?_cons_succ, List.length_map, ↓dAsg, ↓dName, ↓dNew, ↓dLst, ↓dFor_k, ↓dRng1, ↓dRng2, ↓dCall_k, ↓dAdd, ↓dSub, ↓dMul, ↓dMod, ↓dFdiv, ↓dPow, ↓dEq, ↓dNe, ↓scd, ↓dIsN, ↓dNotN, ↓dIsB, ↓dNotB, ↓dUn, ↓dNeg, ↓dTru, ↓dTruS, ↓dAnd, ↓dOr, ↓dNot, ↓dNotV, ↓dAndV, ↓dOrV, ↓dIfE, ↓dTup, ↓dDrop, ↓dBM, ↓dBM0, ↓tyD, ↓dApp, ↓dSetL, ↓dAsL, ↓dOnL, ↓dOnN, ↓dIsi, ↓tyName, isT, ↓dBreak, ↓dCont, ↓dPar, ↓endsD, List.set_cons_zero, List.set_cons_succ, List.replicate_succ, List.replicate_zero, su_same, ↓dLc_k, ↓dWhile_k, ↓dWipe, ↓dYes, ↓dIt, ↓dItN, ↓dSlice, ↓dPart, ↓dNoP, ↓dCut, ↓dSliceE, ↓dIxL, ↓dChain, ↓dIn, ↓dNotIn, ↓dInS, ↓mS0, ↓mS1, ↓dSta, ↓dEnd, ↓dFind, ↓dIsasc, ↓dIsdig, ↓dIsalp, ↓dIsaln, ↓dIslow, ↓dIspri, ↓okT, ↓okU, ↓ok2, ↓dFind4, ↓dSplit, ↓dJoin, ↓dJoinT, ↓dMulS, ↓dCatL, ↓dCatE, ↓dCatR, ↓dCatEE, ↓dStar, ↓dIntS, ↓dStr, ↓dMax, ↓dMin, ↓dII, ↓dFld_m, ↓dSetF_m, ↓dMeth_m, ↓dMake_k, ↓dGtup, ↓dGcons, ↓dGnil, true_and, and_true, Nat.add_zero, reduceCtorEq, ↓reduceIte, Bool.not_true, Bool.not_false, Bool.false_eq_true, if_true, if_false])
/-! ### a portion is heard -/
theorem cutw {l : List Nat} {c : Nat} {t p u : List Nat} (h : l ++ c :: t = p ++ u) : (∃ s, l = p ++ s ∧ u = s ++ c :: t) ∨ (∃ p', p = l ++ c :: p' ∧ t = p' ++ u) := by
  rcases List.append_eq_append_iff.mp h with ⟨a, e1, e2⟩ | ⟨a, e1, e2⟩
  · cases a with
    | nil => exact .inl ⟨[], by rw [e1, List.append_nil, List.append_nil], by rw [List.nil_append]; exact e2.symm⟩
    | cons d a =>
      injection e2 with e2 e3
      subst e2
      exact .inr ⟨a, e1, e3⟩
  · exact .inl ⟨a, e1, e2⟩
def sgs : List Cmd → List Nat
  | [] => []
  | c :: cs => sg c ++ sgs cs
theorem adv_bad {m : Int} : ∀ {md : Md} {v : List Nat} {f : Nat}, Bad m md v f → ∀ {p u : List Nat}, v = p ++ u →
    (f ≤ p.length ∧ ∃ j, Run m j md p [] none) ∨ (p.length < f ∧ ∃ j md' r' f', Run m j md p [] (some (md', r')) ∧ Bad m md' (r' ++ u) f' ∧ (r' ++ u).length + f = v.length + f' ∧ (r' ++ u).length ≤ v.length) := by
  intro md v f h
  induction h with
  | empty ws t hl he =>
    intro p u e
    rcases cutw e with ⟨s, e1, e2⟩ | ⟨p', e1, e2⟩
    · have hp : p.length ≤ (jn ws).length := by rw [e1, List.length_append]; omega
      exact .inr ⟨by omega, 0, none, p, _, .wait (.wl p (fun hx => hl.nl (by rw [e1]; exact List.mem_append_left _ hx)) (Nat.le_trans hp hl.le)), by rw [← e]; exact .empty ws t hl he, by rw [← e], by rw [← e]; exact Nat.le_refl _⟩
    · rw [e1]
      exact .inl ⟨by rw [List.length_append, List.length_cons]; omega, 0, .fault (.fe ws p' hl he)⟩
  | count ws w t o hl he hh ho hk =>
    intro p u e
    rcases cutw e with ⟨s, e1, e2⟩ | ⟨p', e1, e2⟩
    · have hp : p.length ≤ (jn (ws ++ [w])).length := by rw [e1, List.length_append]; omega
      exact .inr ⟨by omega, 0, none, p, _, .wait (.wl p (fun hx => hl.nl (by rw [e1]; exact List.mem_append_left _ hx)) (Nat.le_trans hp hl.le)), by rw [← e]; exact .count ws w t o hl he hh ho hk, by rw [← e], by rw [← e]; exact Nat.le_refl _⟩
    · rw [e1]
      exact .inl ⟨by rw [List.length_append, List.length_cons]; omega, 0, .fault (.fn ws w p' o hl he hh ho hk)⟩
  | long l t hl hn =>
    intro p u e
    have et : ∀ k, k ≤ p.length → k ≤ 2001 → p.take k = l.take k := fun k h1 h2 => by
      rw [← List.take_append_of_le_length (l₂ := u) h1, ← e, List.take_append_of_le_length (by omega)]
    by_cases h : 2001 ≤ p.length
    · refine .inl ⟨h, 0, .fault (.fl p ?_ (by omega))⟩
      rw [et 2001 h (Nat.le_refl _)]
      exact fun hx => hl (List.mem_of_mem_take hx)
    · refine .inr ⟨by omega, 0, none, p, _, .wait (.wl p (fun hx => ?_) (by omega)), by rw [← e]; exact .long l t hl hn, by rw [← e], by rw [← e]; exact Nat.le_refl _⟩
      have := et p.length (Nat.le_refl _) (by omega)
      rw [List.take_length] at this
      rw [this] at hx
      exact hl (List.mem_of_mem_take hx)
  | lit ws x c t hc =>
    intro p u e
    rcases cutw e with ⟨s, e1, e2⟩ | ⟨p', e1, e2⟩
    · have hp : p.length ≤ x.length := by rw [e1, List.length_append]; omega
      exact .inr ⟨by omega, 0, _, p, _, .wait (.wr ws x.length p hp), by rw [← e]; exact .lit ws x c t hc, by rw [← e], by rw [← e]; exact Nat.le_refl _⟩
    · rw [e1]
      exact .inl ⟨by rw [List.length_append, List.length_cons]; omega, 0, .fault (.fr ws x c p' hc)⟩
  | two ws w r k f hl he hh ho hk hb ih =>
    intro p u e
    rcases cutw e with ⟨s, e1, e2⟩ | ⟨p', e1, e2⟩
    · have hp : p.length ≤ (jn (ws ++ [w])).length := by rw [e1, List.length_append]; omega
      exact .inr ⟨by omega, 0, none, p, _, .wait (.wl p (fun hx => hl.nl (by rw [e1]; exact List.mem_append_left _ hx)) (Nat.le_trans hp hl.le)), by rw [← e]; exact .two ws w r k f hl he hh ho hk hb, by rw [← e], by rw [← e]; exact Nat.le_refl _⟩
    · rw [e1]
      rcases ih e2 with ⟨h1, j, h2⟩ | ⟨h1, j, md', r', f', h2, h3, h4, h5⟩
      · exact .inl ⟨by rw [List.length_append, List.length_cons]; omega, j + 1, .next (.ll ws w p' k hl he hh ho hk) h2⟩
      · exact .inr ⟨by rw [List.length_append, List.length_cons]; omega, j + 1, md', r', f', .next (.ll ws w p' k hl he hh ho hk) h2, h3, by simp only [List.length_append, List.length_cons] at h4 ⊢; omega, by simp only [List.length_append, List.length_cons] at h5 ⊢; omega⟩
  | none =>
    intro p u e
    obtain ⟨rfl, rfl⟩ := List.nil_eq_append_iff.mp e
    exact .inr ⟨by decide, 0, none, [], 1, .wait (.wl [] (by simp) (by decide)), .none, rfl, Nat.le_refl _⟩
theorem Cg.lin {c : Cmd} (h : Cg c) : Lin c.1 := ⟨h.ne, fun w hw => ⟨(h.wd w hw).2.1, (h.wd w hw).2.2.1⟩, by have := jn_le h.w10; have := h.le; omega⟩
theorem Cg.lin2 {ws : Wds} {x : List Nat} (h : Cg (ws, some x)) : Lin (ws ++ [cnt x.length]) := by
  have hx := h.lit x rfl
  have hc := cnt_ok x.length (by omega)
  have hd := (rd_ok x.length (by omega)).2.2
  refine ⟨by simp, fun w hw => ?_, ?_⟩
  · rcases List.mem_append.mp hw with z | z
    · exact ⟨(h.wd w z).2.1, (h.wd w z).2.2.1⟩
    · rw [List.mem_singleton.mp z]; exact ⟨hc.1, hc.2.1⟩
  · have h6 : ws.length ≤ 6 := h.le
    refine Nat.le_trans (jn_le fun w hw => ?_) (show 11 * (ws ++ [cnt x.length]).length ≤ 2000 from by rw [List.length_append, List.length_singleton]; omega)
    rcases List.mem_append.mp hw with z | z
    · exact h.w10 w z
    · rw [List.mem_singleton.mp z]; omega
theorem Cg.ne2 {ws : Wds} {x : List Nat} (h : Cg (ws, some x)) : [] ∉ ws ++ [cnt x.length] := fun hw => by
  have hx := h.lit x rfl
  rcases List.mem_append.mp hw with z | z
  · exact (h.wd [] z).1 rfl
  · exact (cnt_ok x.length (by omega)).2.2.1 (List.mem_singleton.mp z).symm
inductive Par (m : Int) (W : List Nat) (F : Nat) : List Cmd → Md → List Nat → Prop
  | bad {md : Md} {v : List Nat} {f : Nat} : Bad m md v f → v.length + F = W.length + f → v.length ≤ W.length → Par m W F [] md v
  | line (c : Cmd) (cs : List Cmd) : Par m W F (c :: cs) none (sgs (c :: cs) ++ W)
  | lit (ws : Wds) (x : List Nat) (cs : List Cmd) : Par m W F ((ws, some x) :: cs) (some (ws, x.length)) (x ++ 10 :: (sgs cs ++ W))
def Post (m : Int) (W : List Nat) (F : Nat) (cs : List Cmd) (u : List Nat) : Option (Md × List Nat) → Prop
  | none => cs = [] ∧ u.length + F ≤ W.length
  | some (md, r) => (cs = [] → W.length < u.length + F) ∧ Par m W F cs md (r ++ u)
def Heard (m : Int) (W : List Nat) (F : Nat) (cs : List Cmd) (md : Md) (p u : List Nat) : Prop := ∃ j dn cs' R, cs = dn ++ cs' ∧ Run m j md p (dn.map cD) R ∧ u.length ≤ (sgs cs' ++ W).length ∧ (∀ c cs'', cs' = c :: cs'' → (sgs cs'' ++ W).length < u.length) ∧ Post m W F cs' u R
theorem adv_base {m : Int} {W : List Nat} {F : Nat} {md : Md} {v : List Nat} {f : Nat} (h : Bad m md v f) (h1 : v.length + F = W.length + f) (h2 : v.length ≤ W.length) {p u : List Nat} (e : v = p ++ u) : Heard m W F [] md p u := by
  have el : v.length = p.length + u.length := by rw [e, List.length_append]
  rcases adv_bad h e with ⟨h3, j, h4⟩ | ⟨h3, j, md', r', f', h4, h5, h6, h7⟩
  · exact ⟨j, [], [], none, rfl, h4, by show u.length ≤ W.length; omega, fun c cs'' e => (by cases e), rfl, by omega⟩
  · exact ⟨j, [], [], some (md', r'), rfl, h4, by show u.length ≤ W.length; omega, fun c cs'' e => (by cases e), fun _ => by omega, .bad h5 (by omega) (by omega)⟩
theorem adv_lit {m : Int} {W : List Nat} {F : Nat} {cs : List Cmd} (ih : ∀ p u, sgs cs ++ W = p ++ u → Heard m W F cs none p u) {ws : Wds} {x p u : List Nat} (e : x ++ 10 :: (sgs cs ++ W) = p ++ u) : Heard m W F ((ws, some x) :: cs) (some (ws, x.length)) p u := by
  rcases cutw e with ⟨s, e1, e2⟩ | ⟨p', e1, e2⟩
  · have hp : p.length ≤ x.length := by rw [e1, List.length_append]; omega
    have hu := congrArg List.length e2
    refine ⟨0, [], (ws, some x) :: cs, some (some (ws, x.length), p), rfl, .wait (.wr ws x.length p hp), ?_, fun c cs'' e3 => ?_, fun e3 => (by cases e3), by rw [← e]; exact .lit ws x cs⟩
    · have := congrArg List.length e
      show u.length ≤ ((jn (ws ++ [cnt x.length]) ++ [10] ++ x ++ [10] ++ sgs cs) ++ W).length
      simp only [List.length_append, List.length_cons, List.length_nil] at this ⊢
      omega
    · injection e3 with _ e3
      subst e3
      rw [hu]
      simp only [List.length_append, List.length_cons]
      omega
  · obtain ⟨j, dn, cs', R, h1, h2, h3, h4, h5⟩ := ih p' u e2
    rw [e1]
    exact ⟨j + 1, (ws, some x) :: dn, cs', R, by rw [h1]; rfl, .next (.nr ws x p') h2, h3, h4, h5⟩
theorem adv {m : Int} {W : List Nat} {F : Nat} (hm : 20 ≤ m) (hB : Bad m none W F) : ∀ cs, (∀ c ∈ cs, Cg c) → ∀ p u, sgs cs ++ W = p ++ u → Heard m W F cs none p u
  | [], _, p, u, e => adv_base hB rfl (Nat.le_refl _) e
  | (ws, none) :: cs, hc, p, u, e => by
    have hg := hc _ (List.mem_cons_self ..)
    have e' : jn ws ++ 10 :: (sgs cs ++ W) = p ++ u := by rw [← e]; show _ = ((jn ws ++ [10]) ++ sgs cs) ++ W; simp
    rcases cutw e' with ⟨s, e1, e2⟩ | ⟨p', e1, e2⟩
    · have hp : p.length ≤ (jn ws).length := by rw [e1, List.length_append]; omega
      refine ⟨0, [], (ws, none) :: cs, some (none, p), rfl, .wait (.wl p (fun hx => hg.lin.nl (by show 10 ∈ jn ws; rw [e1]; exact List.mem_append_left _ hx)) (Nat.le_trans hp hg.lin.le)), by rw [e, List.length_append]; omega, fun c cs'' e3 => ?_, fun e3 => (by cases e3), by rw [← e]; exact .line _ cs⟩
      injection e3 with _ e3
      subst e3
      rw [e2]
      simp only [List.length_append, List.length_cons]
      omega
    · obtain ⟨j, dn, cs', R, h1, h2, h3, h4, h5⟩ := adv hm hB cs (fun c h => hc c (List.mem_cons_of_mem _ h)) p' u e2
      obtain ⟨ws0, w, rfl⟩ : ∃ ws0 w, ws = ws0 ++ [w] := ⟨ws.dropLast, ws.getLast hg.ne, (List.dropLast_concat_getLast hg.ne).symm⟩
      rw [e1]
      exact ⟨j + 1, (ws0 ++ [w], none) :: dn, cs', R, by rw [h1]; rfl, .next (.nl ws0 w p' hg.lin (fun hx => (hg.wd [] hx).1 rfl) (hg.last rfl w (by simp))) h2, h3, h4, h5⟩
  | (ws, some x) :: cs, hc, p, u, e => by
    have hg := hc _ (List.mem_cons_self ..)
    have hx := hg.lit x rfl
    have e' : jn (ws ++ [cnt x.length]) ++ 10 :: (x ++ 10 :: (sgs cs ++ W)) = p ++ u := by rw [← e]; show _ = ((jn (ws ++ [cnt x.length]) ++ [10] ++ x ++ [10]) ++ sgs cs) ++ W; simp
    rcases cutw e' with ⟨s, e1, e2⟩ | ⟨p', e1, e2⟩
    · have hp : p.length ≤ (jn (ws ++ [cnt x.length])).length := by rw [e1, List.length_append]; omega
      refine ⟨0, [], (ws, some x) :: cs, some (none, p), rfl, .wait (.wl p (fun hx => hg.lin2.nl (by rw [e1]; exact List.mem_append_left _ hx)) (Nat.le_trans hp hg.lin2.le)), by rw [e, List.length_append]; omega, fun c cs'' e3 => ?_, fun e3 => (by cases e3), by rw [← e]; exact .line _ cs⟩
      injection e3 with _ e3
      subst e3
      rw [e2]
      simp only [List.length_append, List.length_cons]
      omega
    · obtain ⟨j, dn, cs', R, h1, h2, h3, h4, h5⟩ := adv_lit (ws := ws) (adv hm hB cs fun c h => hc c (List.mem_cons_of_mem _ h)) e2
      rw [e1]
      exact ⟨j + 1, dn, cs', R, h1, .next (.ll ws (cnt x.length) p' x.length hg.lin2 hg.ne2 (cnt_ok x.length (by omega)).2.2.2 (.inl ⟨x.length, by omega, rfl, rfl⟩) (by omega)) h2, h3, h4, h5⟩
theorem adv_par {m : Int} {W : List Nat} {F : Nat} (hm : 20 ≤ m) (hB : Bad m none W F) {cs : List Cmd} {md : Md} {v : List Nat} (hc : ∀ c ∈ cs, Cg c) (h : Par m W F cs md v) {p u : List Nat} (e : v = p ++ u) : Heard m W F cs md p u := by
  cases h with
  | bad h1 h2 h3 => exact adv_base h1 h2 h3 e
  | line c cs => exact adv hm hB _ hc p u e
  | lit ws x cs => exact adv_lit (adv hm hB cs fun c h => hc c (List.mem_cons_of_mem _ h)) e
end LW

set_option Elab.async false
set_option linter.all false
set_option maxRecDepth 100000
set_option maxHeartbeats 4000000
namespace LW
open PySem PySem.Spec L2 DL
local macro_rules | `(tactic| walk_at "dl") => `(tactic| simp -implicitDefEqProofs only [↓dSeq, ↓dIfS, ↓dTB, ↓dOp, ↓dVar, ↓dC, ↓dLt, ↓dLe, ↓dGt, ↓dGe, ↓rII, ↓rIIc, ↓dCB, ↓dCons, ↓dNil, ↓dLen, ↓dInt, ↓dRet, ↓dRetN, ↓dNext, ↓dIx, ↓dAt, ↓startD, List.map_cons, List.map_nil, List.cons_append, List.nil_append, List.append_nil, List.length_cons, List.length_nil, List.getElem?_cons_zero, List.getElem?_cons_succ, List.length_map, ↓dAsg, ↓dName, ↓dNew, ↓dLst, ↓dFor_k, ↓dRng1, ↓dRng2, ↓dCall_k, ↓dAdd, ↓dSub, ↓dMul, ↓dMod, ↓dFdiv, ↓dPow, ↓dEq, ↓dNe, ↓scd, ↓dIsN, ↓dNotN, ↓dIsB, ↓dNotB, ↓dUn, ↓dNeg, ↓dTru, ↓dTruS, ↓dAnd, ↓dOr, ↓dNot, ↓dNotV, ↓dAndV, ↓dOrV, ↓dIfE, ↓dTup, ↓dDrop, ↓dBM, ↓dBM0, ↓tyD, ↓dApp, ↓dSetL, ↓dAsL, ↓dOnL, ↓dOnN, ↓dIsi, ↓tyName, isT, ↓dBreak, ↓dCont, ↓dPar, ↓endsD, List.set_cons_zero, List.set_cons_succ, List.replicate_succ, List.replicate_zero, su_same, ↓dLc_k, ↓dWhile_k, ↓dWipe, ↓dYes, ↓dIt, ↓dItN, ↓dSlice, ↓dPart, ↓dNoP, ↓dCut, ↓dSliceE, ↓dIxL, ↓dChain, ↓dIn, ↓dNotIn, ↓dInS, ↓mS0, ↓mS1, ↓dSta, ↓dEnd, ↓dFind, ↓dIsasc, ↓dIsdig, ↓dIsalp, ↓dIsaln, ↓dIslow, ↓dIspri, ↓okT, ↓okU, ↓ok2, ↓dFind4, ↓dSplit, ↓dJoin, ↓dJoinT, ↓dMulS, ↓dCatL, ↓dCatE, ↓dCatR, ↓dCatEE, ↓dStar, ↓dIntS, ↓dStr, ↓dMax, ↓dMin, ↓dII, ↓dFld_m, ↓dSetF_m, ↓dMeth_m, ↓dMake_k, ↓dGtup, ↓dGcons, ↓dGnil, true_and, and_true, Nat.add_zero, reduceCtorEq, ↓reduceIte, Bool.not_true, Bool.not_false, Bool.false_eq_true, if_true, if_false])
local macro_rules | `(tactic| walk_at "dl*") => `(tactic| simp -implicitDefEqProofs only [*, ↓dSeq, ↓dIfS, ↓dTB, ↓dOp, ↓dVar, ↓dC, ↓dLt, ↓dLe, ↓dGt, ↓dGe, ↓rII, ↓rIIc, ↓dCB, ↓dCons, ↓dNil, ↓dLen, ↓dInt, ↓dRet, ↓dRetN, ↓dNext, ↓dIx, ↓dAt, ↓startD, List.map_cons, List.map_nil, List.cons_append, List.nil_append, List.append_nil, List.length_cons, List.length_nil, List.getElem?_cons_zero, List.getElem?_cons_succ, List.length_map, ↓dAsg, ↓dName, ↓dNew, ↓dLst, ↓dFor_k, ↓dRng1, ↓dRng2, ↓dCall_k, ↓dAdd, ↓dSub, ↓dMul, ↓dMod, ↓dFdiv, ↓dPow, ↓dEq, ↓dNe, ↓scd, ↓dIsN, ↓dNotN, ↓dIsB, ↓dNotB, ↓dUn, ↓dNeg, ↓dTru, ↓dTruS, ↓dAnd, ↓dOr, ↓dNot, ↓dNotV, ↓dAndV, ↓dOrV, ↓dIfE, ↓dTup, ↓dDrop, ↓dBM, ↓dBM0, ↓tyD, ↓dApp, ↓dSetL, ↓dAsL, ↓dOnL, ↓dOnN, ↓dIsi, ↓tyName, isT, ↓dBreak, ↓dCont, ↓dPar, ↓endsD, List.set_cons_zero, List.set_cons_succ, List.replicate_succ, List.replicate_zero, su_same, ↓dLc_k, ↓dWhile_k, ↓dWipe, ↓dYes, ↓dIt, ↓dItN, ↓dSlice, ↓dPart, ↓dNoP, ↓dCut, ↓dSliceE, ↓dIxL, ↓dChain, ↓dIn, ↓dNotIn, ↓dInS, ↓mS0, ↓mS1, ↓dSta, ↓dEnd, ↓dFind, ↓dIsasc, ↓dIsdig, ↓dIsalp, ↓dIsaln, ↓dIslow, ↓dIspri, ↓okT, ↓okU, ↓ok2, ↓dFind4, ↓dSplit, ↓dJoin, ↓dJoinT, ↓dMulS, ↓dCatL, ↓dCatE, ↓dCatR, ↓dCatEE, ↓dStar, ↓dIntS, ↓dStr, ↓dMax, ↓dMin, ↓dII, ↓dFld_m, ↓dSetF_m, ↓dMeth_m, ↓dMake_k, ↓dGtup, ↓dGcons, ↓dGnil, true_and, and_true, Nat.add_zero, reduceCtorEq, ↓reduceIte, Bool.not_true, Bool.not_false, Bool.false_eq_true, if_true, if_false])
local macro_rules | `(tactic| walk_at "dlf") => `(tactic| simp -implicitDefEqProofs only [*, lf_len', ↓lk_most, pf_most, ↓lk_text, pf_text, ↓lk_at, pf_at, ↓lk_words, pf_words, ↓lk_many, pf_many, ↓lk_faulty, pf_faulty, lm_fault, lm_hear_line, lm_hear_literal, lm_hear, lm_faulty_, su_same, strsOf_map, strsOf_snoc, at20, at21, ↓dSeq, ↓dIfS, ↓dTB, ↓dOp, ↓dVar, ↓dC, ↓dLt, ↓dLe, ↓dGt, ↓dGe, ↓rII, ↓rIIc, ↓dCB, ↓dCons, ↓dNil, ↓dLen, ↓dInt, ↓dRet, ↓dRetN, ↓dNext, ↓dIx, ↓dAt, ↓startD, List.map_cons, List.map_nil, List.cons_append, List.nil_append, List.append_nil, List.length_cons, List.length_nil, List.getElem?_cons_zero, List.getElem?_cons_succ, List.length_map, ↓dAsg, ↓dName, ↓dNew, ↓dLst, ↓dFor_k, ↓dRng1, ↓dRng2, ↓dCall_k, ↓dAdd, ↓dSub, ↓dMul, ↓dMod, ↓dFdiv, ↓dPow, ↓dEq, ↓dNe, ↓scd, ↓dIsN, ↓dNotN, ↓dIsB, ↓dNotB, ↓dUn, ↓dNeg, ↓dTru, ↓dTruS, ↓dAnd, ↓dOr, ↓dNot, ↓dNotV, ↓dAndV, ↓dOrV, ↓dIfE, ↓dTup, ↓dDrop, ↓dBM, ↓dBM0, ↓tyD, ↓dApp, ↓dSetL, ↓dAsL, ↓dOnL, ↓dOnN, ↓dIsi, ↓tyName, isT, ↓dBreak, ↓dCont, ↓dPar, ↓endsD, List.set_cons_zero, List.set_cons_succ, List.replicate_succ, List.replicate_zero, su_same, ↓dLc_k, ↓dWhile_k, ↓dWipe, ↓dYes, ↓dIt, ↓dItN, ↓dSlice, ↓dPart, ↓dNoP, ↓dCut, ↓dSliceE, ↓dIxL, ↓dChain, ↓dIn, ↓dNotIn, ↓dInS, ↓mS0, ↓mS1, ↓dSta, ↓dEnd, ↓dFind, ↓dIsasc, ↓dIsdig, ↓dIsalp, ↓dIsaln, ↓dIslow, ↓dIspri, ↓okT, ↓okU, ↓ok2, ↓dFind4, ↓dSplit, ↓dJoin, ↓dJoinT, ↓dMulS, ↓dCatL, ↓dCatE, ↓dCatR, ↓dCatEE, ↓dStar, ↓dIntS, ↓dStr, ↓dMax, ↓dMin, ↓dII, ↓dFld_m, ↓dSetF_m, ↓dMeth_m, ↓dMake_k, ↓dGtup, ↓dGcons, ↓dGnil, true_and, and_true, Nat.add_zero, reduceCtorEq, ↓reduceIte, Bool.not_true, Bool.not_false, Bool.false_eq_true, if_true, if_false])
def lawK3 (C : Nat → Addr) : SD :=
    (dSeq (dAsg (dMake (C 0) 2 (sp_ListenerU_initU (C 0)) (dCons (dVar 2) dNil)) (dName 7))
  (dSeq (dAsg (dC (.int 0)) (dName 8))
  (dSeq (dIfS (dTB (dOp dNotB (dMeth (C 0) "faulty" 1 (sp_Listener_faulty (C 0)) (dVar 7) dNil) (dC (.bl false)))) (dRet (dC (.bl false))) dNext)
  (dSeq (dFor (dIt (dVar 6)) (dName 9) (dSeq (dAsg (dMeth (C 0) "hear" 2 (sp_Listener_hear (C 0)) (dVar 7) (dCons (dSlice (dVar 11) (dPart (dVar 8)) (dPart (dVar 9))) dNil)) (dName 13))
  (dSeq (dAsg (dOnL (fun ds S Q => Q (.tup ds) S) (dLc (dRng1 (dCons (dCB dLen (dCons (dVar 3) dNil)) dNil)) (dName 15) (dTB (dChain dLt dLe (dVar 8) (dOp dIx (dVar 10) (dVar 15)) (dVar 9))) (dOp dIx (dVar 3) (dVar 15)) [15])) (dName 14))
  (dSeq (dAsg (dVar 9) (dName 8))
  (dIfS (dOr (dNot (dTru (dCall 2 (sp_same 4) [] (dCons (dVar 13) (dCons (dVar 14) dNil))))) (dNot (dTru (dCall 2 (sp_same 4) [] (dCons (dMeth (C 0) "faulty" 1 (sp_Listener_faulty (C 0)) (dVar 7) dNil) (dCons (dChain dLt dLe (dC (.int 0)) (dVar 5) (dVar 8)) dNil)))))) (dRet (dC (.bl false))) dNext)))))
  (dRet (dIfE (dTB (dOp dGt (dVar 5) (dC (.int 0)))) (dOp dEqT (dMeth (C 0) "hear" 2 (sp_Listener_hear (C 0)) (dVar 7) (dCons (dC (.str [120, 10])) dNil)) (dTup dNil)) (dC (.bl true))))))))
def lawK2 (C : Nat → Addr) : SD :=
    (dSeq (dAsg (dNew (dCatL (dOnN dSortI (dLc (dRng1 (dCons (dCall 2 sp_llaw_draw [] (dCons (dVar 1) (dCons (dC (.int 5)) dNil))) dNil)) (dName 15) dYes (dOp dMod (dCB dInt (dCons (dOp dAdd (dOp dMul (dCall 2 sp_llaw_draw [] (dCons (dVar 1) (dCons (dC (.int 900)) dNil))) (dC (.int 1000))) (dCall 2 sp_llaw_draw [] (dCons (dVar 1) (dCons (dC (.int 1000)) dNil)))) dNil)) (dOp dAdd (dCB dLen (dCons (dVar 11) dNil)) (dC (.int 1)))) [15])) (dLst (dCons (dCB dLen (dCons (dVar 11) dNil)) dNil)))) (dName 6))
  (dSeq (dIfS (dAnd (dTB (dOp dGt (dVar 5) (dC (.int 0)))) (dTB (dOp dEq (dCall 2 sp_llaw_draw [] (dCons (dVar 1) (dCons (dC (.int 2)) dNil))) (dC (.int 0))))) (dAsg (dNew (dOnN dSortI (dCatE (dVar 6) (dLst (dCons (dOp dSub (dVar 5) (dC (.int 1))) (dCons (dVar 5) dNil)))))) (dName 6)) dNext)
  (lawK3 C)))
def lawK1 (C : Nat → Addr) : SD :=
    (dSeq (dAsg (dUn dNeg (dC (.int 1))) (dName 5))
  (dSeq (dIfS (dTB (dOp dEq (dCall 2 sp_llaw_draw [] (dCons (dVar 1) (dCons (dC (.int 3)) dNil))) (dC (.int 0)))) (dSeq (dAsg (dCall 2 sp_llaw_wrong [] (dCons (dVar 1) (dCons (dVar 2) dNil))) (dName 12))
  (dSeq (dAsg (dOp dAdd (dCB dLen (dCons (dVar 11) dNil)) (dOp dIx (dVar 12) (dC (.int 1)))) (dName 5))
  (dAsg (dOp dAdd (dOp dAdd (dVar 11) (dOp dIx (dVar 12) (dC (.int 0)))) (dIxL (dLst (dCons (dC (.str [])) (dCons (dC (.str [10])) (dCons (dC (.str [98, 121, 101, 10])) (dCons (dC (.str [100, 111, 32, 49, 10])) dNil))))) (dCall 2 sp_llaw_draw [] (dCons (dVar 1) (dCons (dC (.int 4)) dNil))))) (dName 11)))) dNext)
  (lawK2 C)))
theorem law_cut (C : Nat → Addr) : rd_law C =
  (dSeq (dAsg (dNew (dLst (dCons (dCall 3 sp_llaw_digits [] (dCons (dVar 0) (dCons (dC (.int 0)) (dCons (dC (.int 63)) dNil)))) (dCons (dC (.int 0)) dNil)))) (dName 1))
  (dSeq (dAsg (dOp dAdd (dC (.int 20)) (dCall 2 sp_llaw_draw [] (dCons (dVar 1) (dCons (dC (.int 30)) dNil)))) (dName 2))
  (dSeq (dAsg (dNew (dLc (dRng1 (dCons (dCall 2 sp_llaw_draw [] (dCons (dVar 1) (dCons (dC (.int 7)) dNil))) dNil)) (dName 15) dYes (dCall 1 sp_llaw_command [] (dCons (dVar 1) dNil)) [15])) (dName 3))
  (dSeq (dAsg (dTup (dCons (dNew (dLst dNil)) (dCons (dC (.str [])) dNil))) (dGtup (dGcons (dName 10) (dGcons (dName 11) dGnil)) 2))
  (dSeq (dFor (dIt (dVar 3)) (dName 4) (dSeq (dIfS (dNot (dTru (dCall 2 (sp_same 4) [] (dCons (dCall 2 sp_say [] (dCons (dOp dIx (dVar 4) (dC (.int 0))) (dCons (dOp dIx (dVar 4) (dC (.int 1))) dNil))) (dCons (dCall 1 sp_llaw_signs [] (dCons (dVar 4) dNil)) dNil))))) (dRet (dC (.bl false))) dNext)
  (dSeq (dAsg (dOp dAdd (dVar 11) (dCall 1 sp_llaw_signs [] (dCons (dVar 4) dNil))) (dName 11))
  (dDrop (dBM "list" dApp (dVar 10) (dCons (dCB dLen (dCons (dVar 11) dNil)) dNil))))))
  (lawK1 C)))))) := rfl
/-! ### ends -/
def en : Nat → List Cmd → List Int
  | _, [] => []
  | a, c :: cs => ((a + (sg c).length : Nat) : Int) :: en (a + (sg c).length) cs
theorem sgs_app : ∀ a b : List Cmd, sgs (a ++ b) = sgs a ++ sgs b
  | [], b => rfl
  | c :: a, b => by
    show sg c ++ sgs (a ++ b) = (sg c ++ sgs a) ++ sgs b
    rw [sgs_app a b, List.append_assoc]
theorem en_snoc : ∀ (a : Nat) (cs : List Cmd) (c : Cmd), en a (cs ++ [c]) = en a cs ++ [((a + (sgs (cs ++ [c])).length : Nat) : Int)]
  | a, [], c => by show [_] = [_]; simp [sgs]
  | a, d :: cs, c => by
    show _ :: en (a + (sg d).length) (cs ++ [c]) = _ :: (en (a + (sg d).length) cs ++ [_])
    rw [en_snoc (a + (sg d).length) cs c]
    show _ :: (en (a + (sg d).length) cs ++ [((a + (sg d).length + (sgs (cs ++ [c])).length : Nat) : Int)]) = _ :: (en (a + (sg d).length) cs ++ [((a + (sg d ++ sgs (cs ++ [c])).length : Nat) : Int)])
    rw [List.length_append, Nat.add_assoc]
theorem en_len : ∀ (a : Nat) (cs : List Cmd), (en a cs).length = cs.length
  | _, [] => rfl
  | a, c :: cs => by show (en _ cs).length + 1 = cs.length + 1; rw [en_len]
theorem en_get : ∀ (a : Nat) (cs : List Cmd) (k : Nat), k < cs.length → (en a cs)[k]? = some ((a + (sgs (cs.take (k + 1))).length : Nat) : Int)
  | a, c :: cs, 0, _ => by
    show some _ = some _
    rw [show (c :: cs).take (0 + 1) = [c] from rfl]
    simp [sgs]
  | a, c :: cs, k + 1, h => by
    have := en_get (a + (sg c).length) cs k (by simpa using h)
    show (en (a + (sg c).length) cs)[k]? = _
    rw [this]
    show some _ = some ((a + (sg c ++ sgs (cs.take (k + 1))).length : Nat) : Int)
    rw [List.length_append, Nat.add_assoc]
  | a, [], k, h => by simp at h
theorem sgs_mono {cs : List Cmd} {i j : Nat} (h : i ≤ j) : (sgs (cs.take i)).length ≤ (sgs (cs.take j)).length := by
  have e : cs.take j = (cs.take j).take i ++ (cs.take j).drop i := (List.take_append_drop i _).symm
  rw [e, sgs_app, List.take_take, Nat.min_eq_left h, List.length_append]
  omega
theorem sg_le {c : Cmd} (h : Cg c) : (sg c).length ≤ 200 := by
  obtain ⟨ws, l⟩ := c
  have h6 : ws.length ≤ 6 := h.le
  have hj := jn_le h.w10
  simp only at hj
  cases l with
  | none =>
    show (jn ws ++ [10]).length ≤ 200
    rw [List.length_append, List.length_singleton]; omega
  | some x =>
    have hx := h.lit x rfl
    have hd := (rd_ok x.length (by omega)).2.2
    show (jn (ws ++ [cnt x.length]) ++ [10] ++ x ++ [10]).length ≤ 200
    rw [jn_snoc (show ws ≠ [] from h.ne)]
    simp only [List.length_append, List.length_singleton]
    omega
theorem sgs_le : ∀ {cs : List Cmd}, (∀ c ∈ cs, Cg c) → (sgs cs).length ≤ 200 * cs.length
  | [], _ => Nat.zero_le _
  | c :: cs, h => by
    have h1 := sg_le (h c (List.mem_cons_self ..))
    have h2 := sgs_le (cs := cs) fun d hd => h d (List.mem_cons_of_mem _ hd)
    show (sg c ++ sgs cs).length ≤ _
    rw [List.length_append, List.length_cons]
    omega
/-! plain data are the same as themselves -/
mutual
theorem deq_refl : ∀ a : D, pln a = true → deq a a = true
  | .non, _ => rfl
  | .bl b, _ => by cases b <;> rfl
  | .int i, _ => by rw [deq_ii]; exact decide_eq_true rfl
  | .str s, _ => by rw [deq_ss]; exact decide_eq_true rfl
  | .tup xs, h => deqs_refl xs h
  | .frz xs, h => by cases h
  | .rf p, h => by cases h
  | .ty t, h => by cases h
theorem deqs_refl : ∀ xs : List D, plns xs = true → deqs xs xs = true
  | [], _ => rfl
  | x :: xs, h => by
    have h' : (pln x && plns xs) = true := h
    rw [Bool.and_eq_true] at h'
    show (deq x x && deqs xs xs) = true
    rw [deq_refl x h'.1, deqs_refl xs h'.2]
    rfl
end
theorem plns_of : ∀ {xs : List D}, (∀ x ∈ xs, pln x = true) → plns xs = true
  | [], _ => rfl
  | x :: xs, h => by show (pln x && plns xs) = true; rw [h x (List.mem_cons_self ..), plns_of fun y hy => h y (List.mem_cons_of_mem _ hy)]; rfl
theorem szds_of : ∀ {xs : List D}, (∀ x ∈ xs, szd x = true) → szds xs = true
  | [], _ => rfl
  | x :: xs, h => by show (szd x && szds xs) = true; rw [h x (List.mem_cons_self ..), szds_of fun y hy => h y (List.mem_cons_of_mem _ hy)]; rfl
theorem deps_of {n : Nat} : ∀ {xs : List D}, (∀ x ∈ xs, dep x ≤ n) → deps xs ≤ n
  | [], _ => Nat.zero_le _
  | x :: xs, h => Nat.max_le.mpr ⟨h x (List.mem_cons_self ..), deps_of fun y hy => h y (List.mem_cons_of_mem _ hy)⟩
theorem str_pl (ws : Wds) : pln (sD ws) = true := plns_of fun x hx => by obtain ⟨s, _, rfl⟩ := List.mem_map.mp hx; rfl
theorem str_dp (ws : Wds) : dep (sD ws) ≤ 1 := Nat.succ_le_succ (deps_of (n := 0) fun x hx => by obtain ⟨s, _, rfl⟩ := List.mem_map.mp hx; exact Nat.le_refl 0)
theorem str_sz {ws : Wds} (h : ws.length ≤ 6) : szd (sD ws) = true := by
  show (decide ((ws.map D.str).length < 2 ^ 62) && szds (ws.map D.str)) = true
  rw [szds_of fun x hx => (by obtain ⟨s, _, rfl⟩ := List.mem_map.mp hx; rfl), decide_eq_true (by rw [List.length_map]; omega)]
  rfl
theorem cD_pl (c : Cmd) : pln (cD c) = true := by
  obtain ⟨ws, l⟩ := c
  show (pln (sD ws) && (pln (lD l) && true)) = true
  rw [str_pl]
  cases l <;> rfl
theorem cD_dp (c : Cmd) : dep (cD c) ≤ 2 := by
  obtain ⟨ws, l⟩ := c
  show max (dep (sD ws)) (max (dep (lD l)) 0) + 1 ≤ 2
  have := str_dp ws
  have : dep (lD l) = 0 := by cases l <;> rfl
  omega
theorem cD_sz {c : Cmd} (h : Cg c) : szd (cD c) = true := by
  obtain ⟨ws, l⟩ := c
  show (decide (2 < 2 ^ 62) && (szd (sD ws) && (szd (lD l) && true))) = true
  rw [str_sz h.le]
  cases l <;> (show (decide (2 < 2 ^ 62) && (true && (true && true))) = true; decide)
theorem same_cmds {S : Sh} {Q : QD} {l : List Cmd} (h : ∀ c ∈ l, Cg c) (hl : l.length ≤ 6) (q : Q (.bl true) S) : sp_same 4 [.tup (l.map cD), .tup (l.map cD)] S Q := by
  have hp : pln (.tup (l.map cD)) = true := plns_of fun x hx => by obtain ⟨c, _, rfl⟩ := List.mem_map.mp hx; exact cD_pl c
  refine ⟨_, _, rfl, hp, hp, ?_, ?_, by rw [deq_refl _ hp]; exact q⟩
  · show (decide ((l.map cD).length < 2 ^ 62) && szds (l.map cD)) = true
    rw [szds_of fun x hx => (by obtain ⟨c, hc, rfl⟩ := List.mem_map.mp hx; exact cD_sz (h c hc)), decide_eq_true (by rw [List.length_map]; omega)]
    rfl
  · show deps (l.map cD) + 1 < 4
    have := deps_of (n := 2) (xs := l.map cD) fun x hx => by obtain ⟨c, _, rfl⟩ := List.mem_map.mp hx; exact cD_dp c
    omega
theorem same_str {S : Sh} {Q : QD} {t : List Nat} (q : Q (.bl true) S) : sp_same 4 [.str t, .str t] S Q := ⟨_, _, rfl, rfl, rfl, rfl, (by show 0 < 4; decide), by rw [deq_refl (.str t) rfl]; exact q⟩
theorem same_bl {S : Sh} {Q : QD} {a b : Bool} (e : a = b) (q : Q (.bl true) S) : sp_same 4 [.bl a, .bl b] S Q := by
  subst e
  exact ⟨_, _, rfl, rfl, rfl, rfl, (by show 0 < 4; decide), by rw [deq_refl (.bl a) rfl]; exact q⟩
/-! what is due -/
theorem range_mid {n a d : Nat} (h : a + d ≤ n) {p : Nat → Bool} (hp : ∀ k, k < n → (p k = true ↔ a ≤ k ∧ k < a + d)) : (List.range n).filter p = List.range' a d := by
  have e : List.range n = (List.range' 0 a ++ List.range' a d) ++ List.range' (a + d) (n - (a + d)) := by
    rw [List.range_eq_range']
    have e1 := List.range'_append_1 (s := 0) (m := a) (n := d)
    rw [Nat.zero_add] at e1
    rw [e1]
    have e2 := List.range'_append_1 (s := 0) (m := a + d) (n := n - (a + d))
    rw [Nat.zero_add] at e2
    rw [e2]
    congr 1
    omega
  rw [e, List.filter_append, List.filter_append]
  have f1 : (List.range' 0 a).filter p = [] := by
    rw [List.filter_eq_nil_iff]
    intro k hk hx
    have := List.mem_range'_1.mp hk
    have := (hp k (by omega)).mp hx
    omega
  have f2 : (List.range' (a + d) (n - (a + d))).filter p = [] := by
    rw [List.filter_eq_nil_iff]
    intro k hk hx
    have := List.mem_range'_1.mp hk
    have := (hp k (by omega)).mp hx
    omega
  have f3 : (List.range' a d).filter p = List.range' a d := by
    rw [List.filter_eq_self]
    intro k hk
    have := List.mem_range'_1.mp hk
    exact (hp k (by omega)).mpr (by omega)
  rw [f1, f2, f3, List.nil_append, List.append_nil]
theorem map_mid {α β : Type} (f : α → β) (g : Nat → β) {x y z : List α} (hg : ∀ k a, (x ++ (y ++ z))[k]? = some a → g k = f a) : (List.range' x.length y.length).map g = y.map f := by
  refine List.ext_getElem (by rw [List.length_map, List.length_map, List.length_range']) fun i h1 h2 => ?_
  rw [List.length_map] at h2
  rw [List.getElem_map, List.getElem_map, List.getElem_range']
  refine hg _ _ ?_
  rw [Nat.one_mul, List.getElem?_append_right (by omega), Nat.add_sub_cancel_left, List.getElem?_append_left h2, List.getElem?_eq_getElem h2]
end LW

set_option Elab.async false
set_option linter.all false
set_option maxRecDepth 100000
set_option maxHeartbeats 4000000
namespace LW
open PySem PySem.Spec L2 DL
local macro_rules | `(tactic| walk_at "dl") => `(tactic| simp -implicitDefEqProofs only [↓dSeq, ↓dIfS, ↓dTB, ↓dOp, ↓dVar, ↓dC, ↓dLt, ↓dLe, ↓dGt, ↓dGe, ↓rII, ↓rIIc, ↓dCB, ↓dCons, ↓dNil, ↓dLen, ↓dInt, ↓dRet, ↓dRetN, ↓dNext, ↓dIx, ↓dAt, ↓startD, List.map_cons, List.map_nil, List.cons_append, List.nil_append, List.append_nil, List.length_cons, List.length_nil, List.getElem?_cons_zero, List.getElem?_cons_succ, List.length_map, ↓dAsg, ↓dName, ↓dNew, ↓dLst, ↓dFor_k, ↓dRng1, ↓dRng2, ↓dCall_k, ↓dAdd, ↓dSub, ↓dMul, ↓dMod, ↓dFdiv, ↓dPow, ↓dEq, ↓dNe, ↓scd, ↓dIsN, ↓dNotN, ↓dIsB, ↓dNotB, ↓dUn, ↓dNeg, ↓dTru, ↓dTruS, ↓dAnd, ↓dOr, ↓dNot, ↓dNotV, ↓dAndV, ↓dOrV, ↓dIfE, ↓dTup, ↓dDrop, ↓dBM, ↓dBM0, ↓tyD, ↓dApp, ↓dSetL, ↓dAsL, ↓dOnL, ↓dOnN, ↓dIsi, ↓tyName, isT, ↓dBreak, ↓dCont, ↓dPar, ↓endsD, List.set_cons_zero, List.set_cons_succ, List.replicate_succ, List.replicate_zero, su_same, ↓dLc_k, ↓dWhile_k, ↓dWipe, ↓dYes, ↓dIt, ↓dItN, ↓dSlice, ↓dPart, ↓dNoP, ↓dCut, ↓dSliceE, ↓dIxL, ↓dChain, ↓dIn, ↓dNotIn, ↓dInS, ↓mS0, ↓mS1, ↓dSta, ↓dEnd, ↓dFind, ↓dIsasc, ↓dIsdig, ↓dIsalp, ↓dIsaln, ↓dIslow, ↓dIspri, ↓okT, ↓okU, ↓ok2, ↓dFind4, ↓dSplit, ↓dJoin, ↓dJoinT, ↓dMulS, ↓dCatL, ↓dCatE, ↓dCatR, ↓dCatEE, ↓dStar, ↓dIntS, ↓dStr, ↓dMax, ↓dMin, ↓dII, ↓dFld_m, ↓dSetF_m, ↓dMeth_m, ↓dMake_k, ↓dGtup, ↓dGcons, ↓dGnil, true_and, and_true, Nat.add_zero, reduceCtorEq, ↓reduceIte, Bool.not_true, Bool.not_false, Bool.false_eq_true, if_true, if_false])
local macro_rules | `(tactic| walk_at "dl*") => `(tactic| simp -implicitDefEqProofs only [*, ↓dSeq, ↓dIfS, ↓dTB, ↓dOp, ↓dVar, ↓dC, ↓dLt, ↓dLe, ↓dGt, ↓dGe, ↓rII, ↓rIIc, ↓dCB, ↓dCons, ↓dNil, ↓dLen, ↓dInt, ↓dRet, ↓dRetN, ↓dNext, ↓dIx, ↓dAt, ↓startD, List.map_cons, List.map_nil, List.cons_append, List.nil_append, List.append_nil, List.length_cons, List.length_nil, List.getElem?_cons_zero, List.getElem?_cons_succ, List.length_map, ↓dAsg, ↓dName, ↓dNew, ↓dLst, ↓dFor_k, ↓dRng1, ↓dRng2, ↓dCall_k, ↓dAdd, ↓dSub, ↓dMul, ↓dMod, ↓dFdiv, ↓dPow, ↓dEq, ↓dNe, ↓scd, ↓dIsN, ↓dNotN, ↓dIsB, ↓dNotB, ↓dUn, ↓dNeg, ↓dTru, ↓dTruS, ↓dAnd, ↓dOr, ↓dNot, ↓dNotV, ↓dAndV, ↓dOrV, ↓dIfE, ↓dTup, ↓dDrop, ↓dBM, ↓dBM0, ↓tyD, ↓dApp, ↓dSetL, ↓dAsL, ↓dOnL, ↓dOnN, ↓dIsi, ↓tyName, isT, ↓dBreak, ↓dCont, ↓dPar, ↓endsD, List.set_cons_zero, List.set_cons_succ, List.replicate_succ, List.replicate_zero, su_same, ↓dLc_k, ↓dWhile_k, ↓dWipe, ↓dYes, ↓dIt, ↓dItN, ↓dSlice, ↓dPart, ↓dNoP, ↓dCut, ↓dSliceE, ↓dIxL, ↓dChain, ↓dIn, ↓dNotIn, ↓dInS, ↓mS0, ↓mS1, ↓dSta, ↓dEnd, ↓dFind, ↓dIsasc, ↓dIsdig, ↓dIsalp, ↓dIsaln, ↓dIslow, ↓dIspri, ↓okT, ↓okU, ↓ok2, ↓dFind4, ↓dSplit, ↓dJoin, ↓dJoinT, ↓dMulS, ↓dCatL, ↓dCatE, ↓dCatR, ↓dCatEE, ↓dStar, ↓dIntS, ↓dStr, ↓dMax, ↓dMin, ↓dII, ↓dFld_m, ↓dSetF_m, ↓dMeth_m, ↓dMake_k, ↓dGtup, ↓dGcons, ↓dGnil, true_and, and_true, Nat.add_zero, reduceCtorEq, ↓reduceIte, Bool.not_true, Bool.not_false, Bool.false_eq_true, if_true, if_false])
theorem portion {m : Int} {W : List Nat} {F : Nat} (hm : 20 ≤ m) (hB : Bad m none W F) {cs : List Cmd} (hc : ∀ c ∈ cs, Cg c) {u x u' : List Nat} {R : Option (Md × List Nat)} (hP : Post m W F cs u R) (e : u = x ++ u') :
    ∃ dn cs' R', cs = dn ++ cs' ∧ RunO m x (dn.map cD) R' R ∧ u'.length ≤ (sgs cs' ++ W).length ∧ (∀ c cs'', cs' = c :: cs'' → (sgs cs'' ++ W).length < u'.length) ∧ Post m W F cs' u' R' := by
  cases R with
  | none =>
    obtain ⟨rfl, h2⟩ := hP
    have : u.length = x.length + u'.length := by rw [e, List.length_append]
    exact ⟨[], [], none, rfl, ⟨rfl, rfl⟩, by show u'.length ≤ W.length; omega, fun c cs'' e => (by cases e), rfl, by omega⟩
  | some R =>
    obtain ⟨md, r⟩ := R
    obtain ⟨h1, h2⟩ := hP
    obtain ⟨j, dn, cs', R', g1, g2, g3, g4, g5⟩ := adv_par hm hB hc h2 (p := r ++ x) (u := u') (by rw [e, List.append_assoc])
    exact ⟨dn, cs', R', g1, ⟨j, g2⟩, g3, g4, g5⟩
def dueP (cs : List Cmd) (h c : Nat) : D → Bool
  | .int k => decide (h < (sgs (cs.take (k.toNat + 1))).length) && decide ((sgs (cs.take (k.toNat + 1))).length ≤ c)
  | _ => false
def dueF (cs : List Cmd) : D → D
  | .int k => (match cs[k.toNat]? with | some c => cD c | none => .non)
  | _ => .non
theorem due_eq {cs dn dn' cs'' : List Cmd} {h c : Nat} (e : cs = dn ++ (dn' ++ cs'')) (a1 : (sgs dn).length ≤ h) (a2 : ∀ c0 r, dn' ++ cs'' = c0 :: r → h < (sgs (dn ++ [c0])).length) (a3 : (sgs (dn ++ dn')).length ≤ c)
    (a4 : ∀ c1 r, cs'' = c1 :: r → c < (sgs (dn ++ dn' ++ [c1])).length) : ((rng 0 cs.length).filter (dueP cs h c)).map (dueF cs) = dn'.map cD := by
  have t1 : cs.take dn.length = dn := by rw [e, List.take_left]
  have t2 : cs.take (dn ++ dn').length = dn ++ dn' := by rw [e, ← List.append_assoc, List.take_left]
  have ln : cs.length = dn.length + (dn'.length + cs''.length) := by rw [e, List.length_append, List.length_append]
  unfold rng
  rw [List.filter_map, range_mid (a := dn.length) (d := dn'.length) (by omega) (fun k hk => ?_), List.map_map]
  · refine map_mid cD _ (z := cs'') fun k a hk => ?_
    show (match cs[((0 : Int) + (k : Nat)).toNat]? with | some c => cD c | none => .non) = cD a
    rw [Int.zero_add, Int.toNat_natCast, e, hk]
  · show (decide (h < (sgs (cs.take (((0 : Int) + (k : Nat)).toNat + 1))).length) && decide ((sgs (cs.take (((0 : Int) + (k : Nat)).toNat + 1))).length ≤ c)) = true ↔ _
    rw [Int.zero_add, Int.toNat_natCast, Bool.and_eq_true, decide_eq_true_eq, decide_eq_true_eq]
    constructor
    · rintro ⟨b1, b2⟩
      refine ⟨?_, ?_⟩
      · refine Nat.le_of_not_lt fun hx => ?_
        have := sgs_mono (cs := cs) (i := k + 1) (j := dn.length) hx
        rw [t1] at this
        omega
      · refine Nat.lt_of_not_le fun hx => ?_
        cases hq : cs'' with
        | nil => rw [hq, List.length_nil] at ln; omega
        | cons c1 r =>
          have := sgs_mono (cs := cs) (i := (dn ++ dn').length + 1) (j := k + 1) (by rw [List.length_append]; omega)
          have t3 : cs.take ((dn ++ dn').length + 1) = dn ++ dn' ++ [c1] := by
            rw [e, hq, ← List.append_assoc, show dn ++ dn' ++ c1 :: r = (dn ++ dn' ++ [c1]) ++ r by simp, List.take_left' (by simp; omega)]
          rw [t3] at this
          have := a4 c1 r hq
          omega
    · rintro ⟨b1, b2⟩
      refine ⟨?_, ?_⟩
      · cases hq : dn' ++ cs'' with
        | nil =>
          have := congrArg List.length hq
          rw [List.length_append, List.length_nil] at this
          omega
        | cons c0 r =>
          have := sgs_mono (cs := cs) (i := dn.length + 1) (j := k + 1) (by omega)
          have t3 : cs.take (dn.length + 1) = dn ++ [c0] := by
            rw [e, hq, show dn ++ c0 :: r = (dn ++ [c0]) ++ r by simp, List.take_left' (by simp)]
          rw [t3] at this
          have := a2 c0 r hq
          omega
      · have := sgs_mono (cs := cs) (i := k + 1) (j := (dn ++ dn').length) (by rw [List.length_append]; omega)
        rw [t2] at this
        omega
theorem lis_at {C : Addr} {m : Int} {p : Addr} {b : Nat} {S : Sh} {R : Option (Md × List Nat)} (h : Lis C m p b S R) : ∃ t w n, S p = some (.ins C (LF m t 0 w n R.isNone)) := by
  cases R with
  | none => obtain ⟨t, w, n, h1, _⟩ := h; exact ⟨t, w, n, h1⟩
  | some R => obtain ⟨md, r⟩ := R; obtain ⟨n, h1, _⟩ := h; exact ⟨r, _, n, h1⟩
theorem sg_pos {c : Cmd} : 1 ≤ (sg c).length := by
  obtain ⟨ws, l⟩ := c
  cases l with
  | none => show 1 ≤ (jn ws ++ [10]).length; rw [List.length_append, List.length_singleton]; omega
  | some x => show 1 ≤ (jn (ws ++ [cnt x.length]) ++ [10] ++ x ++ [10]).length; simp only [List.length_append, List.length_singleton]; omega
theorem ends_at {cs : List Cmd} {k : Nat} (h : k < cs.length) : atI ((en 0 cs).map D.int) ((0 : Int) + (k : Nat)) = some (.int ((sgs (cs.take (k + 1))).length : Nat)) := by
  rw [Int.zero_add]
  refine atI_nat ?_
  rw [List.getElem?_map, en_get 0 cs k h, Nat.zero_add]
  rfl
theorem cmds_at {cs : List Cmd} {k : Nat} (h : k < cs.length) : atI (cs.map cD) ((0 : Int) + (k : Nat)) = some (dueF cs (.int ((0 : Int) + (k : Nat)))) := by
  show _ = some (match cs[((0 : Int) + (k : Nat)).toNat]? with | some c => cD c | none => .non)
  rw [Int.zero_add, Int.toNat_natCast, List.getElem?_eq_getElem h]
  exact atI_nat (by rw [List.getElem?_map, List.getElem?_eq_getElem h]; rfl)
end LW

set_option Elab.async false
set_option linter.all false
set_option maxRecDepth 100000
set_option maxHeartbeats 4000000
namespace LW
open PySem PySem.Spec L2 DL
local macro_rules | `(tactic| walk_at "dl") => `(tactic| simp -implicitDefEqProofs only [↓dSeq, ↓dIfS, ↓dTB, ↓dOp, ↓dVar, ↓dC, ↓dLt, ↓dLe, ↓dGt, ↓dGe, ↓rII, ↓rIIc, ↓dCB, ↓dCons, ↓dNil, ↓dLen, ↓dInt, ↓dRet, ↓dRetN, ↓dNext, ↓dIx, ↓dAt, ↓startD, List.map_cons, List.map_nil, List.cons_append, List.nil_append, List.append_nil, List.length_cons, List.length_nil, List.getElem?_cons_zero, List.getElem?_cons_succ, List.length_map, ↓dAsg, ↓dName, ↓dNew, ↓dLst, ↓dFor_k, ↓dRng1, ↓dRng2, ↓dCall_k, ↓dAdd, ↓dSub, ↓dMul, ↓dMod, ↓dFdiv, ↓dPow, ↓dEq, ↓dNe, ↓scd, ↓dIsN, ↓dNotN, ↓dIsB, ↓dNotB, ↓dUn, ↓dNeg, ↓dTru, ↓dTruS, ↓dAnd, ↓dOr, ↓dNot, ↓dNotV, ↓dAndV, ↓dOrV, ↓dIfE, ↓dTup, ↓dDrop, ↓dBM, ↓dBM0, ↓tyD, ↓dApp, ↓dSetL, ↓dAsL, ↓dOnL, ↓dOnN, ↓dIsi, ↓tyName, isT, ↓dBreak, ↓dCont, ↓dPar, ↓endsD, List.set_cons_zero, List.set_cons_succ, List.replicate_succ, List.replicate_zero, su_same, ↓dLc_k, ↓dWhile_k, ↓dWipe, ↓dYes, ↓dIt, ↓dItN, ↓dSlice, ↓dPart, ↓dNoP, ↓dCut, ↓dSliceE, ↓dIxL, ↓dChain, ↓dIn, ↓dNotIn, ↓dInS, ↓mS0, ↓mS1, ↓dSta, ↓dEnd, ↓dFind, ↓dIsasc, ↓dIsdig, ↓dIsalp, ↓dIsaln, ↓dIslow, ↓dIspri, ↓okT, ↓okU, ↓ok2, ↓dFind4, ↓dSplit, ↓dJoin, ↓dJoinT, ↓dMulS, ↓dCatL, ↓dCatE, ↓dCatR, ↓dCatEE, ↓dStar, ↓dIntS, ↓dStr, ↓dMax, ↓dMin, ↓dII, ↓dFld_m, ↓dSetF_m, ↓dMeth_m, ↓dMake_k, ↓dGtup, ↓dGcons, ↓dGnil, true_and, and_true, Nat.add_zero, reduceCtorEq, ↓reduceIte, Bool.not_true, Bool.not_false, Bool.false_eq_true, if_true, if_false])
local macro_rules | `(tactic| walk_at "dl*") => `(tactic| simp -implicitDefEqProofs only [*, ↓dSeq, ↓dIfS, ↓dTB, ↓dOp, ↓dVar, ↓dC, ↓dLt, ↓dLe, ↓dGt, ↓dGe, ↓rII, ↓rIIc, ↓dCB, ↓dCons, ↓dNil, ↓dLen, ↓dInt, ↓dRet, ↓dRetN, ↓dNext, ↓dIx, ↓dAt, ↓startD, List.map_cons, List.map_nil, List.cons_append, List.nil_append, List.append_nil, List.length_cons, List.length_nil, List.getElem?_cons_zero, List.getElem?_cons_succ, List.length_map, ↓dAsg, ↓dName, ↓dNew, ↓dLst, ↓dFor_k, ↓dRng1, ↓dRng2, ↓dCall_k, ↓dAdd, ↓dSub, ↓dMul, ↓dMod, ↓dFdiv, ↓dPow, ↓dEq, ↓dNe, ↓scd, ↓dIsN, ↓dNotN, ↓dIsB, ↓dNotB, ↓dUn, ↓dNeg, ↓dTru, ↓dTruS, ↓dAnd, ↓dOr, ↓dNot, ↓dNotV, ↓dAndV, ↓dOrV, ↓dIfE, ↓dTup, ↓dDrop, ↓dBM, ↓dBM0, ↓tyD, ↓dApp, ↓dSetL, ↓dAsL, ↓dOnL, ↓dOnN, ↓dIsi, ↓tyName, isT, ↓dBreak, ↓dCont, ↓dPar, ↓endsD, List.set_cons_zero, List.set_cons_succ, List.replicate_succ, List.replicate_zero, su_same, ↓dLc_k, ↓dWhile_k, ↓dWipe, ↓dYes, ↓dIt, ↓dItN, ↓dSlice, ↓dPart, ↓dNoP, ↓dCut, ↓dSliceE, ↓dIxL, ↓dChain, ↓dIn, ↓dNotIn, ↓dInS, ↓mS0, ↓mS1, ↓dSta, ↓dEnd, ↓dFind, ↓dIsasc, ↓dIsdig, ↓dIsalp, ↓dIsaln, ↓dIslow, ↓dIspri, ↓okT, ↓okU, ↓ok2, ↓dFind4, ↓dSplit, ↓dJoin, ↓dJoinT, ↓dMulS, ↓dCatL, ↓dCatE, ↓dCatR, ↓dCatEE, ↓dStar, ↓dIntS, ↓dStr, ↓dMax, ↓dMin, ↓dII, ↓dFld_m, ↓dSetF_m, ↓dMeth_m, ↓dMake_k, ↓dGtup, ↓dGcons, ↓dGnil, true_and, and_true, Nat.add_zero, reduceCtorEq, ↓reduceIte, Bool.not_true, Bool.not_false, Bool.false_eq_true, if_true, if_false])
local macro_rules | `(tactic| walk_at "dlf") => `(tactic| simp -implicitDefEqProofs only [*, lf_len', ↓lk_most, pf_most, ↓lk_text, pf_text, ↓lk_at, pf_at, ↓lk_words, pf_words, ↓lk_many, pf_many, ↓lk_faulty, pf_faulty, lm_fault, lm_hear_line, lm_hear_literal, lm_hear, lm_faulty_, su_same, strsOf_map, strsOf_snoc, at20, at21, ↓dSeq, ↓dIfS, ↓dTB, ↓dOp, ↓dVar, ↓dC, ↓dLt, ↓dLe, ↓dGt, ↓dGe, ↓rII, ↓rIIc, ↓dCB, ↓dCons, ↓dNil, ↓dLen, ↓dInt, ↓dRet, ↓dRetN, ↓dNext, ↓dIx, ↓dAt, ↓startD, List.map_cons, List.map_nil, List.cons_append, List.nil_append, List.append_nil, List.length_cons, List.length_nil, List.getElem?_cons_zero, List.getElem?_cons_succ, List.length_map, ↓dAsg, ↓dName, ↓dNew, ↓dLst, ↓dFor_k, ↓dRng1, ↓dRng2, ↓dCall_k, ↓dAdd, ↓dSub, ↓dMul, ↓dMod, ↓dFdiv, ↓dPow, ↓dEq, ↓dNe, ↓scd, ↓dIsN, ↓dNotN, ↓dIsB, ↓dNotB, ↓dUn, ↓dNeg, ↓dTru, ↓dTruS, ↓dAnd, ↓dOr, ↓dNot, ↓dNotV, ↓dAndV, ↓dOrV, ↓dIfE, ↓dTup, ↓dDrop, ↓dBM, ↓dBM0, ↓tyD, ↓dApp, ↓dSetL, ↓dAsL, ↓dOnL, ↓dOnN, ↓dIsi, ↓tyName, isT, ↓dBreak, ↓dCont, ↓dPar, ↓endsD, List.set_cons_zero, List.set_cons_succ, List.replicate_succ, List.replicate_zero, su_same, ↓dLc_k, ↓dWhile_k, ↓dWipe, ↓dYes, ↓dIt, ↓dItN, ↓dSlice, ↓dPart, ↓dNoP, ↓dCut, ↓dSliceE, ↓dIxL, ↓dChain, ↓dIn, ↓dNotIn, ↓dInS, ↓mS0, ↓mS1, ↓dSta, ↓dEnd, ↓dFind, ↓dIsasc, ↓dIsdig, ↓dIsalp, ↓dIsaln, ↓dIslow, ↓dIspri, ↓okT, ↓okU, ↓ok2, ↓dFind4, ↓dSplit, ↓dJoin, ↓dJoinT, ↓dMulS, ↓dCatL, ↓dCatE, ↓dCatR, ↓dCatEE, ↓dStar, ↓dIntS, ↓dStr, ↓dMax, ↓dMin, ↓dII, ↓dFld_m, ↓dSetF_m, ↓dMeth_m, ↓dMake_k, ↓dGtup, ↓dGcons, ↓dGnil, true_and, and_true, Nat.add_zero, reduceCtorEq, ↓reduceIte, Bool.not_true, Bool.not_false, Bool.false_eq_true, if_true, if_false])
variable {C : Nat → Addr}
/-- keeps the rewriting off a fact -/
structure Hd (P : Prop) : Prop where
  a : P
theorem fin_ok {Q : QD} {S : Sh} (h : Q (.bl true) (fun _ => none)) : ∃ S', Sle S' S ∧ Q (.bl true) S' := ⟨_, fun p o e => (by cases e), h⟩
/-- before the listener is made -/
structure Mid (m : Nat) (cs : List Cmd) (W : List Nat) (F : Nat) (Fv : Int) : Prop where
  hm : 20 ≤ m
  cg : ∀ c ∈ cs, Cg c
  le : cs.length ≤ 6
  bad : Bad m none W F
  fv : (Fv = -1 ∧ W = [] ∧ F = 1) ∨ (Fv = (((sgs cs).length + F : Nat) : Int) ∧ 1 ≤ F ∧ F ≤ W.length)
  wl : W.length ≤ 4000
theorem law_k3 {Q : QD} (h : Q (.bl true) (fun _ => none)) {m : Nat} {cs : List Cmd} {W : List Nat} {F : Nat} {Fv : Int} (M : Mid m cs W F Fv) {x0 x1 x4 x12 x15 : Option D} {pc pk pe : Addr} {cuts : List Nat} {S : Sh}
    (hpc : S pc = some (.lst (cs.map cD))) (hpe : S pe = some (.lst ((en 0 cs).map D.int))) (hpk : S pk = some (.lst (cuts.map fun c => D.int (c : Nat)))) (hs : cuts.Pairwise (· ≤ ·)) (hb : ∀ c ∈ cuts, c ≤ (sgs cs ++ W).length) (hl : (sgs cs ++ W).length ∈ cuts) :
    lawK3 C (endsD Q) [x0, x1, some (.int m), some (.rf pc), x4, some (.int Fv), some (.rf pk), none, none, none, some (.rf pe), some (.str (sgs cs ++ W)), x12, none, none, x15] S := by
  have sz : (1000000 : Nat) ≤ sizeLine := by rw [sizeLine_eq]; omega
  unfold lawK3
  walk_at "dlf"
  intro p hp
  refine ⟨p, m, rfl, su_same, fun S1 h1 h2 => ?_⟩
  have hpp : pc ≠ p ∧ pe ≠ p ∧ pk ≠ p := ⟨fun e => (by rw [e, hp] at hpc; cases hpc), fun e => (by rw [e, hp] at hpe; cases hpe), fun e => (by rw [e, hp] at hpk; cases hpk)⟩
  have h2' : ∀ q, q ≠ p → S1 q = S q := fun q hq => (h2 q hq).trans (su_ne hq)
  clear h2
  have kk : S1 pk = some (.lst (cuts.map fun c => D.int (c : Nat))) := (h2' pk hpp.2.2).trans hpk
  walk_at "dlf"
  refine ⟨p, m, _, _, _, _, false, rfl, h1, ?_⟩
  show if (!decide (false = false)) = true then _ else _
  rw [if_neg (by decide)]
  walk_at "dlf"
  have hF : 1 ≤ F := by rcases M.fv with ⟨_, _, e⟩ | ⟨_, e, _⟩ <;> omega
  refine loop_inv (fun rest δ S' => ∃ (cu : List Nat) (h0 : Nat) (dn cs' : List Cmd) (R : Option (Md × List Nat)) (x9 x13 x14 : Option D), rest = cu.map (fun c => D.int (c : Nat)) ∧ cu.Pairwise (· ≤ ·) ∧ (∀ c ∈ cu, h0 ≤ c ∧ c ≤ (sgs cs ++ W).length) ∧ ((sgs cs ++ W).length ∈ cu ∨ h0 = (sgs cs ++ W).length) ∧
    δ = [x0, x1, some (.int m), some (.rf pc), x4, some (.int Fv), some (.rf pk), some (.rf p), some (.int h0), x9, some (.rf pe), some (.str (sgs cs ++ W)), x12, x13, x14, x15] ∧ h0 ≤ (sgs cs ++ W).length ∧ cs = dn ++ cs' ∧ Lis (C 0) m p h0 S' R ∧ (∀ q, q ≠ p → S' q = S q) ∧
    ((sgs cs ++ W).drop h0).length ≤ (sgs cs' ++ W).length ∧ (∀ c cs'', cs' = c :: cs'' → (sgs cs'' ++ W).length < ((sgs cs ++ W).drop h0).length) ∧ Post m W F cs' ((sgs cs ++ W).drop h0) R) ?_ ?_ ?_ _ _ _
    ⟨cuts, 0, [], cs, some (none, []), none, none, none, rfl, hs, fun c hc => ⟨Nat.zero_le _, hb c hc⟩, .inl hl, rfl, Nat.zero_le _, rfl, ⟨0, h1, trivial, Nat.le_refl _⟩, h2', by rw [List.drop_zero]; exact Nat.le_refl _, fun c cs'' e => ?_, ?_, ?_⟩
  · rintro x xs δ S2 N ⟨cu, h0, dn, cs', R, x9, x13, x14, e1, e2, e3, e4, rfl, e5, e6, e7, e8, e9, e10, e11⟩ hN
    cases cu with
    | nil => cases e1
    | cons c cu =>
      injection e1 with e1 e1'
      subst e1
      subst e1'
      have kc : S2 pc = some (.lst (cs.map cD)) := (e8 pc hpp.1).trans hpc
      have ke : S2 pe = some (.lst ((en 0 cs).map D.int)) := (e8 pe hpp.2.1).trans hpe
      have hc := e3 c (List.mem_cons_self ..)
      have wl := M.wl
      have sl := sgs_le M.cg
      have l6 := M.le
      have hT : (sgs cs ++ W).length ≤ 10000 := by rw [List.length_append]; omega
      obtain ⟨f1, f2⟩ := hc
      have ecut : cutD (sgs cs ++ W) (some (h0 : Int)) (some (c : Int)) = ((sgs cs ++ W).drop h0).take (c - h0) := cut_mid f1 f2
      have hTl : (sgs cs ++ W).length = (sgs dn).length + (sgs cs').length + W.length := by rw [List.length_append, e6, sgs_app, List.length_append]
      generalize hTT : sgs cs ++ W = T at *
      obtain ⟨t7, w7, n7, e7'⟩ := lis_at e7
      have cg' : ∀ c ∈ cs', Cg c := fun c hc => M.cg c (by rw [e6]; exact List.mem_append_right _ hc)
      have hu : T.drop h0 = (T.drop h0).take (c - h0) ++ T.drop c := by
        have := List.take_append_drop (c - h0) (T.drop h0)
        rw [List.drop_drop, show h0 + (c - h0) = c by omega] at this
        exact this.symm
      obtain ⟨dn', cs'', R', g1, g2, g3, g4, g5⟩ := portion (by have := M.hm; omega) M.bad cg' e11 hu
      have lx : ((T.drop h0).take (c - h0)).length = c - h0 := by rw [List.length_take, List.length_drop]; omega
      have lu : (T.drop h0).length = T.length - h0 := List.length_drop ..
      have lu' : (T.drop c).length = T.length - c := List.length_drop ..
      have ldn : dn'.length ≤ 6 := by
        have := congrArg List.length e6
        rw [g1] at this
        simp only [List.length_append] at this
        omega
      have cgd : ∀ c ∈ dn', Cg c := fun c hc => cg' c (by rw [g1]; exact List.mem_append_left _ hc)
      have sW : ∀ l : List Cmd, (sgs l ++ W).length = (sgs l).length + W.length := fun l => List.length_append ..
      have due := due_eq (cs := cs) (dn := dn) (dn' := dn') (cs'' := cs'') (h := h0) (c := c) (by rw [e6, g1]) (by rw [sW] at e9; omega) (fun c0 r hq => by
        have := e10 c0 r (by rw [g1]; exact hq)
        rw [g1, hq] at hTl
        rw [sgs_app, List.length_append]
        have h3 : (sgs (c0 :: r)).length = (sgs [c0]).length + (sgs r).length := by show (sg c0 ++ sgs r).length = (sg c0 ++ []).length + _; rw [List.length_append, List.append_nil]
        rw [sW] at this
        omega) (by
        rw [sW] at g3
        rw [g1, sgs_app, List.length_append] at hTl
        rw [sgs_app, List.length_append]
        omega) (fun c1 r hq => by
        have := g4 c1 r hq
        rw [g1, hq, sgs_app, List.length_append] at hTl
        rw [sgs_app, sgs_app, List.length_append, List.length_append]
        have h3 : (sgs (c1 :: r)).length = (sgs [c1]).length + (sgs r).length := by show (sg c1 ++ sgs r).length = (sg c1 ++ []).length + _; rw [List.length_append, List.append_nil]
        rw [sW] at this
        omega)
      have hN' := Hd.mk hN
      have e6' := Hd.mk e6
      have g1' := Hd.mk g1
      have g4' := Hd.mk g4
      have g5' := Hd.mk g5
      have g2' := Hd.mk g2
      have due' := Hd.mk due
      have e4' := Hd.mk e4
      have e3' := Hd.mk e3
      clear hN e11 e10 e6 g1 g4 g5 g2 due hu hTl e4 e3
      walk_at "dlf"
      refine ⟨by omega, p, (m : Int), _, h0, R, R', dn'.map cD, rfl, e7, by rw [lx]; omega, g2'.a, by rw [List.length_map]; omega, fun S3 k1 k2 => ?_⟩
      have kc3 : S3 pc = some (.lst (cs.map cD)) := (k2 pc hpp.1).trans kc
      have ke3 : S3 pe = some (.lst ((en 0 cs).map D.int)) := (k2 pe hpp.2.1).trans ke
      rw [lx, show h0 + (c - h0) = c by omega] at k1
      obtain ⟨t8, w8, n8, k1'⟩ := lis_at k1
      have lc : (cs.map cD).length = cs.length := List.length_map ..
      walk_at "dlf"
      refine ⟨by omega, by omega, ?_⟩
      refine comp_filter (dueP cs h0 c) (dueF cs) (S := S3) trivial _ [] (fun x hx Y Z hY hZ => ?_) (by rw [rng_len]; simp; omega) ?_
      · obtain ⟨k, hk, rfl⟩ := rng_mem hx
        have hk' : k < cs.length := by simpa using hk
        have a1 := ends_at hk'
        have a2 := cmds_at hk'
        have hp1 : dueP cs h0 c (.int ((0 : Int) + (k : Nat))) = (decide (h0 < (sgs (cs.take (k + 1))).length) && decide ((sgs (cs.take (k + 1))).length ≤ c)) := by
          show (decide (h0 < (sgs (cs.take (((0 : Int) + (k : Nat)).toNat + 1))).length) && decide ((sgs (cs.take (((0 : Int) + (k : Nat)).toNat + 1))).length ≤ c)) = _
          rw [Int.zero_add, Int.toNat_natCast]
        rw [hp1] at hY hZ
        have hY' := Hd.mk hY
        have hZ' := Hd.mk hZ
        clear hY hZ hp1
        generalize dueF cs (.int ((0 : Int) + (k : Nat))) = df at a2 hY'
        walk_at "dlf"
        refine ifb (fun y1 => ifb (fun y2 => hY'.a ?_) fun y2 => hZ'.a ?_) fun y1 => hZ'.a ?_
        · rw [decide_eq_true (by omega), decide_eq_true (by omega)]; rfl
        · rw [decide_eq_false (by omega : ¬ (sgs (cs.take (k + 1))).length ≤ c), Bool.and_false]
        · rw [decide_eq_false (by omega : ¬ h0 < (sgs (cs.take (k + 1))).length), Bool.false_and]
      · refine ⟨rfl, ?_⟩
        rw [List.nil_append, Int.toNat_natCast, due'.a]
        refine same_cmds cgd ldn ?_
        walk_at "dlf"
        refine ⟨p, (m : Int), t8, 0, w8, n8, R'.isNone, rfl, k1', ?_⟩
        have e6 := e6'.a
        have g1 := g1'.a
        have hTl : T.length = (sgs cs).length + W.length := by rw [← hTT, List.length_append]
        have hTl2 : (sgs cs).length = (sgs dn).length + ((sgs dn').length + (sgs cs'').length) := by rw [e6, g1, sgs_app, sgs_app, List.length_append, List.length_append]
        have hfl : (Fv ≤ 0 → R'.isNone = false) ∧ (0 < Fv → R'.isNone = decide (Fv ≤ (c : Int))) := by
          have g5 := g5'.a
          cases R' with
          | none =>
            obtain ⟨q1, q2⟩ := g5
            rcases M.fv with ⟨q3, q4, q5⟩ | ⟨q3, q4, q5⟩
            · rw [q4, List.length_nil] at q2; omega
            · refine ⟨fun hx => by omega, fun _ => ?_⟩
              rw [decide_eq_true (by omega)]
              rfl
          | some R =>
            obtain ⟨q1, _⟩ := g5
            refine ⟨fun _ => rfl, fun q0 => ?_⟩
            rw [decide_eq_false]
            · rfl
            · rcases M.fv with ⟨q3, q4, q5⟩ | ⟨q3, q4, q5⟩
              · omega
              · cases hq : cs'' with
                | nil =>
                  have := q1 hq
                  omega
                | cons c1 r =>
                  have q6 := g4'.a c1 r hq
                  rw [sW] at q6
                  rw [hq] at hTl2
                  have h3 : (sgs (c1 :: r)).length = (sg c1).length + (sgs r).length := by show (sg c1 ++ sgs r).length = _; rw [List.length_append]
                  omega
        have fin : N [x0, x1, some (D.int m), some (D.rf pc), x4, some (D.int Fv), some (D.rf pk), some (D.rf p), some (D.int c), some (D.int c), some (D.rf pe), some (D.str T), x12, some (D.tup (List.map cD dn')), some (D.tup (List.map cD dn')), x15] S3 :=
          hN'.a _ _ ⟨cu, c, dn ++ dn', cs'', R', _, _, _, rfl, (List.pairwise_cons.mp e2).2, fun d hd => ⟨(List.pairwise_cons.mp e2).1 d hd, (e3'.a d (List.mem_cons_of_mem _ hd)).2⟩, by
            rcases e4'.a with q | q
            · rcases List.mem_cons.mp q with q | q
              · exact .inr q.symm
              · exact .inl q
            · exact .inr (by omega), rfl, f2, by rw [e6, g1, List.append_assoc], k1, fun q hq => (k2 q hq).trans (e8 q hq), g3, g4'.a, g5'.a⟩
        refine ifb (fun y => ⟨rfl, same_bl (hfl.2 y) ?_⟩) fun y => ⟨rfl, same_bl (hfl.1 (by omega)) ?_⟩
        · exact fin
        · exact fin
  · rintro xs δ S2 ⟨cu, h0, dn, cs', R, x9, x13, x14, e1, e2, e3, e4, rfl, e5, e6, e7, e8, e9, e10, e11⟩
    exact (e8 pk hpp.2.2).trans hpk
  · rintro δ S2 ⟨cu, h0, dn, cs', R, x9, x13, x14, e1, e2, e3, e4, rfl, e5, e6, e7, e8, e9, e10, e11⟩
    cases cu with
    | cons c cu => cases e1
    | nil =>
      have hh : h0 = (sgs cs ++ W).length := by
        rcases e4 with q | q
        · cases q
        · exact q
      subst hh
      rw [List.drop_length] at e9 e10 e11
      have hTb : (sgs cs ++ W).length ≤ 10000 := by
        have := sgs_le M.cg
        have := M.le
        have := M.wl
        rw [List.length_append]; omega
      have hR : 0 < Fv → R = none := fun q0 => by
        cases R with
        | none => rfl
        | some R =>
          obtain ⟨q1, _⟩ := e11
          cases cs' with
          | cons c r => exact absurd (e10 c r rfl) (Nat.not_lt_zero _)
          | nil =>
            have := q1 rfl
            rw [List.length_nil] at this
            rcases M.fv with ⟨q3, q4, q5⟩ | ⟨q3, q4, q5⟩ <;> omega
      obtain ⟨t7, w7, n7, e7'⟩ := lis_at e7
      have hR' := Hd.mk hR
      clear e10 e11 e9 e6 hR e4 e3 e1 e2 e5 hb hl
      dsimp only
      walk_at "dlf"
      refine ifb (fun y => ?_) fun _ => fin_ok h
      have hR := hR'.a y
      subst hR
      refine ⟨p, (m : Int), [120, 10], _, none, none, [], rfl, e7, by simp only [List.length_cons, List.length_nil]; omega, ⟨rfl, rfl⟩, by decide, fun S3 k1 k2 => ?_⟩
      refine ⟨by omega, ?_⟩
      show dEqP false (toPy (.tup [])) (toPy (.tup [])) S3 _
      unfold dEqP
      exact ⟨rfl, rfl, fin_ok h⟩
  · subst e
    show _ < (sg c ++ sgs cs'' ++ W).length
    have := sg_pos (c := c)
    simp only [List.length_append]
    omega
  · intro e
    subst e
    rw [List.drop_zero]
    show W.length < W.length + F
    omega
  · rw [List.drop_zero]
    cases cs with
    | nil => exact .bad M.bad rfl (Nat.le_refl _)
    | cons c cs => exact .line c cs
end LW

set_option Elab.async false
set_option linter.all false
set_option maxRecDepth 100000
set_option maxHeartbeats 4000000
namespace LW
open PySem PySem.Spec L2 DL
local macro_rules | `(tactic| walk_at "dl") => `(tactic| simp -implicitDefEqProofs only [↓dSeq, ↓dIfS, ↓dTB, ↓dOp, ↓dVar, ↓dC, ↓dLt, ↓dLe, ↓dGt, ↓dGe, ↓rII, ↓rIIc, ↓dCB, ↓dCons, ↓dNil, ↓dLen, ↓dInt, ↓dRet, ↓dRetN, ↓dNext, ↓dIx, ↓dAt, ↓startD, List.map_cons, List.map_nil, List.cons_append, List.nil_append, List.append_nil, List.length_cons, List.length_nil, List.getElem?_cons_zero, List.getElem?_cons_succ, List.length_map, ↓dAsg, ↓dName, ↓dNew, ↓dLst, ↓dFor_k, ↓dRng1, ↓dRng2, ↓dCall_k, ↓dAdd, ↓dSub, ↓dMul, ↓dMod, ↓dFdiv, ↓dPow, ↓dEq, ↓dNe, ↓scd, ↓dIsN, ↓dNotN, ↓dIsB, ↓dNotB, ↓dUn, ↓dNeg, ↓dTru, ↓dTruS, ↓dAnd, ↓dOr, ↓dNot, ↓dNotV, ↓dAndV, ↓dOrV, ↓dIfE, ↓dTup, ↓dDrop, ↓dBM, ↓dBM0, ↓tyD, ↓dApp, ↓dSetL, ↓dAsL, ↓dOnL, ↓dOnN, ↓dIsi, ↓tyName, isT, ↓dBreak, ↓dCont, ↓dPar, ↓endsD, List.set_cons_zero, List.set_cons_succ, List.replicate_succ, List.replicate_zero, su_same, ↓dLc_k, ↓dWhile_k, ↓dWipe, ↓dYes, ↓dIt, ↓dItN, ↓dSlice, ↓dPart, ↓dNoP, ↓dCut, ↓dSliceE, ↓dIxL, ↓dChain, ↓dIn, ↓dNotIn, ↓dInS, ↓mS0, ↓mS1, ↓dSta, ↓dEnd, ↓dFind, ↓dIsasc, ↓dIsdig, ↓dIsalp, ↓dIsaln, ↓dIslow, ↓dIspri, ↓okT, ↓okU, ↓ok2, ↓dFind4, ↓dSplit, ↓dJoin, ↓dJoinT, ↓dMulS, ↓dCatL, ↓dCatE, ↓dCatR, ↓dCatEE, ↓dStar, ↓dIntS, ↓dStr, ↓dMax, ↓dMin, ↓dII, ↓dFld_m, ↓dSetF_m, ↓dMeth_m, ↓dMake_k, ↓dGtup, ↓dGcons, ↓dGnil, true_and, and_true, Nat.add_zero, reduceCtorEq, ↓reduceIte, Bool.not_true, Bool.not_false, Bool.false_eq_true, if_true, if_false])
local macro_rules | `(tactic| walk_at "dl*") => `(tactic| simp -implicitDefEqProofs only [*, ↓dSeq, ↓dIfS, ↓dTB, ↓dOp, ↓dVar, ↓dC, ↓dLt, ↓dLe, ↓dGt, ↓dGe, ↓rII, ↓rIIc, ↓dCB, ↓dCons, ↓dNil, ↓dLen, ↓dInt, ↓dRet, ↓dRetN, ↓dNext, ↓dIx, ↓dAt, ↓startD, List.map_cons, List.map_nil, List.cons_append, List.nil_append, List.append_nil, List.length_cons, List.length_nil, List.getElem?_cons_zero, List.getElem?_cons_succ, List.length_map, ↓dAsg, ↓dName, ↓dNew, ↓dLst, ↓dFor_k, ↓dRng1, ↓dRng2, ↓dCall_k, ↓dAdd, ↓dSub, ↓dMul, ↓dMod, ↓dFdiv, ↓dPow, ↓dEq, ↓dNe, ↓scd, ↓dIsN, ↓dNotN, ↓dIsB, ↓dNotB, ↓dUn, ↓dNeg, ↓dTru, ↓dTruS, ↓dAnd, ↓dOr, ↓dNot, ↓dNotV, ↓dAndV, ↓dOrV, ↓dIfE, ↓dTup, ↓dDrop, ↓dBM, ↓dBM0, ↓tyD, ↓dApp, ↓dSetL, ↓dAsL, ↓dOnL, ↓dOnN, ↓dIsi, ↓tyName, isT, ↓dBreak, ↓dCont, ↓dPar, ↓endsD, List.set_cons_zero, List.set_cons_succ, List.replicate_succ, List.replicate_zero, su_same, ↓dLc_k, ↓dWhile_k, ↓dWipe, ↓dYes, ↓dIt, ↓dItN, ↓dSlice, ↓dPart, ↓dNoP, ↓dCut, ↓dSliceE, ↓dIxL, ↓dChain, ↓dIn, ↓dNotIn, ↓dInS, ↓mS0, ↓mS1, ↓dSta, ↓dEnd, ↓dFind, ↓dIsasc, ↓dIsdig, ↓dIsalp, ↓dIsaln, ↓dIslow, ↓dIspri, ↓okT, ↓okU, ↓ok2, ↓dFind4, ↓dSplit, ↓dJoin, ↓dJoinT, ↓dMulS, ↓dCatL, ↓dCatE, ↓dCatR, ↓dCatEE, ↓dStar, ↓dIntS, ↓dStr, ↓dMax, ↓dMin, ↓dII, ↓dFld_m, ↓dSetF_m, ↓dMeth_m, ↓dMake_k, ↓dGtup, ↓dGcons, ↓dGnil, true_and, and_true, Nat.add_zero, reduceCtorEq, ↓reduceIte, Bool.not_true, Bool.not_false, Bool.false_eq_true, if_true, if_false])
local macro_rules | `(tactic| walk_at "dlf") => `(tactic| simp -implicitDefEqProofs only [*, lf_len', ↓lk_most, pf_most, ↓lk_text, pf_text, ↓lk_at, pf_at, ↓lk_words, pf_words, ↓lk_many, pf_many, ↓lk_faulty, pf_faulty, lm_fault, lm_hear_line, lm_hear_literal, lm_hear, lm_faulty_, su_same, strsOf_map, strsOf_snoc, at20, at21, ↓dSeq, ↓dIfS, ↓dTB, ↓dOp, ↓dVar, ↓dC, ↓dLt, ↓dLe, ↓dGt, ↓dGe, ↓rII, ↓rIIc, ↓dCB, ↓dCons, ↓dNil, ↓dLen, ↓dInt, ↓dRet, ↓dRetN, ↓dNext, ↓dIx, ↓dAt, ↓startD, List.map_cons, List.map_nil, List.cons_append, List.nil_append, List.append_nil, List.length_cons, List.length_nil, List.getElem?_cons_zero, List.getElem?_cons_succ, List.length_map, ↓dAsg, ↓dName, ↓dNew, ↓dLst, ↓dFor_k, ↓dRng1, ↓dRng2, ↓dCall_k, ↓dAdd, ↓dSub, ↓dMul, ↓dMod, ↓dFdiv, ↓dPow, ↓dEq, ↓dNe, ↓scd, ↓dIsN, ↓dNotN, ↓dIsB, ↓dNotB, ↓dUn, ↓dNeg, ↓dTru, ↓dTruS, ↓dAnd, ↓dOr, ↓dNot, ↓dNotV, ↓dAndV, ↓dOrV, ↓dIfE, ↓dTup, ↓dDrop, ↓dBM, ↓dBM0, ↓tyD, ↓dApp, ↓dSetL, ↓dAsL, ↓dOnL, ↓dOnN, ↓dIsi, ↓tyName, isT, ↓dBreak, ↓dCont, ↓dPar, ↓endsD, List.set_cons_zero, List.set_cons_succ, List.replicate_succ, List.replicate_zero, su_same, ↓dLc_k, ↓dWhile_k, ↓dWipe, ↓dYes, ↓dIt, ↓dItN, ↓dSlice, ↓dPart, ↓dNoP, ↓dCut, ↓dSliceE, ↓dIxL, ↓dChain, ↓dIn, ↓dNotIn, ↓dInS, ↓mS0, ↓mS1, ↓dSta, ↓dEnd, ↓dFind, ↓dIsasc, ↓dIsdig, ↓dIsalp, ↓dIsaln, ↓dIslow, ↓dIspri, ↓okT, ↓okU, ↓ok2, ↓dFind4, ↓dSplit, ↓dJoin, ↓dJoinT, ↓dMulS, ↓dCatL, ↓dCatE, ↓dCatR, ↓dCatEE, ↓dStar, ↓dIntS, ↓dStr, ↓dMax, ↓dMin, ↓dII, ↓dFld_m, ↓dSetF_m, ↓dMeth_m, ↓dMake_k, ↓dGtup, ↓dGcons, ↓dGnil, true_and, and_true, Nat.add_zero, reduceCtorEq, ↓reduceIte, Bool.not_true, Bool.not_false, Bool.false_eq_true, if_true, if_false])
variable {C : Nat → Addr}
theorem sort_nat {ns : List Nat} {S : Sh} {Q : List D → Sh → Prop} (h : ∀ ms : List Nat, ms.Pairwise (· ≤ ·) → ms.length = ns.length → (∀ x, x ∈ ms ↔ x ∈ ns) → Q (ms.map fun c => D.int (c : Nat)) S) : dSortI (ns.map fun c => D.int (c : Nat)) S Q := by
  have e : (ns.map fun c => D.int (c : Nat)) = (ns.map fun c => ((c : Nat) : Int)).map D.int := by rw [List.map_map]; rfl
  rw [e]
  unfold dSortI
  rw [intsOf_map]
  intro ms hp hs
  have hm : ∀ x ∈ ms, ∃ n : Nat, x = (n : Int) ∧ n ∈ ns := fun x hx => by
    obtain ⟨n, hn, rfl⟩ := List.mem_map.mp (hp.mem_iff.mp hx)
    exact ⟨n, rfl, hn⟩
  have e2 : ms.map D.int = (ms.map Int.toNat).map fun c => D.int (c : Nat) := by
    rw [List.map_map]
    refine List.map_congr_left fun x hx => ?_
    obtain ⟨n, rfl, _⟩ := hm x hx
    show D.int n = D.int ((n : Int).toNat : Nat)
    rw [Int.toNat_natCast]
  show Q (ms.map D.int) S
  rw [e2]
  refine h (ms.map Int.toNat) ?_ ?_ fun x => ⟨fun hx => ?_, fun hx => ?_⟩
  · refine List.pairwise_map.mpr (hs.imp fun {a b} hab => by omega)
  · rw [List.length_map, hp.length_eq, List.length_map]
  · obtain ⟨y, hy, rfl⟩ := List.mem_map.mp hx
    obtain ⟨n, rfl, hn⟩ := hm y hy
    rw [Int.toNat_natCast]; exact hn
  · refine List.mem_map.mpr ⟨(x : Int), hp.mem_iff.mpr (List.mem_map.mpr ⟨x, hx, rfl⟩), Int.toNat_natCast x⟩
theorem all_nat {b : Nat} : ∀ {ds : List D}, (∀ d ∈ ds, ∃ n : Nat, d = .int n ∧ n ≤ b) → ∃ ns : List Nat, ds = (ns.map fun c => D.int (c : Nat)) ∧ ∀ n ∈ ns, n ≤ b
  | [], _ => ⟨[], rfl, fun w hw => absurd hw (List.not_mem_nil)⟩
  | d :: ds, h => by
    obtain ⟨s, rfl, hs⟩ := h d (List.mem_cons_self ..)
    obtain ⟨ws, rfl, hw⟩ := all_nat (ds := ds) fun d hd => h d (List.mem_cons_of_mem _ hd)
    exact ⟨s :: ws, rfl, fun w hw' => by
      rcases List.mem_cons.mp hw' with rfl | z
      · exact hs
      · exact hw w z⟩
theorem Bx.box {b : Addr} {S S' : Sh} (h : Bx b S S') : Box S' b := h.1
theorem Box.new {b p : Addr} {S : Sh} {o : MO} (h : Box S b) (hp : S p = none) : Box (su S p o) b := by
  obtain ⟨dg, gs, a, h1, h2, h3, h4, h5⟩ := h
  exact ⟨dg, gs, a, by rw [su_ne (fun e => by rw [← e, h1] at hp; cases hp)]; exact h1, by rw [su_ne (fun e => by rw [← e, h2] at hp; cases hp)]; exact h2, h3, h4, h5⟩
theorem Box.at {b : Addr} {S : Sh} (h : Box S b) : ∃ o, S b = some o := by
  obtain ⟨dg, gs, a, h1, _⟩ := h
  exact ⟨_, h1⟩
theorem law_k2 {Q : QD} (h : Q (.bl true) (fun _ => none)) {m : Nat} {cs : List Cmd} {W : List Nat} {F : Nat} {Fv : Int} (M : Mid m cs W F Fv) {x0 x4 x12 : Option D} {b pc pe : Addr} {S : Sh}
    (hbx : Box S b) (nb : pc ≠ b ∧ pe ≠ b) (hpc : S pc = some (.lst (cs.map cD))) (hpe : S pe = some (.lst ((en 0 cs).map D.int))) :
    lawK2 C (endsD Q) [x0, some (.rf b), some (.int m), some (.rf pc), x4, some (.int Fv), none, none, none, none, some (.rf pe), some (.str (sgs cs ++ W)), x12, none, none, none] S := by
  have sz : (1000000 : Nat) ≤ sizeLine := by rw [sizeLine_eq]; omega
  unfold lawK2
  walk_at "dlf"
  refine ⟨b, 5, rfl, by decide, hbx, fun r S1 r0 r1 b1 => ?_⟩
  walk_at "dlf"
  refine ⟨by omega, by omega, ?_⟩
  have hT : (sgs cs ++ W).length ≤ 10000 := by
    have := sgs_le M.cg
    have := M.le
    have := M.wl
    rw [List.length_append]; omega
  refine comp_all (fun d => ∃ n : Nat, d = .int n ∧ n ≤ (sgs cs ++ W).length) (Bx b S) (fun _ _ => trivial) (fun xs x hx S2 b2 R hR => ?_) _ [] S1 b1 (fun d hd => absurd hd List.not_mem_nil) (by rw [rng_len]; simp; omega) fun ds S2 hl hd b2 => ?_
  · walk_at "dlf"
    refine ⟨b, 900, rfl, by decide, b2.1, fun y S3 y0 y1 b3 => ?_⟩
    refine ⟨.inr ⟨by decide, by decide⟩, rfl, b, 1000, rfl, by decide, b3.1, fun z S4 z0 z1 b4 => ?_⟩
    refine ⟨by omega, by omega, ?_⟩
    have e0 : 0 ≤ (y * 1000 + z) % (((sgs cs ++ W).length : Int) + 1) := Int.emod_nonneg _ (by omega)
    have e1 : (y * 1000 + z) % (((sgs cs ++ W).length : Int) + 1) < ((sgs cs ++ W).length : Int) + 1 := Int.emod_lt_of_pos _ (by omega)
    refine hR _ S4 ⟨((y * 1000 + z) % (((sgs cs ++ W).length : Int) + 1)).toNat, ?_, by omega⟩ ((b2.trans b3).trans b4)
    rw [Int.toNat_of_nonneg e0]
  · obtain ⟨ns, rfl, hn⟩ := all_nat hd
    rw [List.length_map, rng_len, List.length_nil] at hl
    refine sort_nat fun ms s1 s2 s3 => ?_
    have hm : ∀ c ∈ ms, c ≤ (sgs cs ++ W).length := fun c hc => hn c ((s3 c).mp hc)
    refine ⟨by omega, by omega, by rw [List.length_map]; omega, fun pk hpk => ?_⟩
    have nk : pc ≠ pk ∧ pe ≠ pk ∧ b ≠ pk := by
      refine ⟨fun e => ?_, fun e => ?_, fun e => ?_⟩
      · rw [← e, b2.2 pc nb.1, hpc] at hpk; cases hpk
      · rw [← e, b2.2 pe nb.2, hpe] at hpk; cases hpk
      · obtain ⟨o, ho⟩ := b2.1.at
        rw [← e, ho] at hpk; cases hpk
    have el : (ms.map fun c => D.int (c : Nat)) ++ [D.int ((sgs cs ++ W).length : Nat)] = ((ms ++ [(sgs cs ++ W).length]).map fun c => D.int (c : Nat)) := by rw [List.map_append]; rfl
    rw [el]
    generalize hms : ms ++ [(sgs cs ++ W).length] = cuts
    have p1 : cuts.Pairwise (· ≤ ·) := by
      rw [← hms]
      exact List.pairwise_append.mpr ⟨s1, List.pairwise_singleton .., fun a ha c hc => by rw [List.mem_singleton.mp hc]; exact hm a ha⟩
    have p2 : ∀ c ∈ cuts, c ≤ (sgs cs ++ W).length := fun c hc => by
      rw [← hms] at hc
      rcases List.mem_append.mp hc with z | z
      · exact hm c z
      · rw [List.mem_singleton.mp z]; exact Nat.le_refl _
    have p3 : (sgs cs ++ W).length ∈ cuts := by rw [← hms]; exact List.mem_append_right _ (List.mem_singleton.mpr rfl)
    have p4 : cuts.length ≤ 10 := by rw [← hms, List.length_append, List.length_singleton]; omega
    have q1 : (su S2 pk (.lst (cuts.map fun c => D.int (c : Nat)))) pc = some (.lst (cs.map cD)) := by rw [su_ne nk.1, b2.2 pc nb.1]; exact hpc
    have q2 : (su S2 pk (.lst (cuts.map fun c => D.int (c : Nat)))) pe = some (.lst ((en 0 cs).map D.int)) := by rw [su_ne nk.2.1, b2.2 pe nb.2]; exact hpe
    refine ifb (fun y => ?_) fun y => ?_
    · refine ⟨rfl, b, 2, rfl, by decide, b2.1.new hpk, fun z S3 z0 z1 b3 => ?_⟩
      have r1 := (b3.2 pc nb.1).trans q1
      have r2 := (b3.2 pe nb.2).trans q2
      have r3 : S3 pk = some (.lst (cuts.map fun c => D.int (c : Nat))) := (b3.2 pk (Ne.symm nk.2.2)).trans su_same
      obtain ⟨fv, rfl, f1, f2⟩ : ∃ fv : Nat, Fv = fv ∧ 1 ≤ fv ∧ fv ≤ (sgs cs ++ W).length := by
        rcases M.fv with ⟨q3, q4, q5⟩ | ⟨q3, q4, q5⟩
        · omega
        · exact ⟨_, q3, by omega, by rw [List.length_append]; omega⟩
      have h' := Hd.mk h
      have p3' := Hd.mk p3
      have p2' := Hd.mk p2
      clear h hms p3 p2
      walk_at "dlf"
      refine ifb (fun _ => ?_) fun _ => law_k3 h'.a M r1 r2 r3 p1 p2'.a p3'.a
      have el2 : (cuts.map fun c => D.int (c : Nat)) ++ [D.int ((fv : Int) - 1), D.int (fv : Int)] = ((cuts ++ [fv - 1, fv]).map fun c => D.int (c : Nat)) := by
        rw [List.map_append]
        show _ = _ ++ [D.int ((fv - 1 : Nat) : Int), D.int (fv : Int)]
        rw [Int.ofNat_sub f1]
        rfl
      rw [el2]
      refine ⟨by omega, by omega, sort_nat fun m2 t1 t2 t3 p' hp' => ?_⟩
      have np : pc ≠ p' ∧ pe ≠ p' := ⟨fun e => (by rw [← e, r1] at hp'; cases hp'), fun e => (by rw [← e, r2] at hp'; cases hp')⟩
      refine law_k3 h'.a M (by rw [su_ne np.1]; exact r1) (by rw [su_ne np.2]; exact r2) su_same t1 (fun c hc => ?_) ((t3 _).mpr (List.mem_append_left _ p3'.a))
      rcases List.mem_append.mp ((t3 c).mp hc) with z | z
      · exact p2'.a c z
      · rcases List.mem_cons.mp z with z | z
        · omega
        · rw [List.mem_singleton.mp z]; exact f2
    · show if false = true then _ else _
      rw [if_neg Bool.false_ne_true]
      exact law_k3 h M q1 q2 su_same p1 p2 p3
end LW

set_option Elab.async false
set_option linter.all false
set_option maxRecDepth 100000
set_option maxHeartbeats 4000000
namespace LW
open PySem PySem.Spec L2 DL
local macro_rules | `(tactic| walk_at "dl") => `(tactic| simp -implicitDefEqProofs only [↓dSeq, ↓dIfS, ↓dTB, ↓dOp, ↓dVar, ↓dC, ↓dLt, ↓dLe, ↓dGt, ↓dGe, ↓rII, ↓rIIc, ↓dCB, ↓dCons, ↓dNil, ↓dLen, ↓dInt, ↓dRet, ↓dRetN, ↓dNext, ↓dIx, ↓dAt, ↓startD, List.map_cons, List.map_nil, List.cons_append, List.nil_append, List.append_nil, List.length_cons, List.length_nil, List.getElem?_cons_zero, List.getElem?_cons_succ, List.length_map, ↓dAsg, ↓dName, ↓dNew, ↓dLst, ↓dFor_k, ↓dRng1, ↓dRng2, ↓dCall_k, ↓dAdd, ↓dSub, ↓dMul, ↓dMod, ↓dFdiv, ↓dPow, ↓dEq, ↓dNe, ↓scd, ↓dIsN, ↓dNotN, ↓dIsB, ↓dNotB, ↓dUn, ↓dNeg, ↓dTru, ↓dTruS, ↓dAnd, ↓dOr, ↓dNot, ↓dNotV, ↓dAndV, ↓dOrV, ↓dIfE, ↓dTup, ↓dDrop, ↓dBM, ↓dBM0, ↓tyD, ↓dApp, ↓dSetL, ↓dAsL, ↓dOnL, ↓dOnN, ↓dIsi, ↓tyName, isT, ↓dBreak, ↓dCont, ↓dPar, ↓endsD, List.set_cons_zero, List.set_cons_succ, List.replicate_succ, List.replicate_zero, su_same, ↓dLc_k, ↓dWhile_k, ↓dWipe, ↓dYes, ↓dIt, ↓dItN, ↓dSlice, ↓dPart, ↓dNoP, ↓dCut, ↓dSliceE, ↓dIxL, ↓dChain, ↓dIn, ↓dNotIn, ↓dInS, ↓mS0, ↓mS1, ↓dSta, ↓dEnd, ↓dFind, ↓dIsasc, ↓dIsdig, ↓dIsalp, ↓dIsaln, ↓dIslow, ↓dIspri, ↓okT, ↓okU, ↓ok2, ↓dFind4, ↓dSplit, ↓dJoin, ↓dJoinT, ↓dMulS, ↓dCatL, ↓dCatE, ↓dCatR, ↓dCatEE, ↓dStar, ↓dIntS, ↓dStr, ↓dMax, ↓dMin, ↓dII, ↓dFld_m, ↓dSetF_m, ↓dMeth_m, ↓dMake_k, ↓dGtup, ↓dGcons, ↓dGnil, true_and, and_true, Nat.add_zero, reduceCtorEq, ↓reduceIte, Bool.not_true, Bool.not_false, Bool.false_eq_true, if_true, if_false])
local macro_rules | `(tactic| walk_at "dl*") => `(tactic| simp -implicitDefEqProofs only [*, ↓dSeq, ↓dIfS, ↓dTB, ↓dOp, ↓dVar, ↓dC, ↓dLt, ↓dLe, ↓dGt, ↓dGe, ↓rII, ↓rIIc, ↓dCB, ↓dCons, ↓dNil, ↓dLen, ↓dInt, ↓dRet, ↓dRetN, ↓dNext, ↓dIx, ↓dAt, ↓startD, List.map_cons, List.map_nil, List.cons_append, List.nil_append, List.append_nil, List.length_cons, List.length_nil, List.getElem?_cons_zero, List.getElem?_cons_succ, List.length_map, ↓dAsg, ↓dName, ↓dNew, ↓dLst, ↓dFor_k, ↓dRng1, ↓dRng2, ↓dCall_k, ↓dAdd, ↓dSub, ↓dMul, ↓dMod, ↓dFdiv, ↓dPow, ↓dEq, ↓dNe, ↓scd, ↓dIsN, ↓dNotN, ↓dIsB, ↓dNotB, ↓dUn, ↓dNeg, ↓dTru, ↓dTruS, ↓dAnd, ↓dOr, ↓dNot, ↓dNotV, ↓dAndV, ↓dOrV, ↓dIfE, ↓dTup, ↓dDrop, ↓dBM, ↓dBM0, ↓tyD, ↓dApp, ↓dSetL, ↓dAsL, ↓dOnL, ↓dOnN, ↓dIsi, ↓tyName, isT, ↓dBreak, ↓dCont, ↓dPar, ↓endsD, List.set_cons_zero, List.set_cons_succ, List.replicate_succ, List.replicate_zero, su_same, ↓dLc_k, ↓dWhile_k, ↓dWipe, ↓dYes, ↓dIt, ↓dItN, ↓dSlice, ↓dPart, ↓dNoP, ↓dCut, ↓dSliceE, ↓dIxL, ↓dChain, ↓dIn, ↓dNotIn, ↓dInS, ↓mS0, ↓mS1, ↓dSta, ↓dEnd, ↓dFind, ↓dIsasc, ↓dIsdig, ↓dIsalp, ↓dIsaln, ↓dIslow, ↓dIspri, ↓okT, ↓okU, ↓ok2, ↓dFind4, ↓dSplit, ↓dJoin, ↓dJoinT, ↓dMulS, ↓dCatL, ↓dCatE, ↓dCatR, ↓dCatEE, ↓dStar, ↓dIntS, ↓dStr, ↓dMax, ↓dMin, ↓dII, ↓dFld_m, ↓dSetF_m, ↓dMeth_m, ↓dMake_k, ↓dGtup, ↓dGcons, ↓dGnil, true_and, and_true, Nat.add_zero, reduceCtorEq, ↓reduceIte, Bool.not_true, Bool.not_false, Bool.false_eq_true, if_true, if_false])
local macro_rules | `(tactic| walk_at "dlf") => `(tactic| simp -implicitDefEqProofs only [*, lf_len', ↓lk_most, pf_most, ↓lk_text, pf_text, ↓lk_at, pf_at, ↓lk_words, pf_words, ↓lk_many, pf_many, ↓lk_faulty, pf_faulty, lm_fault, lm_hear_line, lm_hear_literal, lm_hear, lm_faulty_, su_same, strsOf_map, strsOf_snoc, at20, at21, ↓dSeq, ↓dIfS, ↓dTB, ↓dOp, ↓dVar, ↓dC, ↓dLt, ↓dLe, ↓dGt, ↓dGe, ↓rII, ↓rIIc, ↓dCB, ↓dCons, ↓dNil, ↓dLen, ↓dInt, ↓dRet, ↓dRetN, ↓dNext, ↓dIx, ↓dAt, ↓startD, List.map_cons, List.map_nil, List.cons_append, List.nil_append, List.append_nil, List.length_cons, List.length_nil, List.getElem?_cons_zero, List.getElem?_cons_succ, List.length_map, ↓dAsg, ↓dName, ↓dNew, ↓dLst, ↓dFor_k, ↓dRng1, ↓dRng2, ↓dCall_k, ↓dAdd, ↓dSub, ↓dMul, ↓dMod, ↓dFdiv, ↓dPow, ↓dEq, ↓dNe, ↓scd, ↓dIsN, ↓dNotN, ↓dIsB, ↓dNotB, ↓dUn, ↓dNeg, ↓dTru, ↓dTruS, ↓dAnd, ↓dOr, ↓dNot, ↓dNotV, ↓dAndV, ↓dOrV, ↓dIfE, ↓dTup, ↓dDrop, ↓dBM, ↓dBM0, ↓tyD, ↓dApp, ↓dSetL, ↓dAsL, ↓dOnL, ↓dOnN, ↓dIsi, ↓tyName, isT, ↓dBreak, ↓dCont, ↓dPar, ↓endsD, List.set_cons_zero, List.set_cons_succ, List.replicate_succ, List.replicate_zero, su_same, ↓dLc_k, ↓dWhile_k, ↓dWipe, ↓dYes, ↓dIt, ↓dItN, ↓dSlice, ↓dPart, ↓dNoP, ↓dCut, ↓dSliceE, ↓dIxL, ↓dChain, ↓dIn, ↓dNotIn, ↓dInS, ↓mS0, ↓mS1, ↓dSta, ↓dEnd, ↓dFind, ↓dIsasc, ↓dIsdig, ↓dIsalp, ↓dIsaln, ↓dIslow, ↓dIspri, ↓okT, ↓okU, ↓ok2, ↓dFind4, ↓dSplit, ↓dJoin, ↓dJoinT, ↓dMulS, ↓dCatL, ↓dCatE, ↓dCatR, ↓dCatEE, ↓dStar, ↓dIntS, ↓dStr, ↓dMax, ↓dMin, ↓dII, ↓dFld_m, ↓dSetF_m, ↓dMeth_m, ↓dMake_k, ↓dGtup, ↓dGcons, ↓dGnil, true_and, and_true, Nat.add_zero, reduceCtorEq, ↓reduceIte, Bool.not_true, Bool.not_false, Bool.false_eq_true, if_true, if_false])
variable {C : Nat → Addr}
theorem law_k1 {Q : QD} (h : Q (.bl true) (fun _ => none)) {m : Nat} {cs : List Cmd} (hm0 : 20 ≤ m) (hm1 : m < 50) (cg : ∀ c ∈ cs, Cg c) (le : cs.length ≤ 6) {x0 x4 : Option D} {b pc pe : Addr} {S : Sh}
    (hbx : Box S b) (nb : pc ≠ b ∧ pe ≠ b) (hpc : S pc = some (.lst (cs.map cD))) (hpe : S pe = some (.lst ((en 0 cs).map D.int))) :
    lawK1 C (endsD Q) [x0, some (.rf b), some (.int m), some (.rf pc), x4, none, none, none, none, none, some (.rf pe), some (.str (sgs cs)), none, none, none, none] S := by
  have sz : (1000000 : Nat) ≤ sizeLine := by rw [sizeLine_eq]; omega
  have sl := sgs_le cg
  have h' := Hd.mk h
  clear h
  unfold lawK1
  walk_at "dlf"
  refine ⟨b, 3, rfl, by decide, hbx, fun r S1 r0 r1 b1 => ?_⟩
  have q1 := (b1.2 pc nb.1).trans hpc
  have q2 := (b1.2 pe nb.2).trans hpe
  walk_at "dlf"
  refine ifb (fun hr => ?_) fun hr => ?_
  · refine ⟨b, m, rfl, hm0, hm1, b1.1, fun S2 pw wr f b2 hpw hB f1 f2 wl => ?_⟩
    have q3 := (b2.2 pc nb.1).trans q1
    have q4 := (b2.2 pe nb.2).trans q2
    walk_at "dlf"
    have np : pc ≠ pw ∧ pe ≠ pw := ⟨fun e => (by rw [← e, q3] at hpw; cases hpw), fun e => (by rw [← e, q4] at hpw; cases hpw)⟩
    refine ⟨by omega, by omega, by omega, b, 4, rfl, by decide, b2.1.new hpw, fun z S3 z0 z1 b3 => ?_⟩
    have r1 := (b3.2 pc nb.1).trans ((su_ne np.1).trans q3)
    have r2 := (b3.2 pe nb.2).trans ((su_ne np.2).trans q4)
    have key : ∀ t : List Nat, t.length ≤ 5 → (sgs cs ++ wr).length + t.length ≤ sizeLine ∧ lawK2 C (endsD Q) [x0, some (D.rf b), some (D.int m), some (D.rf pc), x4, some (D.int ((sgs cs).length + f)), none, none, none, none, some (D.rf pe), some (D.str ((sgs cs ++ wr) ++ t)), some (D.rf pw), none, none, none] S3 := fun t ht => by
      refine ⟨by rw [List.length_append]; omega, ?_⟩
      rw [List.append_assoc]
      exact law_k2 h'.a ⟨hm0, cg, le, hB t, .inr ⟨rfl, f1, by rw [List.length_append]; omega⟩, by rw [List.length_append]; omega⟩ b3.1 nb r1 r2
    have hz : z = 0 ∨ z = 1 ∨ z = 2 ∨ z = 3 := by omega
    rcases hz with rfl | rfl | rfl | rfl
    · exact key [] (by decide)
    · exact key [10] (by decide)
    · exact key [98, 121, 101, 10] (by decide)
    · exact key [100, 111, 32, 49, 10] (by decide)
  · have := law_k2 (C := C) h'.a (m := m) (cs := cs) (W := []) (F := 1) (Fv := -1) (x0 := x0) (x4 := x4) (x12 := none) (b := b) (pc := pc) (pe := pe) (S := S1) ⟨hm0, cg, le, .none, .inl ⟨rfl, rfl, rfl⟩, Nat.zero_le _⟩ b1.1 nb q1 q2
    rw [List.append_nil] at this
    exact this
theorem all_cmd : ∀ {ds : List D}, (∀ d ∈ ds, ∃ c, d = cD c ∧ Cg c) → ∃ cs : List Cmd, ds = cs.map cD ∧ ∀ c ∈ cs, Cg c
  | [], _ => ⟨[], rfl, fun w hw => absurd hw (List.not_mem_nil)⟩
  | d :: ds, h => by
    obtain ⟨s, rfl, hs⟩ := h d (List.mem_cons_self ..)
    obtain ⟨ws, rfl, hw⟩ := all_cmd (ds := ds) fun d hd => h d (List.mem_cons_of_mem _ hd)
    exact ⟨s :: ws, rfl, fun w hw' => by
      rcases List.mem_cons.mp hw' with rfl | z
      · exact hs
      · exact hw w z⟩
theorem ok_law : ∀ ds S Q, ds.length = 1 → sp_law ds S Q → rd_law C (endsD Q) (startD N_law ds) S := by
  rintro ds S Q - ⟨⟨ns, rfl, hns⟩, h⟩
  have sz : (1000000 : Nat) ≤ sizeLine := by rw [sizeLine_eq]; omega
  rw [law_cut]
  have h' := Hd.mk h
  clear h
  show dSeq _ _ (endsD Q) [some (.frz (ns.map D.int)), none, none, none, none, none, none, none, none, none, none, none, none, none, none, none] S
  walk_at "dlf"
  refine ⟨ns, rfl, fun gs pd hg hpd => ?_⟩
  walk_at "dlf"
  refine ⟨by omega, fun b hb => ?_⟩
  have nd : pd ≠ b := fun e => by rw [e, su_same] at hb; cases hb
  have hbx : Box (su (su S pd (.lst (gs.map D.int))) b (.lst [.rf pd, .int 0])) b := ⟨pd, gs, 0, su_same, by rw [su_ne nd, su_same], hg, Int.le_refl _, nd⟩
  refine ⟨b, 30, rfl, by decide, hbx, fun r S1 r0 r1 b1 => ?_⟩
  obtain ⟨m, hm⟩ : ∃ m : Nat, 20 + r = (m : Int) := ⟨(20 + r).toNat, by omega⟩
  walk_at "dlf"
  refine ⟨b, 7, rfl, by decide, b1.1, fun k S2 k0 k1 b2 => ?_⟩
  walk_at "dlf"
  refine ⟨by omega, by omega, ?_⟩
  refine comp_all (fun d => ∃ c, d = cD c ∧ Cg c) (Bx b S1) (fun _ _ => trivial) (fun xs x hx S3 b3 R hR => ?_) _ [] S2 b2 (fun d hd => absurd hd List.not_mem_nil) (by rw [rng_len]; simp; omega) fun ds S3 hl hd b3 => ?_
  · walk_at "dlf"
    refine ⟨b, rfl, b3.1, fun c S4 hc b4 => hR _ S4 ⟨c, rfl, hc⟩ (b3.trans b4)⟩
  obtain ⟨cs, rfl, cg⟩ := all_cmd hd
  rw [List.length_map, rng_len, List.length_nil] at hl
  have le : cs.length ≤ 6 := by omega
  intro pc hpc
  refine ⟨by omega, fun pe hpe => ⟨by omega, rfl, ?_⟩⟩
  obtain ⟨o, ho⟩ := b3.1.at
  have n1 : pc ≠ b := fun e => by rw [e, ho] at hpc; cases hpc
  have n2 : pc ≠ pe := fun e => by rw [← e, su_same] at hpe; cases hpe
  have n3 : pe ≠ b := fun e => by rw [e, su_ne (Ne.symm n1), ho] at hpe; cases hpe
  have e1 : ∀ o, su (su S3 pc (.lst (cs.map cD))) pe o pc = some (.lst (cs.map cD)) := fun o => by rw [su_ne n2, su_same]
  have hpe' : su S3 pc (.lst (cs.map cD)) pe = none := hpe
  rw [e1]
  refine loop_inv (fun rest δ S' => ∃ (dn td : List Cmd) (x4 : Option D), cs = dn ++ td ∧ rest = td.map cD ∧ δ = [some (.frz (ns.map D.int)), some (.rf b), some (.int (20 + r)), some (.rf pc), x4, none, none, none, none, none, some (.rf pe), some (.str (sgs dn)), none, none, none, none] ∧
    S' = su (su S3 pc (.lst (cs.map cD))) pe (.lst ((en 0 dn).map D.int))) ?_ ?_ ?_ _ _ _ ⟨[], cs, none, rfl, rfl, rfl, rfl⟩
  · rintro x xs δ S' N ⟨dn, td, x4, q1, q2, rfl, rfl⟩ hN
    cases td with
    | nil => cases q2
    | cons c td =>
      injection q2 with q2 q2'
      subst q2
      subst q2'
      obtain ⟨ws, l⟩ := c
      have hc : Cg (ws, l) := cg _ (by rw [q1]; exact List.mem_append_right _ (List.mem_cons_self ..))
      have hN' := Hd.mk hN
      have q1' := Hd.mk q1
      have ce : cD (ws, l) = .tup [sD ws, lD l] := rfl
      have la : (sgs dn).length ≤ 1200 := by
        have := sgs_le (cs := dn) fun c hc => cg c (by rw [q1]; exact List.mem_append_left _ hc)
        have := congrArg List.length q1
        rw [List.length_append, List.length_cons] at this
        omega
      have sl := sg_le hc
      clear hN q1 hd
      walk_at "dlf"
      refine ⟨(ws, l), hc, rfl, rfl, (ws, l), hc, rfl, rfl, ?_⟩
      refine same_str ?_
      refine ⟨rfl, (ws, l), hc, rfl, ?_⟩
      have ep : su (su S3 pc (MO.lst (List.map cD cs))) pe (MO.lst (List.map D.int (en 0 dn))) pe = some (.lst ((en 0 dn).map D.int)) := su_same
      have eT : sgs (dn ++ [(ws, l)]) = sgs dn ++ sg (ws, l) := by rw [sgs_app]; show _ ++ (sg (ws, l) ++ []) = _; rw [List.append_nil]
      have eE : (en 0 dn).map D.int ++ [D.int ((sgs dn ++ sg (ws, l)).length : Nat)] = (en 0 (dn ++ [(ws, l)])).map D.int := by rw [en_snoc, eT, Nat.zero_add, List.map_append]; rfl
      have ll : ((en 0 dn).map D.int).length ≤ 6 := by
        have := congrArg List.length q1'.a
        rw [List.length_append, List.length_cons] at this
        rw [List.length_map, en_len]; omega
      have lb : (sgs dn ++ sg (ws, l)).length ≤ 1400 := by rw [List.length_append]; omega
      show _ ≤ _ ∧ (_ ∧ ∃ ds, su (su S3 pc (MO.lst (List.map cD cs))) pe (MO.lst (List.map D.int (en 0 dn))) pe = some (.lst ds)) ∧ _
      rw [ep]
      refine ⟨by rw [List.length_append] at lb; omega, ⟨rfl, _, rfl⟩, by omega, by omega, ?_⟩
      rw [eE]
      refine hN'.a _ _ ⟨dn ++ [(ws, l)], td, _, by rw [q1'.a, List.append_assoc]; rfl, rfl, by rw [eT], ?_⟩
      rw [su_su]
  · rintro xs δ S' ⟨dn, td, x4, q1, q2, rfl, rfl⟩
    exact e1 _
  · rintro δ S' ⟨dn, td, x4, q1, q2, rfl, rfl⟩
    cases td with
    | cons c td => cases q2
    | nil =>
      rw [List.append_nil] at q1
      subst q1
      rw [hm]
      dsimp only
      exact law_k1 (Q := Q) h'.a (by omega) (by omega) cg le (Box.new (Box.new b3.1 hpc) hpe') ⟨n1, n3⟩ (e1 _) su_same
end LW

set_option Elab.async false
set_option linter.all false
set_option maxRecDepth 100000
set_option maxHeartbeats 4000000

namespace LW
open PySem PySem.Spec L2 DL PyProof.Rows

section
variable {P : Program} {w : World} {K : PySem.W.Frag} {mg : Str → Option Value} {base : Heap} {F : Nat → Addr} {D : Nat → FuncData} {C : Nat → Addr}
theorem fn_ListenerU_initU (T : Tx K mg F D C) : FnOk P w K mg base CX0 1 (F 0) (D 0) P_ListenerU_initU (lift K 2 (sp_ListenerU_initU (C 0))) :=
  fn_lift T.d_ListenerU_initU.fn sc_ListenerU_initU (fun _ _ _ _ _ _ hr => dv_ListenerU_initU T  hr) ok_ListenerU_initU
theorem fn_Listener_hear (T : Tx K mg F D C) (G_ListenerUhear_line : FnOk P w K mg base CX0 3 (F 4) (D 4) P_ListenerUhear_line (lift K 2 (sp_ListenerUhear_line (C 0)))) (G_ListenerUhear_literal : FnOk P w K mg base CX0 2 (F 5) (D 5) P_ListenerUhear_literal (lift K 2 (sp_ListenerUhear_literal (C 0)))) : FnOk P w K mg base CX0 4 (F 1) (D 1) P_Listener_hear (lift K 2 (sp_Listener_hear (C 0))) :=
  fn_lift T.d_Listener_hear.fn sc_Listener_hear (fun _ _ _ _ _ _ hr => dv_Listener_hear T G_ListenerUhear_line G_ListenerUhear_literal hr) ok_Listener_hear
theorem fn_Listener_faulty (T : Tx K mg F D C) : FnOk P w K mg base CX0 1 (F 2) (D 2) P_Listener_faulty (lift K 1 (sp_Listener_faulty (C 0))) :=
  fn_lift T.d_Listener_faulty.fn sc_Listener_faulty (fun _ _ _ _ _ _ hr => dv_Listener_faulty T  hr) ok_Listener_faulty
theorem fn_ListenerUfault (T : Tx K mg F D C) : FnOk P w K mg base CX0 1 (F 3) (D 3) P_ListenerUfault (lift K 1 (sp_ListenerUfault (C 0))) :=
  fn_lift T.d_ListenerUfault.fn sc_ListenerUfault (fun _ _ _ _ _ _ hr => dv_ListenerUfault T  hr) ok_ListenerUfault
theorem fn_ListenerUhear_line (T : Tx K mg F D C) (G_ListenerUfault : FnOk P w K mg base CX0 1 (F 3) (D 3) P_ListenerUfault (lift K 1 (sp_ListenerUfault (C 0)))) (G_read_length : FnOk P w K mg base CX0 2 (F 6) (D 6) P_read_length (lift K 1 sp_read_length)) : FnOk P w K mg base CX0 3 (F 4) (D 4) P_ListenerUhear_line (lift K 2 (sp_ListenerUhear_line (C 0))) :=
  fn_lift T.d_ListenerUhear_line.fn sc_ListenerUhear_line (fun _ _ _ _ _ _ hr => dv_ListenerUhear_line T G_ListenerUfault G_read_length hr) ok_ListenerUhear_line
theorem fn_ListenerUhear_literal (T : Tx K mg F D C) (G_ListenerUfault : FnOk P w K mg base CX0 1 (F 3) (D 3) P_ListenerUfault (lift K 1 (sp_ListenerUfault (C 0)))) : FnOk P w K mg base CX0 2 (F 5) (D 5) P_ListenerUhear_literal (lift K 2 (sp_ListenerUhear_literal (C 0))) :=
  fn_lift T.d_ListenerUhear_literal.fn sc_ListenerUhear_literal (fun _ _ _ _ _ _ hr => dv_ListenerUhear_literal T G_ListenerUfault hr) ok_ListenerUhear_literal
theorem fn_read_length (T : Tx K mg F D C) (G_read_number : FnOk P w K mg base CX0 1 (F 7) (D 7) P_read_number (lift K 1 sp_read_number)) : FnOk P w K mg base CX0 2 (F 6) (D 6) P_read_length (lift K 1 sp_read_length) :=
  fn_lift T.d_read_length.fn sc_read_length (fun _ _ _ _ _ _ hr => dv_read_length T G_read_number hr) ok_read_length
theorem fn_read_number (T : Tx K mg F D C) : FnOk P w K mg base CX0 1 (F 7) (D 7) P_read_number (lift K 1 sp_read_number) :=
  fn_lift T.d_read_number.fn sc_read_number (fun _ _ _ _ _ _ hr => dv_read_number T  hr) ok_read_number
theorem fn_say (T : Tx K mg F D C) : FnOk P w K mg base CX0 1 (F 8) (D 8) P_say (lift K 2 sp_say) :=
  fn_lift T.d_say.fn sc_say (fun _ _ _ _ _ _ hr => dv_say T  hr) ok_say
theorem fn_llaw_cell (T : Tx K mg F D C) : FnOk P w K mg base CX0 1 (F 9) (D 9) P_llaw_cell (lift K 2 sp_llaw_cell) :=
  fn_lift T.d_llaw_cell.fn sc_llaw_cell (fun _ _ _ _ _ _ hr => dv_llaw_cell T  hr) ok_llaw_cell
theorem fn_llaw_digits (T : Tx K mg F D C) (G_llaw_cell : FnOk P w K mg base CX0 1 (F 9) (D 9) P_llaw_cell (lift K 2 sp_llaw_cell)) : FnOk P w K mg base CX0 2 (F 10) (D 10) P_llaw_digits (lift K 3 sp_llaw_digits) :=
  fn_lift T.d_llaw_digits.fn sc_llaw_digits (fun _ _ _ _ _ _ hr => dv_llaw_digits T G_llaw_cell hr) ok_llaw_digits
theorem fn_llaw_draw (T : Tx K mg F D C) : FnOk P w K mg base CX0 1 (F 11) (D 11) P_llaw_draw (lift K 2 sp_llaw_draw) :=
  fn_lift T.d_llaw_draw.fn sc_llaw_draw (fun _ _ _ _ _ _ hr => dv_llaw_draw T  hr) ok_llaw_draw
theorem fn_llaw_command (T : Tx K mg F D C) (G_llaw_draw : FnOk P w K mg base CX0 1 (F 11) (D 11) P_llaw_draw (lift K 2 sp_llaw_draw)) : FnOk P w K mg base CX0 2 (F 13) (D 13) P_llaw_command (lift K 1 sp_llaw_command) :=
  fn_lift T.d_llaw_command.fn sc_llaw_command (fun _ _ _ _ _ _ hr => dv_llaw_command T G_llaw_draw hr) ok_llaw_command
theorem fn_llaw_signs (T : Tx K mg F D C) : FnOk P w K mg base CX0 1 (F 14) (D 14) P_llaw_signs (lift K 1 sp_llaw_signs) :=
  fn_lift T.d_llaw_signs.fn sc_llaw_signs (fun _ _ _ _ _ _ hr => dv_llaw_signs T  hr) ok_llaw_signs
theorem fn_llaw_wrong (T : Tx K mg F D C) (G_llaw_draw : FnOk P w K mg base CX0 1 (F 11) (D 11) P_llaw_draw (lift K 2 sp_llaw_draw)) : FnOk P w K mg base CX0 2 (F 15) (D 15) P_llaw_wrong (lift K 2 sp_llaw_wrong) :=
  fn_lift T.d_llaw_wrong.fn sc_llaw_wrong (fun _ _ _ _ _ _ hr => dv_llaw_wrong T G_llaw_draw hr) ok_llaw_wrong
theorem fn_law (T : Tx K mg F D C) (G_ListenerU_initU : FnOk P w K mg base CX0 1 (F 0) (D 0) P_ListenerU_initU (lift K 2 (sp_ListenerU_initU (C 0)))) (G_Listener_hear : FnOk P w K mg base CX0 4 (F 1) (D 1) P_Listener_hear (lift K 2 (sp_Listener_hear (C 0)))) (G_Listener_faulty : FnOk P w K mg base CX0 1 (F 2) (D 2) P_Listener_faulty (lift K 1 (sp_Listener_faulty (C 0)))) (G_say : FnOk P w K mg base CX0 1 (F 8) (D 8) P_say (lift K 2 sp_say)) (G_llaw_digits : FnOk P w K mg base CX0 2 (F 10) (D 10) P_llaw_digits (lift K 3 sp_llaw_digits)) (G_llaw_draw : FnOk P w K mg base CX0 1 (F 11) (D 11) P_llaw_draw (lift K 2 sp_llaw_draw)) (G_llaw_same : FnOk P w K mg base CX0 4 (F 12) (D 12) P_llaw_same (lift K 2 (sp_same 4))) (G_llaw_command : FnOk P w K mg base CX0 2 (F 13) (D 13) P_llaw_command (lift K 1 sp_llaw_command)) (G_llaw_signs : FnOk P w K mg base CX0 1 (F 14) (D 14) P_llaw_signs (lift K 1 sp_llaw_signs)) (G_llaw_wrong : FnOk P w K mg base CX0 2 (F 15) (D 15) P_llaw_wrong (lift K 2 sp_llaw_wrong)) : FnOk P w K mg base CX0 5 (F 16) (D 16) P_law (lift K 1 sp_law) :=
  fn_lift T.d_law.fn sc_law (fun _ _ _ _ _ _ hr => dv_law T G_ListenerU_initU G_Listener_hear G_Listener_faulty G_say G_llaw_digits G_llaw_draw G_llaw_same G_llaw_command G_llaw_signs G_llaw_wrong hr) ok_law
theorem fn_same (T : Tx K mg F D C) : ∀ n, FnOk P w K mg base CX0 n (F 12) (D 12) P_llaw_same (lift K 2 (sp_same n))
  | 0 => fn_none (sp_same 0) fun ds S Q q => by
    obtain ⟨a, d, _, _, _, _, h, _⟩ := q
    exact absurd h (Nat.not_lt_zero _)
  | n + 1 => fn_lift T.d_llaw_same.fn sc_llaw_same (fun _ _ _ _ _ _ hr => dv_llaw_same n T (fn_same T n) hr) (ok_same n)

theorem all_fn (T : Tx K mg F D C) : FnOk P w K mg base CX0 5 (F 16) (D 16) P_law (lift K 1 sp_law) := by
  have G_ListenerU_initU := fn_ListenerU_initU (P := P) (w := w) (base := base) T 
  have G_ListenerUfault := fn_ListenerUfault (P := P) (w := w) (base := base) T 
  have G_read_number := fn_read_number (P := P) (w := w) (base := base) T 
  have G_read_length := fn_read_length (P := P) (w := w) (base := base) T G_read_number
  have G_ListenerUhear_line := fn_ListenerUhear_line (P := P) (w := w) (base := base) T G_ListenerUfault G_read_length
  have G_ListenerUhear_literal := fn_ListenerUhear_literal (P := P) (w := w) (base := base) T G_ListenerUfault
  have G_Listener_hear := fn_Listener_hear (P := P) (w := w) (base := base) T G_ListenerUhear_line G_ListenerUhear_literal
  have G_Listener_faulty := fn_Listener_faulty (P := P) (w := w) (base := base) T 
  have G_say := fn_say (P := P) (w := w) (base := base) T 
  have G_llaw_cell := fn_llaw_cell (P := P) (w := w) (base := base) T 
  have G_llaw_digits := fn_llaw_digits (P := P) (w := w) (base := base) T G_llaw_cell
  have G_llaw_draw := fn_llaw_draw (P := P) (w := w) (base := base) T 
  have G_llaw_same := fn_same (P := P) (w := w) (base := base) T 4
  have G_llaw_command := fn_llaw_command (P := P) (w := w) (base := base) T G_llaw_draw
  have G_llaw_signs := fn_llaw_signs (P := P) (w := w) (base := base) T 
  have G_llaw_wrong := fn_llaw_wrong (P := P) (w := w) (base := base) T G_llaw_draw
  have G_law := fn_law (P := P) (w := w) (base := base) T G_ListenerU_initU G_Listener_hear G_Listener_faulty G_say G_llaw_digits G_llaw_draw G_llaw_same G_llaw_command G_llaw_signs G_llaw_wrong
  exact G_law
end
theorem all_mk {l : PySem.W.OpenLaw} {w : World} {K : PySem.W.Frag} {h : Heap} {mg : Str → Option Value} {fa : Addr} (X : K.In h) (G : h.Ns mainGlobals mg) (hfa : mg "law" = some (.ref fa))
    {f0 : Addr} {od0 an0 : Option Addr} {sl0 : Array (Option Value)} {oc0 kV0 dc0 pm0 cd0 ct0 : Value}
    {f1 : Addr} {od1 an1 : Option Addr} {sl1 : Array (Option Value)} {oc1 kV1 dc1 pm1 cd1 ct1 : Value}
    {f2 : Addr} {od2 an2 : Option Addr} {sl2 : Array (Option Value)} {oc2 kV2 dc2 pm2 cd2 ct2 : Value}
    {f3 : Addr} {od3 an3 : Option Addr} {sl3 : Array (Option Value)} {oc3 kV3 dc3 pm3 cd3 ct3 : Value}
    {f4 : Addr} {od4 an4 : Option Addr} {sl4 : Array (Option Value)} {oc4 kV4 dc4 pm4 cd4 ct4 : Value}
    {f5 : Addr} {od5 an5 : Option Addr} {sl5 : Array (Option Value)} {oc5 kV5 dc5 pm5 cd5 ct5 : Value}
    {f6 : Addr} {od6 an6 : Option Addr} {sl6 : Array (Option Value)} {oc6 kV6 dc6 pm6 cd6 ct6 : Value}
    {f7 : Addr} {od7 an7 : Option Addr} {sl7 : Array (Option Value)} {oc7 kV7 dc7 pm7 cd7 ct7 : Value}
    {f8 : Addr} {od8 an8 : Option Addr} {sl8 : Array (Option Value)} {oc8 kV8 dc8 pm8 cd8 ct8 : Value}
    {f9 : Addr} {od9 an9 : Option Addr} {sl9 : Array (Option Value)} {oc9 kV9 dc9 pm9 cd9 ct9 : Value}
    {f10 : Addr} {od10 an10 : Option Addr} {sl10 : Array (Option Value)} {oc10 kV10 dc10 pm10 cd10 ct10 : Value}
    {f11 : Addr} {od11 an11 : Option Addr} {sl11 : Array (Option Value)} {oc11 kV11 dc11 pm11 cd11 ct11 : Value}
    {f12 : Addr} {od12 an12 : Option Addr} {sl12 : Array (Option Value)} {oc12 kV12 dc12 pm12 cd12 ct12 : Value}
    {f13 : Addr} {od13 an13 : Option Addr} {sl13 : Array (Option Value)} {oc13 kV13 dc13 pm13 cd13 ct13 : Value}
    {f14 : Addr} {od14 an14 : Option Addr} {sl14 : Array (Option Value)} {oc14 kV14 dc14 pm14 cd14 ct14 : Value}
    {f15 : Addr} {od15 an15 : Option Addr} {sl15 : Array (Option Value)} {oc15 kV15 dc15 pm15 cd15 ct15 : Value}
    {f16 : Addr} {od16 an16 : Option Addr} {sl16 : Array (Option Value)} {oc16 kV16 dc16 pm16 cd16 ct16 : Value}
    {C0 : Addr}
    {tML : Tok}
    (aC0 : PySem.W.nsIn K mainGlobals "Listener" = some (some (.ref C0)))
    (a0 : PySem.W.findIn K (.ref C0) "__init__" = some (some (.ref f0)))
    (i0 : PySem.W.isFn K (.ref f0) = true)
    (l0 : K.lookup f0 = some ⟨oc0, od0, .func (PySem.W.fnOf "__init__" "Listener.__init__" (defArgs s_ListenerU_initU) (defBody s_ListenerU_initU) (defScope s_ListenerU_initU) .none kV0 dc0 pm0 an0 cd0 ct0), sl0⟩)
    (c0 : PySem.W.codeIn K cd0 "Listener.__init__" = true)
    (k0 : PySem.W.keepIn K (.ref f0) = true)
    (a1 : PySem.W.findIn K (.ref C0) "hear" = some (some (.ref f1)))
    (i1 : PySem.W.isFn K (.ref f1) = true)
    (l1 : K.lookup f1 = some ⟨oc1, od1, .func (PySem.W.fnOf "hear" "Listener.hear" (defArgs s_Listener_hear) (defBody s_Listener_hear) (defScope s_Listener_hear) .none kV1 dc1 pm1 an1 cd1 ct1), sl1⟩)
    (c1 : PySem.W.codeIn K cd1 "Listener.hear" = true)
    (k1 : PySem.W.keepIn K (.ref f1) = true)
    (a2 : PySem.W.findIn K (.ref C0) "faulty" = some (some (.ref f2)))
    (i2 : PySem.W.isFn K (.ref f2) = true)
    (l2 : K.lookup f2 = some ⟨oc2, od2, .func (PySem.W.fnOf "faulty" "Listener.faulty" (defArgs s_Listener_faulty) (defBody s_Listener_faulty) (defScope s_Listener_faulty) .none kV2 dc2 pm2 an2 cd2 ct2), sl2⟩)
    (c2 : PySem.W.codeIn K cd2 "Listener.faulty" = true)
    (k2 : PySem.W.keepIn K (.ref f2) = true)
    (a3 : PySem.W.findIn K (.ref C0) "_fault" = some (some (.ref f3)))
    (i3 : PySem.W.isFn K (.ref f3) = true)
    (l3 : K.lookup f3 = some ⟨oc3, od3, .func (PySem.W.fnOf "_fault" "Listener._fault" (defArgs s_ListenerUfault) (defBody s_ListenerUfault) (defScope s_ListenerUfault) .none kV3 dc3 pm3 an3 cd3 ct3), sl3⟩)
    (c3 : PySem.W.codeIn K cd3 "Listener._fault" = true)
    (k3 : PySem.W.keepIn K (.ref f3) = true)
    (a4 : PySem.W.findIn K (.ref C0) "_hear_line" = some (some (.ref f4)))
    (i4 : PySem.W.isFn K (.ref f4) = true)
    (l4 : K.lookup f4 = some ⟨oc4, od4, .func (PySem.W.fnOf "_hear_line" "Listener._hear_line" (defArgs s_ListenerUhear_line) (defBody s_ListenerUhear_line) (defScope s_ListenerUhear_line) .none kV4 dc4 pm4 an4 cd4 ct4), sl4⟩)
    (c4 : PySem.W.codeIn K cd4 "Listener._hear_line" = true)
    (k4 : PySem.W.keepIn K (.ref f4) = true)
    (a5 : PySem.W.findIn K (.ref C0) "_hear_literal" = some (some (.ref f5)))
    (i5 : PySem.W.isFn K (.ref f5) = true)
    (l5 : K.lookup f5 = some ⟨oc5, od5, .func (PySem.W.fnOf "_hear_literal" "Listener._hear_literal" (defArgs s_ListenerUhear_literal) (defBody s_ListenerUhear_literal) (defScope s_ListenerUhear_literal) .none kV5 dc5 pm5 an5 cd5 ct5), sl5⟩)
    (c5 : PySem.W.codeIn K cd5 "Listener._hear_literal" = true)
    (k5 : PySem.W.keepIn K (.ref f5) = true)
    (a6 : PySem.W.nsIn K mainGlobals "read_length" = some (some (.ref f6)))
    (l6 : K.lookup f6 = some ⟨oc6, od6, .func (PySem.W.fnOf "read_length" "read_length" (defArgs s_read_length) (defBody s_read_length) (defScope s_read_length) .none kV6 dc6 pm6 an6 cd6 ct6), sl6⟩)
    (c6 : PySem.W.codeIn K cd6 "read_length" = true)
    (k6 : PySem.W.keepIn K (.ref f6) = true)
    (a7 : PySem.W.nsIn K mainGlobals "read_number" = some (some (.ref f7)))
    (l7 : K.lookup f7 = some ⟨oc7, od7, .func (PySem.W.fnOf "read_number" "read_number" (defArgs s_read_number) (defBody s_read_number) (defScope s_read_number) .none kV7 dc7 pm7 an7 cd7 ct7), sl7⟩)
    (c7 : PySem.W.codeIn K cd7 "read_number" = true)
    (k7 : PySem.W.keepIn K (.ref f7) = true)
    (a8 : PySem.W.nsIn K mainGlobals "say" = some (some (.ref f8)))
    (l8 : K.lookup f8 = some ⟨oc8, od8, .func (PySem.W.fnOf "say" "say" (defArgs s_say) (defBody s_say) (defScope s_say) .none kV8 dc8 pm8 an8 cd8 ct8), sl8⟩)
    (c8 : PySem.W.codeIn K cd8 "say" = true)
    (k8 : PySem.W.keepIn K (.ref f8) = true)
    (a9 : PySem.W.nsIn K mainGlobals "_law_cell" = some (some (.ref f9)))
    (l9 : K.lookup f9 = some ⟨oc9, od9, .func (PySem.W.fnOf "_law_cell" "_law_cell" (defArgs s_llaw_cell) (defBody s_llaw_cell) (defScope s_llaw_cell) .none kV9 dc9 pm9 an9 cd9 ct9), sl9⟩)
    (c9 : PySem.W.codeIn K cd9 "_law_cell" = true)
    (k9 : PySem.W.keepIn K (.ref f9) = true)
    (a10 : PySem.W.nsIn K mainGlobals "_law_digits" = some (some (.ref f10)))
    (l10 : K.lookup f10 = some ⟨oc10, od10, .func (PySem.W.fnOf "_law_digits" "_law_digits" (defArgs s_llaw_digits) (defBody s_llaw_digits) (defScope s_llaw_digits) .none kV10 dc10 pm10 an10 cd10 ct10), sl10⟩)
    (c10 : PySem.W.codeIn K cd10 "_law_digits" = true)
    (k10 : PySem.W.keepIn K (.ref f10) = true)
    (a11 : PySem.W.nsIn K mainGlobals "_law_draw" = some (some (.ref f11)))
    (l11 : K.lookup f11 = some ⟨oc11, od11, .func (PySem.W.fnOf "_law_draw" "_law_draw" (defArgs s_llaw_draw) (defBody s_llaw_draw) (defScope s_llaw_draw) .none kV11 dc11 pm11 an11 cd11 ct11), sl11⟩)
    (c11 : PySem.W.codeIn K cd11 "_law_draw" = true)
    (k11 : PySem.W.keepIn K (.ref f11) = true)
    (a12 : PySem.W.nsIn K mainGlobals "_law_same" = some (some (.ref f12)))
    (l12 : K.lookup f12 = some ⟨oc12, od12, .func (PySem.W.fnOf "_law_same" "_law_same" (defArgs s_llaw_same) (defBody s_llaw_same) (defScope s_llaw_same) .none kV12 dc12 pm12 an12 cd12 ct12), sl12⟩)
    (c12 : PySem.W.codeIn K cd12 "_law_same" = true)
    (k12 : PySem.W.keepIn K (.ref f12) = true)
    (a13 : PySem.W.nsIn K mainGlobals "_law_command" = some (some (.ref f13)))
    (l13 : K.lookup f13 = some ⟨oc13, od13, .func (PySem.W.fnOf "_law_command" "_law_command" (defArgs s_llaw_command) (defBody s_llaw_command) (defScope s_llaw_command) .none kV13 dc13 pm13 an13 cd13 ct13), sl13⟩)
    (c13 : PySem.W.codeIn K cd13 "_law_command" = true)
    (k13 : PySem.W.keepIn K (.ref f13) = true)
    (a14 : PySem.W.nsIn K mainGlobals "_law_signs" = some (some (.ref f14)))
    (l14 : K.lookup f14 = some ⟨oc14, od14, .func (PySem.W.fnOf "_law_signs" "_law_signs" (defArgs s_llaw_signs) (defBody s_llaw_signs) (defScope s_llaw_signs) .none kV14 dc14 pm14 an14 cd14 ct14), sl14⟩)
    (c14 : PySem.W.codeIn K cd14 "_law_signs" = true)
    (k14 : PySem.W.keepIn K (.ref f14) = true)
    (a15 : PySem.W.nsIn K mainGlobals "_law_wrong" = some (some (.ref f15)))
    (l15 : K.lookup f15 = some ⟨oc15, od15, .func (PySem.W.fnOf "_law_wrong" "_law_wrong" (defArgs s_llaw_wrong) (defBody s_llaw_wrong) (defScope s_llaw_wrong) .none kV15 dc15 pm15 an15 cd15 ct15), sl15⟩)
    (c15 : PySem.W.codeIn K cd15 "_law_wrong" = true)
    (k15 : PySem.W.keepIn K (.ref f15) = true)
    (a16 : PySem.W.nsIn K mainGlobals "law" = some (some (.ref f16)))
    (l16 : K.lookup f16 = some ⟨oc16, od16, .func (PySem.W.fnOf "law" "law" (defArgs s_law) (defBody s_law) (defScope s_law) .none kV16 dc16 pm16 an16 cd16 ct16), sl16⟩)
    (c16 : PySem.W.codeIn K cd16 "law" = true)
    (k16 : PySem.W.keepIn K (.ref f16) = true)
    (pg0 : PySem.W.plainGet K C0 Str.empty = true) (hd0 : PySem.W.hasDictIn K C0 = true) (po0 : PySem.W.plainOver K C0 = true) (sa0 : PySem.W.findIn K (.ref C0) "__setattr__" = some (some (.builtin "object.__setattr__"))) (mk0 : PySem.W.makesIn K C0 = true) (kc0 : PySem.W.keepIn K (.ref C0) = true)
    (n0__at : PySem.W.findIn K (.ref C0) "_at" = some none)
    (n0__faulty : PySem.W.findIn K (.ref C0) "_faulty" = some none)
    (n0__many : PySem.W.findIn K (.ref C0) "_many" = some none)
    (n0__most : PySem.W.findIn K (.ref C0) "_most" = some none)
    (n0__text : PySem.W.findIn K (.ref C0) "_text" = some none)
    (n0__words : PySem.W.findIn K (.ref C0) "_words" = some none)
    (z_bool : PySem.W.nsIn K mainGlobals "bool" = some none)
    (z_int : PySem.W.nsIn K mainGlobals "int" = some none)
    (z_isinstance : PySem.W.nsIn K mainGlobals "isinstance" = some none)
    (z_len : PySem.W.nsIn K mainGlobals "len" = some none)
    (z_range : PySem.W.nsIn K mainGlobals "range" = some none)
    (z_sorted : PySem.W.nsIn K mainGlobals "sorted" = some none)
    (z_str : PySem.W.nsIn K mainGlobals "str" = some none)
    (z_tuple : PySem.W.nsIn K mainGlobals "tuple" = some none)
    (g_MOST_LINE : PySem.W.nsIn K mainGlobals "MOST_LINE" = some (some (.int 2000 tML))) :
    ∃ fd : FuncData, (∀ (s : Shared) (v : Value), BindsTo s fd ⟨[v], []⟩ [("script", v)]) ∧ ∀ base : Heap, K.In base → base.Ns mainGlobals mg → FnOk l.prog w K mg base CX0 5 fa fd ["script"] (lift K 1 sp_law) := by
  have e := hfa.symm.trans (PySem.W.mg_of X G a16)
  cases e
  have F0 := fun_mk (st := s_ListenerU_initU) l0 c0 k0
  have b0 : Binds K _ P_ListenerU_initU [] := F0.binds (ps := P_ListenerU_initU) fun _ _ _ _ _ _ us hl => match us, hl with | [_, _], _ => rfl
  have F1 := fun_mk (st := s_Listener_hear) l1 c1 k1
  have b1 : Binds K _ P_Listener_hear [] := F1.binds (ps := P_Listener_hear) fun _ _ _ _ _ _ us hl => match us, hl with | [_, _], _ => rfl
  have F2 := fun_mk (st := s_Listener_faulty) l2 c2 k2
  have b2 : Binds K _ P_Listener_faulty [] := F2.binds (ps := P_Listener_faulty) fun _ _ _ _ _ _ us hl => match us, hl with | [_], _ => rfl
  have F3 := fun_mk (st := s_ListenerUfault) l3 c3 k3
  have b3 : Binds K _ P_ListenerUfault [] := F3.binds (ps := P_ListenerUfault) fun _ _ _ _ _ _ us hl => match us, hl with | [_], _ => rfl
  have F4 := fun_mk (st := s_ListenerUhear_line) l4 c4 k4
  have b4 : Binds K _ P_ListenerUhear_line [] := F4.binds (ps := P_ListenerUhear_line) fun _ _ _ _ _ _ us hl => match us, hl with | [_, _], _ => rfl
  have F5 := fun_mk (st := s_ListenerUhear_literal) l5 c5 k5
  have b5 : Binds K _ P_ListenerUhear_literal [] := F5.binds (ps := P_ListenerUhear_literal) fun _ _ _ _ _ _ us hl => match us, hl with | [_, _], _ => rfl
  have F6 := fun_mk (st := s_read_length) l6 c6 k6
  have b6 : Binds K _ P_read_length [] := F6.binds (ps := P_read_length) fun _ _ _ _ _ _ us hl => match us, hl with | [_], _ => rfl
  have F7 := fun_mk (st := s_read_number) l7 c7 k7
  have b7 : Binds K _ P_read_number [] := F7.binds (ps := P_read_number) fun _ _ _ _ _ _ us hl => match us, hl with | [_], _ => rfl
  have F8 := fun_mk (st := s_say) l8 c8 k8
  have b8 : Binds K _ P_say [] := F8.binds (ps := P_say) fun _ _ _ _ _ _ us hl => match us, hl with | [_, _], _ => rfl
  have F9 := fun_mk (st := s_llaw_cell) l9 c9 k9
  have b9 : Binds K _ P_llaw_cell [] := F9.binds (ps := P_llaw_cell) fun _ _ _ _ _ _ us hl => match us, hl with | [_, _], _ => rfl
  have F10 := fun_mk (st := s_llaw_digits) l10 c10 k10
  have b10 : Binds K _ P_llaw_digits [] := F10.binds (ps := P_llaw_digits) fun _ _ _ _ _ _ us hl => match us, hl with | [_, _, _], _ => rfl
  have F11 := fun_mk (st := s_llaw_draw) l11 c11 k11
  have b11 : Binds K _ P_llaw_draw [] := F11.binds (ps := P_llaw_draw) fun _ _ _ _ _ _ us hl => match us, hl with | [_, _], _ => rfl
  have F12 := fun_mk (st := s_llaw_same) l12 c12 k12
  have b12 : Binds K _ P_llaw_same [] := F12.binds (ps := P_llaw_same) fun _ _ _ _ _ _ us hl => match us, hl with | [_, _], _ => rfl
  have F13 := fun_mk (st := s_llaw_command) l13 c13 k13
  have b13 : Binds K _ P_llaw_command [] := F13.binds (ps := P_llaw_command) fun _ _ _ _ _ _ us hl => match us, hl with | [_], _ => rfl
  have F14 := fun_mk (st := s_llaw_signs) l14 c14 k14
  have b14 : Binds K _ P_llaw_signs [] := F14.binds (ps := P_llaw_signs) fun _ _ _ _ _ _ us hl => match us, hl with | [_], _ => rfl
  have F15 := fun_mk (st := s_llaw_wrong) l15 c15 k15
  have b15 : Binds K _ P_llaw_wrong [] := F15.binds (ps := P_llaw_wrong) fun _ _ _ _ _ _ us hl => match us, hl with | [_, _], _ => rfl
  have F16 := fun_mk (st := s_law) l16 c16 k16
  have b16 : Binds K _ P_law [] := F16.binds (ps := P_law) fun _ _ _ _ _ _ us hl => match us, hl with | [_], _ => rfl
  let F : Nat → Addr := fun i => match i with | 0 => f0 | 1 => f1 | 2 => f2 | 3 => f3 | 4 => f4 | 5 => f5 | 6 => f6 | 7 => f7 | 8 => f8 | 9 => f9 | 10 => f10 | 11 => f11 | 12 => f12 | 13 => f13 | 14 => f14 | 15 => f15 | 16 => fa | _ => 0
  let D : Nat → FuncData := fun i => match i with | 0 => PySem.W.fnOf "__init__" "Listener.__init__" (defArgs s_ListenerU_initU) (defBody s_ListenerU_initU) (defScope s_ListenerU_initU) .none kV0 dc0 pm0 an0 cd0 ct0 | 1 => PySem.W.fnOf "hear" "Listener.hear" (defArgs s_Listener_hear) (defBody s_Listener_hear) (defScope s_Listener_hear) .none kV1 dc1 pm1 an1 cd1 ct1 | 2 => PySem.W.fnOf "faulty" "Listener.faulty" (defArgs s_Listener_faulty) (defBody s_Listener_faulty) (defScope s_Listener_faulty) .none kV2 dc2 pm2 an2 cd2 ct2 | 3 => PySem.W.fnOf "_fault" "Listener._fault" (defArgs s_ListenerUfault) (defBody s_ListenerUfault) (defScope s_ListenerUfault) .none kV3 dc3 pm3 an3 cd3 ct3 | 4 => PySem.W.fnOf "_hear_line" "Listener._hear_line" (defArgs s_ListenerUhear_line) (defBody s_ListenerUhear_line) (defScope s_ListenerUhear_line) .none kV4 dc4 pm4 an4 cd4 ct4 | 5 => PySem.W.fnOf "_hear_literal" "Listener._hear_literal" (defArgs s_ListenerUhear_literal) (defBody s_ListenerUhear_literal) (defScope s_ListenerUhear_literal) .none kV5 dc5 pm5 an5 cd5 ct5 | 6 => PySem.W.fnOf "read_length" "read_length" (defArgs s_read_length) (defBody s_read_length) (defScope s_read_length) .none kV6 dc6 pm6 an6 cd6 ct6 | 7 => PySem.W.fnOf "read_number" "read_number" (defArgs s_read_number) (defBody s_read_number) (defScope s_read_number) .none kV7 dc7 pm7 an7 cd7 ct7 | 8 => PySem.W.fnOf "say" "say" (defArgs s_say) (defBody s_say) (defScope s_say) .none kV8 dc8 pm8 an8 cd8 ct8 | 9 => PySem.W.fnOf "_law_cell" "_law_cell" (defArgs s_llaw_cell) (defBody s_llaw_cell) (defScope s_llaw_cell) .none kV9 dc9 pm9 an9 cd9 ct9 | 10 => PySem.W.fnOf "_law_digits" "_law_digits" (defArgs s_llaw_digits) (defBody s_llaw_digits) (defScope s_llaw_digits) .none kV10 dc10 pm10 an10 cd10 ct10 | 11 => PySem.W.fnOf "_law_draw" "_law_draw" (defArgs s_llaw_draw) (defBody s_llaw_draw) (defScope s_llaw_draw) .none kV11 dc11 pm11 an11 cd11 ct11 | 12 => PySem.W.fnOf "_law_same" "_law_same" (defArgs s_llaw_same) (defBody s_llaw_same) (defScope s_llaw_same) .none kV12 dc12 pm12 an12 cd12 ct12 | 13 => PySem.W.fnOf "_law_command" "_law_command" (defArgs s_llaw_command) (defBody s_llaw_command) (defScope s_llaw_command) .none kV13 dc13 pm13 an13 cd13 ct13 | 14 => PySem.W.fnOf "_law_signs" "_law_signs" (defArgs s_llaw_signs) (defBody s_llaw_signs) (defScope s_llaw_signs) .none kV14 dc14 pm14 an14 cd14 ct14 | 15 => PySem.W.fnOf "_law_wrong" "_law_wrong" (defArgs s_llaw_wrong) (defBody s_llaw_wrong) (defScope s_llaw_wrong) .none kV15 dc15 pm15 an15 cd15 ct15 | 16 => PySem.W.fnOf "law" "law" (defArgs s_law) (defBody s_law) (defScope s_law) .none kV16 dc16 pm16 an16 cd16 ct16 | _ => PySem.W.fnOf "law" "law" (defArgs s_law) (defBody s_law) (defScope s_law) .none kV16 dc16 pm16 an16 cd16 ct16
  let C : Nat → Addr := fun i => match i with | 0 => C0 | _ => 0
  have T : Tx K mg F D C := {
    d_ListenerU_initU := ⟨F0, b0⟩,
    d_Listener_hear := ⟨F1, b1⟩,
    me_Listener_hear := ⟨a1, i1, k1⟩,
    d_Listener_faulty := ⟨F2, b2⟩,
    me_Listener_faulty := ⟨a2, i2, k2⟩,
    d_ListenerUfault := ⟨F3, b3⟩,
    me_ListenerUfault := ⟨a3, i3, k3⟩,
    d_ListenerUhear_line := ⟨F4, b4⟩,
    me_ListenerUhear_line := ⟨a4, i4, k4⟩,
    d_ListenerUhear_literal := ⟨F5, b5⟩,
    me_ListenerUhear_literal := ⟨a5, i5, k5⟩,
    d_read_length := ⟨F6, PySem.W.mg_of X G a6, b6⟩,
    d_read_number := ⟨F7, PySem.W.mg_of X G a7, b7⟩,
    d_say := ⟨F8, PySem.W.mg_of X G a8, b8⟩,
    d_llaw_cell := ⟨F9, PySem.W.mg_of X G a9, b9⟩,
    d_llaw_digits := ⟨F10, PySem.W.mg_of X G a10, b10⟩,
    d_llaw_draw := ⟨F11, PySem.W.mg_of X G a11, b11⟩,
    d_llaw_same := ⟨F12, PySem.W.mg_of X G a12, b12⟩,
    d_llaw_command := ⟨F13, PySem.W.mg_of X G a13, b13⟩,
    d_llaw_signs := ⟨F14, PySem.W.mg_of X G a14, b14⟩,
    d_llaw_wrong := ⟨F15, PySem.W.mg_of X G a15, b15⟩,
    d_law := ⟨F16, PySem.W.mg_of X G a16, b16⟩,
    cl_Listener := ⟨pg0, hd0, po0, sa0⟩,
    mk_Listener := ⟨mk0, a0, i0, kc0⟩,
    mg_Listener := PySem.W.mg_of X G aC0,
    n_Listener__at := n0__at,
    n_Listener__faulty := n0__faulty,
    n_Listener__many := n0__many,
    n_Listener__most := n0__most,
    n_Listener__text := n0__text,
    n_Listener__words := n0__words,
    b_bool := PySem.W.mg_none_of X G z_bool,
    b_int := PySem.W.mg_none_of X G z_int,
    b_isinstance := PySem.W.mg_none_of X G z_isinstance,
    b_len := PySem.W.mg_none_of X G z_len,
    b_range := PySem.W.mg_none_of X G z_range,
    b_sorted := PySem.W.mg_none_of X G z_sorted,
    b_str := PySem.W.mg_none_of X G z_str,
    b_tuple := PySem.W.mg_none_of X G z_tuple,
    c_MOST_LINE := glob_int (PySem.W.mg_of X G g_MOST_LINE) }
  exact ⟨D 16, fun s v => .of_eq rfl, fun base _ _ => all_fn T⟩
theorem walk {l : PySem.W.OpenLaw} {q : Program} {loose : List Str} {XP : (Str → Option Value) → Heap → Prop} {YP : World → Heap → Prop} {d : DefRec} {K : Params → PySem.W.Frag} (hn : l.most = some 63) (hdf : d.params.defaults = [])
    (hY : ∀ (w : World) (h : Heap), YP w h → (K w.params).In h)
    (F : ∀ (w : World) (mg : Str → Option Value) (fa : Addr) (h : Heap), (K w.params).In h → h.Ns mainGlobals mg → mg d.name = some (.ref fa) →
      ∃ fd : FuncData, (∀ (s : Shared) (u : Value), BindsTo s fd ⟨[u], []⟩ [("script", u)]) ∧ ∀ base : Heap, (K w.params).In base → base.Ns mainGlobals mg → FnOk l.prog w (K w.params) mg base CX0 5 fa fd ["script"] (lift (K w.params) 1 sp_law)) :
    PySem.W.WalkO q loose XP YP l.row.toRowW d [] (fun f vs => PySem.call f vs) :=
  L2.walk_of (n := 63) (k := 5) (x := "script") (CX := fun _ => CX0) (sp := fun w => lift (K w.params) 1 sp_law) hn (by decide) hdf ⟨rfl, by decide, by decide⟩ hY F (fun _ _ a ns hl ho hS => law_start hl ho hS) fun _ _ _ _ _ z => z
end LW

open PySem PySem.W PyProof.Rows in
set_option maxRecDepth 100000 in
set_option maxHeartbeats 0 in
theorem PySem.Challenge.cw_oncemail_k42_talk_commands_whole_holds : PySem.Challenge.rw_oncemail_k42_talk_commands_whole.Holds := by
  w_on; o_law; k_head; (case hw => w_witness2)
  k_fill
  refine LW.walk (l := PySem.Challenge.rw_oncemail_k42_talk_commands_whole) rfl rfl (fun w h Y => PySem.W.kIn_of Y) ?F
  case F =>
    intro w mg fa h KX G hmg
    refine' LW.all_mk KX G hmg ?aC0 ?a0 ?i0 ?l0 ?c0 ?k0 ?a1 ?i1 ?l1 ?c1 ?k1 ?a2 ?i2 ?l2 ?c2 ?k2 ?a3 ?i3 ?l3 ?c3 ?k3 ?a4 ?i4 ?l4 ?c4 ?k4 ?a5 ?i5 ?l5 ?c5 ?k5 ?a6 ?l6 ?c6 ?k6 ?a7 ?l7 ?c7 ?k7 ?a8 ?l8 ?c8 ?k8 ?a9 ?l9 ?c9 ?k9 ?a10 ?l10 ?c10 ?k10 ?a11 ?l11 ?c11 ?k11 ?a12 ?l12 ?c12 ?k12 ?a13 ?l13 ?c13 ?k13 ?a14 ?l14 ?c14 ?k14 ?a15 ?l15 ?c15 ?k15 ?a16 ?l16 ?c16 ?k16 ?pg0 ?hd0 ?po0 ?sa0 ?mk0 ?kc0 ?n0__at ?n0__faulty ?n0__many ?n0__most ?n0__text ?n0__words ?z_bool ?z_int ?z_isinstance ?z_len ?z_range ?z_sorted ?z_str ?z_tuple ?g_MOST_LINE
    (case aC0 => k_is)
    (case a0 => k_is)
    (case i0 => k_is)
    (case l0 => k_is)
    (case c0 => k_is)
    (case k0 => k_is)
    (case a1 => k_is)
    (case i1 => k_is)
    (case l1 => k_is)
    (case c1 => k_is)
    (case k1 => k_is)
    (case a2 => k_is)
    (case i2 => k_is)
    (case l2 => k_is)
    (case c2 => k_is)
    (case k2 => k_is)
    (case a3 => k_is)
    (case i3 => k_is)
    (case l3 => k_is)
    (case c3 => k_is)
    (case k3 => k_is)
    (case a4 => k_is)
    (case i4 => k_is)
    (case l4 => k_is)
    (case c4 => k_is)
    (case k4 => k_is)
    (case a5 => k_is)
    (case i5 => k_is)
    (case l5 => k_is)
    (case c5 => k_is)
    (case k5 => k_is)
    (case a6 => k_is)
    (case l6 => k_is)
    (case c6 => k_is)
    (case k6 => k_is)
    (case a7 => k_is)
    (case l7 => k_is)
    (case c7 => k_is)
    (case k7 => k_is)
    (case a8 => k_is)
    (case l8 => k_is)
    (case c8 => k_is)
    (case k8 => k_is)
    (case a9 => k_is)
    (case l9 => k_is)
    (case c9 => k_is)
    (case k9 => k_is)
    (case a10 => k_is)
    (case l10 => k_is)
    (case c10 => k_is)
    (case k10 => k_is)
    (case a11 => k_is)
    (case l11 => k_is)
    (case c11 => k_is)
    (case k11 => k_is)
    (case a12 => k_is)
    (case l12 => k_is)
    (case c12 => k_is)
    (case k12 => k_is)
    (case a13 => k_is)
    (case l13 => k_is)
    (case c13 => k_is)
    (case k13 => k_is)
    (case a14 => k_is)
    (case l14 => k_is)
    (case c14 => k_is)
    (case k14 => k_is)
    (case a15 => k_is)
    (case l15 => k_is)
    (case c15 => k_is)
    (case k15 => k_is)
    (case a16 => k_is)
    (case l16 => k_is)
    (case c16 => k_is)
    (case k16 => k_is)
    (case pg0 => k_is)
    (case hd0 => k_is)
    (case po0 => k_is)
    (case sa0 => k_is)
    (case mk0 => k_is)
    (case kc0 => k_is)
    (case n0__at => k_is)
    (case n0__faulty => k_is)
    (case n0__many => k_is)
    (case n0__most => k_is)
    (case n0__text => k_is)
    (case n0__words => k_is)
    (case z_bool => k_is)
    (case z_int => k_is)
    (case z_isinstance => k_is)
    (case z_len => k_is)
    (case z_range => k_is)
    (case z_sorted => k_is)
    (case z_str => k_is)
    (case z_tuple => k_is)
    (case g_MOST_LINE => k_is)
#print axioms PySem.Challenge.cw_oncemail_k42_talk_commands_whole_holds

