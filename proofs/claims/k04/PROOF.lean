import PyProof.Rows.All
import Wide.All
import OpenK.AllK
import Wide.FinOn
import HandS.ForMost
import HandS.Set
import HandS.Strs
import HandS.SetFor
import HandS.SetKeys
import HandS.SortInts
import PyProof.Rows.SortShellAny
import HandS.Flow
import HandS.TupAny
import HandS.Walk
import HandS.Replace
import HandS.ReplaceLit
import HandS.Star
import HandS.FStr
import HandS.Conv
import HandS.NoneIn
import HandS.Comp
import HandS.Dict
import HandS.Zip
import PyProof.ToksMono
import HandS.Words
import KE.KExcSuper
import HandS.ExcField
import HandS.ExcIs
import HandS.ExcInit
import HandS.HotCalls
import HandS.Nested
import HandS.Style
import HandS.StrMore
import HandS.IsInst
import HandS.Codes
import HandS.TupMul
import HandS.SortRule
import KE.KTupSum
import HandS.More
import KE.GoesZip
import KE.GoesMore
import HandS.Deep
import HandS.RaiseMore
import HandS.Translate
import PyProof.StrCalls6
import HandS.ReplaceList
import PyProof.Rows.StrOr
import KE.KIntText
import KE.KExcIs
import PyProof.FString5
import HandS.Iter
import KE.GoesEnumKw
import PySem.Challenge.RW_oncemail_k04_letters_codings
set_option Elab.async false
set_option linter.all false
set_option maxRecDepth 100000
set_option maxHeartbeats 2000000
/-! Sets of keys (ints and texts) with their members told and their table ready to be walked: made of a list or a tuple, added to, asked, sorted. -/
namespace DK
open PySem PySem.Spec PyProof.Rows L2
def vk : Value → Key
  | .int k _ => .inl k
  | .str x _ => .inr x
  | _ => .inl 0
theorem vk_is {k : Key} {v : Value} (h : keyIs k v = true) : vk v = k := by
  rcases keyIs_shape h with ⟨i, t, rfl, rfl⟩ | ⟨x, t, rfl, rfl⟩ <;> rfl
theorem vk_iff {k j : Key} {v : Value} (h : keyIs k v = true) : keyIs j v = true ↔ vk v = j := ⟨vk_is, fun q => by rw [← q, vk_is h]; exact h⟩
theorem is_scan {k : Key} {v : Value} (h : keyIs k v = true) : v.scannable = true := by
  rcases keyIs_shape h with ⟨i, t, rfl, rfl⟩ | ⟨x, t, rfl, rfl⟩ <;> rfl
abbrev ek (e : Int × Value) : Key := vk e.2
def Gd (w : World) (e : Int × Value) : Prop := keyIs (ek e) e.2 = true ∧ e.1 = keyH w (ek e)
/-- what a table of keys holds -/
structure Tab (w : World) (es : Array (Int × Value)) (t : SetTable) (S : Key → Bool) : Prop where
  gd : ∀ e ∈ es.toList, Gd w e
  nd : (es.toList.map ek).Nodup
  mem : ∀ k, S k = true ↔ k ∈ es.toList.map ek
  lt : es.size < scanBound
  fit : t.fits es.size = true
  ris : Ris t.place.toList
  led : w.params.followText "set-order" = true ∨ t.led = true
def SetQ (w : World) (h : Heap) (a : Addr) (S : Key → Bool) (n : Nat) : Prop := ∃ o es ep t, h.get? a = some o ∧ o.ExactSet ∧ o.data = .set es ep t ∧ Tab w es t S ∧ es.size = n
def memK (ks : List Key) (j : Key) : Bool := ks.any fun k => decide (k = j)
theorem memK_iff {ks : List Key} {j : Key} : memK ks j = true ↔ j ∈ ks := by
  unfold memK
  rw [List.any_eq_true]
  exact ⟨fun ⟨k, h1, h2⟩ => by rw [← of_decide_eq_true h2]; exact h1, fun h => ⟨j, h, decide_eq_true rfl⟩⟩
theorem memK_snoc {ks : List Key} {k j : Key} : memK (ks ++ [k]) j = (memK ks j || decide (j = k)) := by
  rw [Bool.eq_iff_iff, memK_iff, Bool.or_eq_true, memK_iff, decide_eq_true_eq, List.mem_append, List.mem_singleton]
section
variable {P : Program} {w : World} {h h' : Heap} {a : Addr} {S : Key → Bool} {n : Nat} {es : Array (Int × Value)} {t : SetTable}
theorem SetQ.at (R : SetQ w h a S n) (k : ∀ o, h.get? a = some o → h'.get? a = some o) : SetQ w h' a S n := by
  obtain ⟨o, es, ep, t, ho, r⟩ := R
  exact ⟨o, es, ep, t, k o ho, r⟩
theorem SetQ.congr {S' : Key → Bool} (R : SetQ w h a S n) (e : ∀ k, S' k = S k) : SetQ w h a S' n := by
  rw [show S' = S from funext e]; exact R
theorem Tab.elems (T : Tab w es t S) : ElemsOf (mixKind P w) es.toList := fun e he => ⟨⟨ek e, (T.gd e he).1, (T.gd e he).2⟩, is_scan (T.gd e he).1⟩
theorem Tab.is (T : Tab w es t S) (k : Key) : k ∈ es.toList.map ek ↔ ∃ e ∈ es.toList, (mixKind P w).is k e.2 = true := by
  rw [List.mem_map]
  exact ⟨fun ⟨e, he, q⟩ => ⟨e, he, (vk_iff (T.gd e he).1).2 q⟩, fun ⟨e, he, q⟩ => ⟨e, he, (vk_iff (T.gd e he).1).1 q⟩⟩
theorem SetQ.setOf (R : SetQ w h a S n) : h.SetOf (mixKind P w) a S n := by
  obtain ⟨o, es, ep, t, ho, hx, hd, T, hn⟩ := R
  exact ⟨o, es, ep, t, ho, hx, hd, T.elems, fun k => (T.mem k).trans (T.is k), T.lt, T.fit, hn⟩
theorem SetQ.empty {o : Obj} {b : Bool} (ho : h.get? a = some o) (e : o = { cls := .type "set", dict := none, data := .set #[] 0 (.fresh 0 0 (!w.params.followText "set-order")) }) : SetQ w h a (fun _ => false) 0 := by
  subst e
  refine ⟨_, #[], 0, _, ho, ⟨rfl, rfl, rfl⟩, rfl, ⟨fun e he => by simp at he, by simp, fun k => by simp, by decide, by rfl, List.Pairwise.nil, ?_⟩, rfl⟩
  show _ ∨ (!w.params.followText "set-order") = true
  cases w.params.followText "set-order" with
  | false => exact .inr rfl
  | true => exact .inl rfl
end
section
variable {P : Program} {w : World} {A : Around} {E : Value → Shared → Prop} {s : Shared} {a : Addr} {S : Key → Bool} {n : Nat}
/-- the store behind the scan -/
theorem tail {g : Bool → Sem Unit} (hg : ∀ (b : Bool) (s1 : Shared) (Q' : Unit → Shared → Prop), Q' () s1 → wpAny (model P w) A (g b) Q' E s1) {o : Obj} {es es1 : Array (Int × Value)} {ep : Nat} {t t2 : SetTable}
    (ho : s.heap.get? a = some o) (hx : o.ExactSet) (hd : o.data = .set es ep t) {S' : Key → Bool} (T : Tab w es1 t2 S') {wd : Bool} {R : Option Bool → Shared → Prop}
    (hR : ∀ h', Heap.SameBut a s.heap h' → SetQ w h' a S' es1.size → R (some true) { s with heap := h' }) :
    wpAny (model P w) A (do
        storeSet a es1 t2
        if (!wd && t2.tooFull) = true then do
            g (relayAll t2 es1 (SetTable.grown es1.size)).2.2
            storeSet a (relayAll t2 es1 (SetTable.grown es1.size)).1 (relayAll t2 es1 (SetTable.grown es1.size)).2.1
            pure (some true)
          else pure (some true)) R E s := by
  have ho1 := store_at (es' := es1) (t' := t2) ho hd
  have sb1 := Heap.SameBut.update s.heap a (Obj.putSet es1 t2)
  refine wpAny_bind (wpAny_storeSet_of ho hd ?_ (fits_of_scanBound T.lt))
  split
  · have p1 := relayAll_perm t2 es1 (SetTable.grown es1.size)
    have p2 := relayAll_fits t2 es1 (SetTable.grown es1.size)
    have p3 := relayAll_ris t2 es1 (SetTable.grown es1.size)
    have p4 := relayAll_led t2 es1 (SetTable.grown es1.size)
    generalize relayAll t2 es1 (SetTable.grown es1.size) = Z at p1 p2 p3 p4 ⊢
    obtain ⟨es2, t3, gave⟩ := Z
    dsimp only at p1 p2 p3 p4 ⊢
    have z2 : es2.size = es1.size := by rw [← Array.length_toList, p1.length_eq, Array.length_toList]
    have T3 : Tab w es2 t3 S' := ⟨fun e he => T.gd e (p1.mem_iff.mp he), (p1.map ek).nodup_iff.mpr T.nd, fun k => (T.mem k).trans (p1.map ek).mem_iff.symm, by rw [z2]; exact T.lt, p2, p3, T.led.imp id fun z => by rw [p4]; exact z⟩
    refine wpAny_bind (hg _ _ _ (wpAny_bind (wpAny_storeSet_of ho1 rfl ?_ (fits_of_scanBound T3.lt))))
    exact wpAny_pure (hR _ (sb1.trans (Heap.SameBut.update _ a _)) ⟨_, es2, _, t3, store_at (es' := es2) (t' := t3) ho1 rfl, hx, rfl, T3, z2⟩)
  · exact wpAny_pure (hR _ sb1 ⟨_, es1, _, t2, ho1, hx, rfl, T, rfl⟩)
theorem add_hashed {k : Key} {v : Value} {Q : Bool → Shared → Prop} (hv : keyIs k v = true) (R : SetQ w s.heap a S n) (room : n + 1 < scanBound)
    (hQ : ∀ h', Heap.SameBut a s.heap h' → SetQ w h' a (fun j => S j || decide (j = k)) (if S k = true then n else n + 1) → Q (!S k) { s with heap := h' }) : wpAny (model P w) A (setAddHashed a v (keyH w k)) Q E s := by
  obtain ⟨o, es, ep, t, ho, hx, hd, T, hn⟩ := R
  have hkey : (mixKind P w).is k v = true := hv
  have hsc := is_scan hv
  have hel : ElemsOf (mixKind P w) es.toList := T.elems
  have gw : ∀ (b : Bool) {s1 : Shared} {Q' : Unit → Shared → Prop}, Q' () s1 → wpAny (model P w) A (match b with | true => rule "set.scan.the-table-gave-way" | false => pure ()) Q' E s1 :=
    fun b s1 Q' q => by cases b <;> first | exact wpAny_pure q | exact wpAny_rule q
  show wpAny _ A (setAddHashed a v ((mixKind P w).hash k)) Q E s
  unfold setAddHashed setAddHashedIn
  refine wpAny_holding (wpAny_bind (wpAny_setState_of ho hd T.fit ?_))
  dsimp only
  rw [byScan_of hsc T.lt hel]
  simp only [↓reduceIte]
  unfold setAddByScan
  refine wpAny_bind (wpAny_bind (wpAny_rule (wpAny_bind (wpAny_setScan_of hkey ho hd T.fit hel ?_))))
  cases hfi : List.findIdx? (fun e => (mixKind P w).is k e.2) es.toList with
  | some j =>
    dsimp only
    obtain ⟨hj, pj, _⟩ := List.findIdx?_eq_some_iff_getElem.mp hfi
    have hk : S k = true := (T.mem k).2 ((T.is (P := P) k).2 ⟨es.toList[j], List.getElem_mem hj, pj⟩)
    have q := hQ s.heap (Heap.SameBut.refl a s.heap) ⟨o, es, ep, t, ho, hx, hd, ⟨T.gd, T.nd, fun i => by
      rw [Bool.or_eq_true, decide_eq_true_eq, ← T.mem i]
      exact ⟨fun z => z.elim id (fun e => e ▸ hk), .inl⟩, T.lt, T.fit, T.ris, T.led⟩, by rw [if_pos hk]; exact hn⟩
    rw [hk] at q
    exact wpAny_pure (wpAny_pure q)
  | none =>
    dsimp only
    have nk : k ∉ es.toList.map ek := fun z => by
      obtain ⟨e, he, q⟩ := (T.is (P := P) k).1 z
      rw [List.findIdx?_eq_none_iff.mp hfi e he] at q
      cases q
    have hk : S k = false := by
      cases q : S k with
      | false => rfl
      | true => exact absurd ((T.mem k).1 q) nk
    have p1 := layNew_perm t es ((mixKind P w).hash k) v
    have p2 := layNew_fits t es ((mixKind P w).hash k) v
    have p3 := layNew_ris t es ((mixKind P w).hash k) v T.ris
    have p4 := layNew_led t es ((mixKind P w).hash k) v
    generalize layNew t es ((mixKind P w).hash k) v = Z at p1 p2 p3 p4 ⊢
    obtain ⟨es1, t1, wd, gave⟩ := Z
    dsimp only at p1 p2 p3 p4 ⊢
    rw [Array.toList_push] at p1
    have pc : es1.toList.Perm (((mixKind P w).hash k, v) :: es.toList) := p1.trans (List.perm_append_singleton _ _)
    have ke : ek ((mixKind P w).hash k, v) = k := vk_is hv
    have pk : (es1.toList.map ek).Perm (k :: es.toList.map ek) := by
      have q := pc.map ek
      rw [List.map_cons, ke] at q
      exact q
    have z1 : es1.size = n + 1 := by rw [← Array.length_toList, pc.length_eq, List.length_cons, Array.length_toList, hn]
    have mk : ∀ t' : SetTable, t'.fits es1.size = true → Ris t'.place.toList → t'.led = t1.led → Tab w es1 t' fun j => S j || decide (j = k) := fun t' f1 f2 f3 => by
      refine ⟨fun e he => ?_, pk.nodup_iff.mpr (List.nodup_cons.mpr ⟨nk, T.nd⟩), fun i => ?_, by rw [z1]; exact room, f1, f2, T.led.imp id fun z => by rw [f3, p4]; exact z⟩
      · rcases List.mem_cons.mp (pc.mem_iff.mp he) with z | z
        · subst z
          unfold Gd
          rw [ke]
          exact ⟨hv, rfl⟩
        · exact T.gd e z
      · show (S i || decide (i = k)) = true ↔ _
        rw [Bool.or_eq_true, decide_eq_true_eq, T.mem i, pk.mem_iff, List.mem_cons]
        exact Or.comm
    have fin : ∀ h', Heap.SameBut a s.heap h' → SetQ w h' a (fun j => S j || decide (j = k)) es1.size → Q true { s with heap := h' } := fun h' sb r => by
      have q := hQ h' sb
      rw [hk] at q
      rw [z1] at r
      exact q r
    refine wpAny_bind (gw _ ?_)
    by_cases hpl : t1.plain = true
    · rw [if_pos hpl]
      refine wpAny_bind ?_
      rw [hashByValue_scannable 8 hsc]
      refine wpAny_pure ?_
      refine tail ?_ ho hx hd (mk _ (by first | (split <;> first | exact p2 | exact SetTable.fits_plain_off p2) | exact p2) (by first | (split <;> exact p3) | exact p3) (by first | (split <;> rfl) | rfl)) ?_
      · intro b s1 Q' q; cases b <;> first | exact wpAny_pure q | exact wpAny_rule q
      · intro h' sb r; dsimp only; exact wpAny_pure (fin h' sb r)
    · rw [if_neg hpl]
      refine wpAny_bind (wpAny_pure ?_)
      simp only [↓reduceIte]
      refine tail ?_ ho hx hd (mk _ p2 p3 rfl) ?_
      · intro b s1 Q' q; cases b <;> first | exact wpAny_pure q | exact wpAny_rule q
      · intro h' sb r; dsimp only; exact wpAny_pure (fin h' sb r)
/-- the loop of set(xs) -/
theorem update_loop {I : Addr} {fp wr : List Addr} {G : Array GenState → Array GenState → Prop} {m : Nat} {Pv : Nat → Value → Prop} {St : Nat → Shared → Prop} {R : Result → Shared → Prop}
    (W : WalksS P w A.in1 I fp wr G m Pv St) (c : Addr) (hf : c ∉ fp) (ks : List Key) (hm : m = ks.length) (hb : ks.length + 1 < scanBound) (hval : ∀ i v, Pv i v → ∃ k, ks[i]? = some k ∧ keyIs k v = true) :
    ∀ (d i : Nat) (s : Shared), m - i = d → i ≤ m → St i s → (∃ n, n ≤ i ∧ SetQ w s.heap c (memK (ks.take i)) n) →
      (∀ s' n, Moved (c :: wr) G s s' → n ≤ m → SetQ w s'.heap c (memK ks) n → R (.ok (.ret .none)) s') → codeAny (model P w) A (.builtin "set.update.loop" ⟨[.ref c, .ref I], []⟩) R s := by
  have cw : c ∉ wr := fun h => hf (W.sub _ h)
  have sub : ∀ b ∈ wr, b ∈ c :: wr := fun b hb => List.mem_cons_of_mem _ hb
  intro d
  induction d with
  | zero =>
    intro i s e1 e2 st ⟨n, hn, Z⟩ hR
    obtain rfl : i = m := by omega
    refine codeAny_builtin F.entry_set_update_loop ?_
    rw [Around.under_plainId F.plain_set_update_loop _]
    show wpAny _ A.in1 (pyNext (.ref I) >>= _) _ _ s
    refine wpAny_bind (W.done s _ _ st fun s' mv => ?_)
    rw [List.take_of_length_le (by omega)] at Z
    exact wpAny_pure (hR s' n (mv.mono sub) hn (Z.at fun o e => mv.heap c o cw e))
  | succ d ih =>
    intro i s e1 e2 st ⟨n, hn, Z⟩ hR
    have lt : i < m := by omega
    refine codeAny_builtin F.entry_set_update_loop ?_
    rw [Around.under_plainId F.plain_set_update_loop _]
    show wpAny _ A.in1 (pyNext (.ref I) >>= _) _ _ s
    refine wpAny_bind (W.item i s _ _ lt st fun v s' hP st' mv => ?_)
    obtain ⟨k, hk, hv⟩ := hval i v hP
    have Z' : SetQ w s'.heap c (memK (ks.take i)) n := Z.at fun o e => mv.heap c o cw e
    show wpAny _ A.in1 (holding [v] (setAdd c v) >>= _) _ _ s'
    refine wpAny_bind (wpAny_holding ?_)
    unfold setAdd
    refine wpAny_holding (wpAny_bind ((mixKind P w).pyHash (k := k) hv ?_))
    refine add_hashed (s := { s' with toks := s'.toks + 1 }) hv Z' (by omega) fun h' sb Z2 => ?_
    have Z3 : SetQ w h' c (memK (ks.take (i + 1))) (if memK (ks.take i) k = true then n else n + 1) := Z2.congr fun j => by
      rw [List.take_add_one, hk]
      exact memK_snoc
    have n3 : (if memK (ks.take i) k = true then n else n + 1) ≤ i + 1 := by split <;> omega
    refine wpAny_pure ⟨plainId_quiet F.plain_set_update_loop _, ih (i + 1) _ (by omega) lt (W.frame _ s' _ _ st' (Nat.le_succ _) fun b hb o e => ?_) ⟨_, n3, Z3⟩ fun s2 n2 mv2 hn2 Z4 => ?_⟩
    · rw [sb.2 b (fun h : b = c => hf (by rw [← h]; exact hb))]; exact e
    · refine hR s2 n2 (Moved.trans W.gtrans ((mv.mono sub).then_heap (Nat.le_succ _) fun b o hb e => ?_) mv2) hn2 Z4
      rw [sb.2 b (fun h : b = c => hb (by rw [h]; exact List.mem_cons_self))]; exact e
end
end DK

set_option Elab.async false
set_option linter.all false
set_option maxRecDepth 100000
set_option maxHeartbeats 4000000
/-! set(xs) of a list or a tuple of keys; sorted(set) -/
namespace DK
open PySem PySem.Spec PyProof.Rows L2
/-- the object of an empty set -/
abbrev o0 (w : World) : Obj := { cls := .type "set", dict := none, data := .set #[] 0 (.fresh 0 0 (!w.params.followText "set-order")) }
/-- values that are these keys -/
def Ks (vs : List Value) (ks : List Key) : Prop := vs.length = ks.length ∧ ∀ (i : Nat) (v : Value), vs[i]? = some v → ∃ k, ks[i]? = some k ∧ keyIs k v = true
section
variable {P : Program} {w : World} {A : Around} {E : Value → Shared → Prop} {s : Shared}
theorem set_tuple {l : Addr} {its : Array Value} (ks : List Key) {Q : Value → Shared → Prop} (hh : A.handled = none) (hl : s.heap.IsTuple l its) (hk : Ks its.toList ks) (hb : ks.length + 1 < scanBound)
    (h : ∀ (h' : Heap) (tk c : Nat), SetQ w h' s.heap.objs.size (memK ks) c → c ≤ ks.length → (∀ b o, s.heap.get? b = some o → h'.get? b = some o) → Q (.ref s.heap.objs.size) { s with heap := h', toks := tk }) :
    wpAny (model P w) A (call (.type "set") [.ref l]) Q E s := by
  have hz : its.size = ks.length := by rw [← hk.1, Array.length_toList]
  obtain ⟨c, tl, hmro⟩ := F.called_set.mro
  have x1 := F.called_set.made
  have x2 := F.called_set.sub
  have x3 := F.called_set.notType
  have x4 := F.called_set.canCreate
  have x5 := F.typeCall_set_1 (.ref l)
  refine wpAny_call (codeAny_of_tree ?_)
  show wpAny _ _ (callAny (.type "set") _) _ _ _
  refine wpAny_pure ⟨Code.quiet_builtin _ (by decide +kernel), codeAny_builtin F.entry_type_call ?_⟩
  rw [Around.under_plain (weight_type_call_type "set" [.ref l] []) rfl]
  repeat (any_goals (first | assumption | wp_step))
  refine codeAny_mono (code_set_led1 (.ref l) (E := E) (Q₁ := fun obj s1 => obj = .ref s.heap.objs.size ∧ s1 = { s with heap := s.heap.push (o0 w) }) ⟨rfl, rfl⟩) fun r s1 hr => ?_
  cases r with
  | error e => exact hr
  | ok fl =>
    cases fl with
    | ret obj =>
      obtain ⟨rfl, rfl⟩ := hr
      have hS : (s.heap.push (o0 w)).get? s.heap.objs.size = some (o0 w) := Heap.get?_push_size _ rfl
      have hT : Shared.TypeIs { s with heap := s.heap.push (o0 w) } (.ref s.heap.objs.size) "set" := ⟨_, hS, rfl⟩
      have y1 := F.called_set.init.lookup
      have y2 := F.called_set.init.bind (.ref s.heap.objs.size)
      repeat (any_goals (first | assumption | wp_step))
      refine codeAny_mono (codeAny_call_builtin (R := wants (fun r s2 => r = .none ∧ ∃ h' tk n, s2 = { s with heap := h', toks := tk } ∧ SetQ w h' s.heap.objs.size (memK ks) n ∧ n ≤ ks.length ∧
          (∀ b o, s.heap.get? b = some o → h'.get? b = some o)) E) F.called_set.init.plain F.entry_set_init (check_set_init_1 hT ?_)) fun r2 s2 hr2 => ?_
      · obtain ⟨ol, hol, hcl, nl, hdl⟩ := hl
        obtain ⟨ocls, odict, odata, oslots⟩ := ol
        simp only at hcl hdl
        subst hcl; subst hdl
        have hol' : (s.heap.push (o0 w)).get? l = some { cls := .type "tuple", dict := odict, data := .seq its nl, slots := oslots } := Heap.get?_push_of_some _ hol
        have z1 := F.sub_tuple_set
        have z2 := F.sub_tuple_frozenset
        have z3 : (Value.type "tuple" == Value.type "dict") = false := by decide
        have hl1 : (s.heap.push (o0 w)).IsTuple l its := ⟨_, hol', rfl, nl, rfl⟩
        unfold Builtin.«set.__init__» noKeywords Builtin.Frozenset.updateFrom
        generalize hPI : pyIter = PI
        wp_walk
        subst hPI
        refine wpAny_pyIter_tuple hl1 ?_
        refine wpAny_bind (wpAny_runValue ?_)
        have lts : l < s.heap.objs.size := Heap.lt_size hol
        have h3 : A.in1.in1.in1.handled = none := by simp [hh]
        have sz1 : (s.heap.push (o0 w)).objs.size = s.heap.objs.size + 1 := Heap.size_push ..
        have ne1 : l ≠ (s.heap.push (o0 w)).objs.size := by rw [sz1]; exact Nat.ne_of_lt (Nat.lt_succ_of_lt lts)
        have nf : s.heap.objs.size ∉ [(s.heap.push (o0 w)).objs.size, l] := by
          rw [sz1]; simp only [List.mem_cons, List.mem_singleton, List.not_mem_nil, or_false, not_or]
          exact ⟨Nat.ne_of_lt (Nat.lt_succ_self _), Nat.ne_of_gt lts⟩
        refine update_loop ((Walks.tuple h3 _ l ne1 its).toS) s.heap.objs.size nf ks hz hb (fun i v hv => hk.2 i v (by rw [Array.getElem?_toList]; exact hv)) (its.size - 0) 0 _ (by omega) (Nat.zero_le _)
          ⟨⟨_, Heap.get?_push_size _ rfl, rfl, rfl⟩, (hl1.push _)⟩ ?s0 ?hR
        case s0 =>
          have hg : ((s.heap.push (o0 w)).push { cls := .type "tuple_iterator", data := .fields #[.ref l, .int 0 0] }).get? s.heap.objs.size = some (o0 w) := Heap.get?_push_of_some _ hS
          exact ⟨0, Nat.le_refl 0, (SetQ.empty (b := true) hg rfl).congr fun k => rfl⟩
        case hR =>
          intro s' n mv hn Z
          obtain ⟨h', g2, d', tk', os'⟩ := s'
          obtain rfl : g2 = s.gens := mv.gens
          obtain rfl : d' = s.drawn := mv.drawn
          obtain rfl : os' = s.os := mv.os
          show wpAny _ _ _ _ _ _
          refine wpAny_pure ?_
          show wpAny _ _ (ret Value.none) _ _ _
          rw [hz] at hn
          refine wpAny_pure ⟨rfl, h', tk', n, rfl, Z, hn, fun b o e => ?_⟩
          have b0 : b < s.heap.objs.size := Heap.lt_size e
          have b2 : b ≠ (s.heap.push (o0 w)).objs.size := by rw [sz1]; exact Nat.ne_of_lt (Nat.lt_succ_of_lt b0)
          exact mv.heap b o (by simp only [List.mem_cons, List.mem_singleton, List.not_mem_nil, or_false, not_or]; exact ⟨Nat.ne_of_lt b0, b2⟩) (Heap.get?_push_of_some _ (Heap.get?_push_of_some _ e))
      · cases r2 with
        | error e => exact hr2
        | ok fl2 =>
          cases fl2 with
          | ret r =>
            obtain ⟨rfl, h', tk, n, rfl, Z, hn, kp⟩ := hr2
            repeat (any_goals (first | assumption | wp_step))
            exact h _ _ _ Z hn kp
          | _ => exact hr2.elim
    | _ => exact hr.elim
theorem set_list {l : Addr} {its : Array Value} (ks : List Key) {Q : Value → Shared → Prop} (hh : A.handled = none) (hl : s.heap.IsList l its) (hk : Ks its.toList ks) (hb : ks.length + 1 < scanBound)
    (h : ∀ (h' : Heap) (tk c : Nat), SetQ w h' s.heap.objs.size (memK ks) c → c ≤ ks.length → (∀ b o, s.heap.get? b = some o → h'.get? b = some o) → Q (.ref s.heap.objs.size) { s with heap := h', toks := tk }) :
    wpAny (model P w) A (call (.type "set") [.ref l]) Q E s := by
  have hz : its.size = ks.length := by rw [← hk.1, Array.length_toList]
  obtain ⟨c, tl, hmro⟩ := F.called_set.mro
  have x1 := F.called_set.made
  have x2 := F.called_set.sub
  have x3 := F.called_set.notType
  have x4 := F.called_set.canCreate
  have x5 := F.typeCall_set_1 (.ref l)
  refine wpAny_call (codeAny_of_tree ?_)
  show wpAny _ _ (callAny (.type "set") _) _ _ _
  refine wpAny_pure ⟨Code.quiet_builtin _ (by decide +kernel), codeAny_builtin F.entry_type_call ?_⟩
  rw [Around.under_plain (weight_type_call_type "set" [.ref l] []) rfl]
  repeat (any_goals (first | assumption | wp_step))
  refine codeAny_mono (code_set_led1 (.ref l) (E := E) (Q₁ := fun obj s1 => obj = .ref s.heap.objs.size ∧ s1 = { s with heap := s.heap.push (o0 w) }) ⟨rfl, rfl⟩) fun r s1 hr => ?_
  cases r with
  | error e => exact hr
  | ok fl =>
    cases fl with
    | ret obj =>
      obtain ⟨rfl, rfl⟩ := hr
      have hS : (s.heap.push (o0 w)).get? s.heap.objs.size = some (o0 w) := Heap.get?_push_size _ rfl
      have hT : Shared.TypeIs { s with heap := s.heap.push (o0 w) } (.ref s.heap.objs.size) "set" := ⟨_, hS, rfl⟩
      have y1 := F.called_set.init.lookup
      have y2 := F.called_set.init.bind (.ref s.heap.objs.size)
      repeat (any_goals (first | assumption | wp_step))
      refine codeAny_mono (codeAny_call_builtin (R := wants (fun r s2 => r = .none ∧ ∃ h' tk n, s2 = { s with heap := h', toks := tk } ∧ SetQ w h' s.heap.objs.size (memK ks) n ∧ n ≤ ks.length ∧
          (∀ b o, s.heap.get? b = some o → h'.get? b = some o)) E) F.called_set.init.plain F.entry_set_init (check_set_init_1 hT ?_)) fun r2 s2 hr2 => ?_
      · obtain ⟨ol, hol, hcl, nl, hdl⟩ := hl
        obtain ⟨ocls, odict, odata, oslots⟩ := ol
        simp only at hcl hdl
        subst hcl; subst hdl
        have hol' : (s.heap.push (o0 w)).get? l = some { cls := .type "list", dict := odict, data := .seq its nl, slots := oslots } := Heap.get?_push_of_some _ hol
        have z1 := F.sub_list_set
        have z2 := F.sub_list_frozenset
        have z3 : (Value.type "list" == Value.type "dict") = false := by decide
        have hl1 : (s.heap.push (o0 w)).IsList l its := ⟨_, hol', rfl, nl, rfl⟩
        unfold Builtin.«set.__init__» noKeywords Builtin.Frozenset.updateFrom
        generalize hPI : pyIter = PI
        wp_walk
        subst hPI
        refine wpAny_pyIter_list hl1 ?_
        refine wpAny_bind (wpAny_runValue ?_)
        have lts : l < s.heap.objs.size := Heap.lt_size hol
        have h3 : A.in1.in1.in1.handled = none := by simp [hh]
        have sz1 : (s.heap.push (o0 w)).objs.size = s.heap.objs.size + 1 := Heap.size_push ..
        have ne1 : l ≠ (s.heap.push (o0 w)).objs.size := by rw [sz1]; exact Nat.ne_of_lt (Nat.lt_succ_of_lt lts)
        have nf : s.heap.objs.size ∉ [(s.heap.push (o0 w)).objs.size, l] := by
          rw [sz1]; simp only [List.mem_cons, List.mem_singleton, List.not_mem_nil, or_false, not_or]
          exact ⟨Nat.ne_of_lt (Nat.lt_succ_self _), Nat.ne_of_gt lts⟩
        refine update_loop ((Walks.list h3 _ l ne1 its).toS) s.heap.objs.size nf ks hz hb (fun i v hv => hk.2 i v (by rw [Array.getElem?_toList]; exact hv)) (its.size - 0) 0 _ (by omega) (Nat.zero_le _)
          ⟨⟨_, Heap.get?_push_size _ rfl, rfl, rfl⟩, (hl1.push _)⟩ ?s0 ?hR
        case s0 =>
          have hg : ((s.heap.push (o0 w)).push { cls := .type "list_iterator", data := .fields #[.ref l, .int 0 0] }).get? s.heap.objs.size = some (o0 w) := Heap.get?_push_of_some _ hS
          exact ⟨0, Nat.le_refl 0, (SetQ.empty (b := true) hg rfl).congr fun k => rfl⟩
        case hR =>
          intro s' n mv hn Z
          obtain ⟨h', g2, d', tk', os'⟩ := s'
          obtain rfl : g2 = s.gens := mv.gens
          obtain rfl : d' = s.drawn := mv.drawn
          obtain rfl : os' = s.os := mv.os
          show wpAny _ _ _ _ _ _
          refine wpAny_pure ?_
          show wpAny _ _ (ret Value.none) _ _ _
          rw [hz] at hn
          refine wpAny_pure ⟨rfl, h', tk', n, rfl, Z, hn, fun b o e => ?_⟩
          have b0 : b < s.heap.objs.size := Heap.lt_size e
          have b2 : b ≠ (s.heap.push (o0 w)).objs.size := by rw [sz1]; exact Nat.ne_of_lt (Nat.lt_succ_of_lt b0)
          exact mv.heap b o (by simp only [List.mem_cons, List.mem_singleton, List.not_mem_nil, or_false, not_or]; exact ⟨Nat.ne_of_lt b0, b2⟩) (Heap.get?_push_of_some _ (Heap.get?_push_of_some _ e))
      · cases r2 with
        | error e => exact hr2
        | ok fl2 =>
          cases fl2 with
          | ret r =>
            obtain ⟨rfl, h', tk, n, rfl, Z, hn, kp⟩ := hr2
            repeat (any_goals (first | assumption | wp_step))
            exact h _ _ _ Z hn kp
          | _ => exact hr2.elim
    | _ => exact hr.elim
/-- the members, sorted: κ is the kind of all of them -/
theorem sorted_q {κ : PyProof.Rows.KeyKind} (hO : κ.OneLt) {a : Addr} {S : Key → Bool} {n : Nat} {Q : Value → Shared → Prop} (R : SetQ w s.heap a S n) (hh : A.handled = none)
    (hK : ∀ vs : List Value, vs.length = n → (vs.map vk).Nodup → (∀ v ∈ vs, keyIs (vk v) v = true ∧ S (vk v) = true) → (∀ k, S k = true → k ∈ vs.map vk) → KeysOf κ (pairsOf vs) ∧ ∀ v1 v2 rest, vs = v1 :: v2 :: rest → keyKind' (v1 :: v2 :: rest).toArray = pure oneType')
    (hQ : ∀ s' p (vs : List Value) (st : SortSt) (c : Nat), (∀ b o, s.heap.get? b = some o → s'.heap.get? b = some o) → s'.gens = s.gens → s'.os = s.os → s.heap.objs.size ≤ p → n ≤ sizeLine →
      s'.heap.get? p = some (seqObj "list" ((arrOf st).map (·.2)) c) → (arrOf st).Perm (pairsOf vs) → SortedToK κ (arrOf st) (pairsOf vs).size →
      vs.length = n → (vs.map vk).Nodup → (∀ v ∈ vs, keyIs (vk v) v = true ∧ S (vk v) = true) → (∀ k, S k = true → k ∈ vs.map vk) → Q (.ref p) s') :
    wpAny (model P w) A (call (.builtin "sorted") [.ref a]) Q E s := by
  obtain ⟨o, es, ep, t, ho, hx, hd, T, hn⟩ := R
  refine Calls.call_function_entry kind_sorted plain_sorted entry_sorted (args_sorted1 _) ?_
  unfold Builtin.«sorted»
  refine wpAny_bind (m := checkCount "sorted" 1 1 _) (wpAny_pure ?_)
  refine wpAny_bind (collect_set (A := A.in1) hh ⟨o, ho, hx.1, hd⟩ T.fit T.lt T.ris T.led fun s1 vs k1 hz g1 o1 pm => ?_)
  have vl : vs.length = n := by rw [pm.length_eq, List.length_map, Array.length_toList]; exact hn
  have pk : (vs.map vk).Perm (es.toList.map ek) := by
    have q := pm.map vk
    rw [List.map_map] at q
    exact q
  have c1 : (vs.map vk).Nodup := pk.nodup_iff.mpr T.nd
  have c2 : ∀ v ∈ vs, keyIs (vk v) v = true ∧ S (vk v) = true := fun v hv => by
    refine ⟨?_, (T.mem _).2 (pk.mem_iff.mp (List.mem_map.mpr ⟨v, hv, rfl⟩))⟩
    obtain ⟨e, he, q⟩ := List.mem_map.mp (pm.mem_iff.mp hv)
    rw [← q]
    exact (T.gd e he).1
  have c3 : ∀ k, S k = true → k ∈ vs.map vk := fun k hk => pk.mem_iff.mpr ((T.mem k).1 hk)
  have lz : vs.length ≤ sizeLine := by rw [vl, ← hn]; exact fits_of_scanBound T.lt
  obtain ⟨q1, q2⟩ := hK vs vl c1 c2 c3
  refine wpAny_bind (wpAny_newList ?_ lz)
  have hoL : (s1.heap.push (seqObj "list" vs.toArray 0)).get? s1.heap.objs.size = some (seqObj "list" vs.toArray 0) := Heap.get?_push_size _ rfl
  refine wpAny_bind (wpAny_holding (wpAny_call_entry slot_list_sort ⟨_, hoL, rfl⟩ entry_list_sort (list_sort_treeKAny hO hoL q1 q2 lz fun st a1 a2 => ⟨_, rfl, ?_⟩) (args_list_sort _)))
  obtain ⟨c, hc⟩ := sortedHeap_at (vs := vs) (out := (arrOf st).map (·.2)) hoL
  refine wpAny_pure ⟨_, rfl, hQ _ s1.heap.objs.size vs st c (fun b u e => ?_) g1 o1 hz (by rw [← vl]; exact lz) hc a1 a2 vl c1 c2 c3⟩
  have q := k1 b u e
  have lt := Heap.lt_size q
  show (sortedHeap (s1.heap.push (seqObj "list" vs.toArray 0)) s1.heap.objs.size vs ((arrOf st).map (·.2))).get? b = some u
  rw [sortedHeap_old (Nat.ne_of_lt lt) (by rw [size_push']; exact Nat.lt_succ_of_lt lt)]
  exact Heap.get?_push_of_some _ q
theorem ints_k : ∀ {vs : List Value}, (∀ v ∈ vs, ∃ i t, v = Value.int i t) → ∃ ns, IntsAre vs ns ∧ vs.map vk = ns.map Sum.inl
  | [], _ => ⟨[], .nil, rfl⟩
  | v :: vs, h => by
    obtain ⟨i, t, rfl⟩ := h v List.mem_cons_self
    obtain ⟨ns, a, b⟩ := ints_k fun u hu => h u (List.mem_cons_of_mem _ hu)
    exact ⟨i :: ns, .cons i t a, by rw [List.map_cons, b]; rfl⟩
theorem strs_k : ∀ {vs : List Value}, (∀ v ∈ vs, ∃ x t, v = Value.str x t) → ∃ ns, StrsAre vs ns ∧ vs.map vk = ns.map Sum.inr
  | [], _ => ⟨[], .nil, rfl⟩
  | v :: vs, h => by
    obtain ⟨i, t, rfl⟩ := h v List.mem_cons_self
    obtain ⟨ns, a, b⟩ := strs_k fun u hu => h u (List.mem_cons_of_mem _ hu)
    exact ⟨i :: ns, .cons i t a, by rw [List.map_cons, b]; rfl⟩
theorem sorted_int {a : Addr} {S : Key → Bool} {n : Nat} {Q : Value → Shared → Prop} (R : SetQ w s.heap a S n) (hh : A.handled = none) (hI : ∀ k, S k = true → ∃ i, k = .inl i)
    (hQ : ∀ s' p (out : Array Value) (c : Nat) (ns : List Int), (∀ b o, s.heap.get? b = some o → s'.heap.get? b = some o) → s'.gens = s.gens → s'.os = s.os → s.heap.objs.size ≤ p → n ≤ sizeLine →
      s'.heap.get? p = some (seqObj "list" out c) → IntsAre out.toList ns → ns.Pairwise (· ≤ ·) → ns.Nodup → (∀ i, i ∈ ns ↔ S (.inl i) = true) → ns.length = n → Q (.ref p) s') :
    wpAny (model P w) A (call (.builtin "sorted") [.ref a]) Q E s := by
  have key : ∀ vs : List Value, (∀ v ∈ vs, keyIs (vk v) v = true ∧ S (vk v) = true) → ∃ ns, IntsAre vs ns ∧ vs.map vk = ns.map Sum.inl := fun vs hv => ints_k fun v hm => by
    obtain ⟨h1, h2⟩ := hv v hm
    obtain ⟨i, e⟩ := hI _ h2
    rw [e] at h1
    rcases keyIs_shape h1 with ⟨i, t, _, rfl⟩ | ⟨x, t, e, _⟩
    · exact ⟨i, t, rfl⟩
    · cases e
  refine sorted_q intKind_oneLt R hh (fun vs vl _ hv _ => ?_) fun s' p vs st c k g o hp hz hc a1 a2 vl nd hv hm => ?_
  · obtain ⟨ns, hN, _⟩ := key vs hv
    exact ⟨hN.keysOfInt, fun v1 v2 rest e => keyKind_ints (by rw [← e]; exact hN)⟩
  · obtain ⟨ns, hN, ek⟩ := key vs hv
    obtain ⟨ms, b1, b2, b3⟩ := sorted_out hN a1 (sortedTo_of_int a2)
    have inj : Function.Injective (Sum.inl : Int → Key) := fun x y e => Sum.inl.inj e
    have nd2 : ns.Nodup := by
      rw [ek] at nd
      exact List.Pairwise.of_map Sum.inl (fun x y h e => h (by rw [e])) nd
    refine hQ s' p _ c ms k g o hp hz hc b1 b3 (b2.nodup_iff.mpr nd2) (fun i => ?_) (by rw [b2.length_eq, ← vl, ← List.length_map (f := vk), ek, List.length_map])
    rw [b2.mem_iff]
    constructor
    · intro hi
      have : Sum.inl i ∈ vs.map vk := by rw [ek]; exact List.mem_map.mpr ⟨i, hi, rfl⟩
      obtain ⟨v, hv1, e⟩ := List.mem_map.mp this
      rw [← e]; exact (hv v hv1).2
    · intro hi
      have := hm _ hi
      rw [ek] at this
      obtain ⟨j, hj, e⟩ := List.mem_map.mp this
      cases e; exact hj
theorem sorted_str {a : Addr} {S : Key → Bool} {n : Nat} {Q : Value → Shared → Prop} (R : SetQ w s.heap a S n) (hh : A.handled = none) (hI : ∀ k, S k = true → ∃ i, k = .inr i)
    (hQ : ∀ s' p (out : Array Value) (c : Nat) (ns : List Str), (∀ b o, s.heap.get? b = some o → s'.heap.get? b = some o) → s'.gens = s.gens → s'.os = s.os → s.heap.objs.size ≤ p → n ≤ sizeLine →
      s'.heap.get? p = some (seqObj "list" out c) → StrsAre out.toList ns → sortedS ns = true → ns.Nodup → (∀ i, i ∈ ns ↔ S (.inr i) = true) → ns.length = n → Q (.ref p) s') :
    wpAny (model P w) A (call (.builtin "sorted") [.ref a]) Q E s := by
  have key : ∀ vs : List Value, (∀ v ∈ vs, keyIs (vk v) v = true ∧ S (vk v) = true) → ∃ ns, StrsAre vs ns ∧ vs.map vk = ns.map Sum.inr := fun vs hv => strs_k fun v hm => by
    obtain ⟨h1, h2⟩ := hv v hm
    obtain ⟨i, e⟩ := hI _ h2
    rw [e] at h1
    rcases keyIs_shape h1 with ⟨i, t, e, _⟩ | ⟨x, t, _, rfl⟩
    · cases e
    · exact ⟨x, t, rfl⟩
  refine sorted_q strKind_oneLt R hh (fun vs vl _ hv _ => ?_) fun s' p vs st c k g o hp hz hc a1 a2 vl nd hv hm => ?_
  · obtain ⟨ns, hN, _⟩ := key vs hv
    exact ⟨hN.keysOf, fun v1 v2 rest e => keyKind_strs (by rw [← e]; exact hN)⟩
  · obtain ⟨ns, hN, ek⟩ := key vs hv
    obtain ⟨ms, b1, b2, b3⟩ := sorted_out_str hN a1 a2
    have nd2 : ns.Nodup := by
      rw [ek] at nd
      exact List.Pairwise.of_map Sum.inr (fun x y h e => h (by rw [e])) nd
    refine hQ s' p _ c ms k g o hp hz hc b1 b3 (b2.nodup_iff.mpr nd2) (fun i => ?_) (by rw [b2.length_eq, ← vl, ← List.length_map (f := vk), ek, List.length_map])
    rw [b2.mem_iff]
    constructor
    · intro hi
      have : Sum.inr i ∈ vs.map vk := by rw [ek]; exact List.mem_map.mpr ⟨i, hi, rfl⟩
      obtain ⟨v, hv1, e⟩ := List.mem_map.mp this
      rw [← e]; exact (hv v hv1).2
    · intro hi
      have := hm _ hi
      rw [ek] at this
      obtain ⟨j, hj, e⟩ := List.mem_map.mp this
      cases e; exact hj
end
/-! ### over the layer -/
def SetM (w : World) (a : Addr) (S : Key → Bool) (n : Nat) : HO := .ext fun h => SetQ w h a S n
section
variable {X : Cx}
theorem setM_ok {w : World} {P : Program} {H : Hp} {h : Heap} {a : Addr} {S : Key → Bool} {n : Nat} (R : SetQ w h a S n) : ObjOk P w H h a (SetM w a S n) := by
  have ⟨o, _, _, _, ho, _⟩ := R
  exact ⟨R, ⟨o, ho⟩, fun h1 h2 p k => SetQ.at p k⟩
theorem setM_get {pins : List (Addr × Obj)} {σ : L2.St} {H : Hp} {s : Shared} {a : Addr} {S : Key → Bool} {n : Nat} (I : Inv X pins σ H s) (ha : H a = some (SetM X.w a S n)) : SetQ X.w s.heap a S n := (I.hok a _ ha).1
theorem kVis : ∀ {k : Key} {v : Value}, L2.RelV (kV k) v → keyIs k v = true
  | .inl i, v, ⟨t, e⟩ => by rw [e]; exact keyIs_int i t
  | .inr x, v, ⟨t, e⟩ => by rw [e]; exact keyIs_str x t
theorem ks_of : ∀ {ks : List Key} {us : List Value}, Vals (ks.map kV) us → Ks us ks
  | [], _, .nil => ⟨rfl, fun i v h => by simp at h⟩
  | k :: ks, _, .cons r t => by
    obtain ⟨h1, h2⟩ := ks_of t
    refine ⟨by rw [List.length_cons, List.length_cons, h1], fun i v h => ?_⟩
    cases i with
    | zero => simp at h; subst h; exact ⟨k, rfl, kVis r⟩
    | succ i => simpa using h2 i v (by simpa using h)
/-- set(xs), a list or a tuple of keys -/
def rSetK (K : PySem.W.Frag) (w : World) : List V → Hp → VK → Prop := fun xs H Q => ∃ (p : Addr) (ks : List Key), xs = [.ref p] ∧ (SqL K H p (ks.map kV) ∨ SqT K H p (ks.map kV)) ∧ ks.length + 1 < scanBound ∧
  ∀ (q : Addr) (c : Nat), H q = none → Q (.ref q) (upd H q (SetM w q (memK ks) c))
theorem cr_setK (hc : X.calm = true) : CallR X (.type "set") (rSetK X.K X.w) := by
  intro pins s σ H xs us Q I r h
  obtain ⟨p, ks, rfl, hq, hb, q⟩ := h
  rw [Vals.ref1 r]
  rcases hq with hq | hq
  · obtain ⟨its, rv, pt, hz⟩ := I.list hq
    refine set_list ks (I.ok.hd hc) pt.isList (by rw [List.toList_toArray]; exact ks_of rv) hb fun h' tk c R1 hcn k => ?_
    exact ⟨.ref _, _, I.laid (t' := tk) (fun b u e => k b u e) (Nat.le_refl _) (setM_ok R1), rfl, q _ _ (I.hok.fresh (Nat.le_refl _))⟩
  · obtain ⟨its, rv, pt, hz⟩ := I.tuple hq
    refine set_tuple ks (I.ok.hd hc) (show s.heap.IsTuple p its.toArray from pt) (by rw [List.toList_toArray]; exact ks_of rv) hb fun h' tk c R1 hcn k => ?_
    exact ⟨.ref _, _, I.laid (t' := tk) (fun b u e => k b u e) (Nat.le_refl _) (setM_ok R1), rfl, q _ _ (I.hok.fresh (Nat.le_refl _))⟩
def rSet0M (w : World) : List V → Hp → VK → Prop := fun xs H Q => xs = [] ∧ ∀ p, H p = none → Q (.ref p) (upd H p (SetM w p (fun _ => false) 0))
theorem cr_set0M : CallR X (.type "set") (rSet0M X.w) := by
  intro pins s σ H xs us Q I r h
  obtain ⟨rfl, q⟩ := h
  cases r
  refine setR_new fun _ => ?_
  exact ⟨.ref _, _, I.laid (t' := s.toks) (fun b u e => Heap.get?_push_of_some _ e) (Nat.le_refl _) (setM_ok (SetQ.empty (b := true) (Heap.get?_push_size _ rfl) rfl)), rfl, q _ (I.hok.fresh (Nat.le_refl _))⟩
def rInM (w : World) (neg : Bool) : V → V → Hp → VK → Prop := fun x y H Q => ∃ k a S n, x = kV k ∧ y = V.ref a ∧ H a = some (SetM w a S n) ∧ Q (.bl (if neg then !S k else S k)) H
theorem or_inM : OpR X (compareOp .In) (rInM X.w false) := by
  intro pins s σ H x y v u Q I rx ry h
  obtain ⟨k, a, S, n, rfl, rfl, ha, q⟩ := h
  cases ry
  exact wpAny_inSet_of (knd := mixKind X.prog X.w) (kV_is rx) (key_scan rx) (setM_get I ha).setOf ⟨.bl (S k), H, I.tok _, rfl, q⟩
theorem or_ninM : OpR X (compareOp .NotIn) (rInM X.w true) := by
  intro pins s σ H x y v u Q I rx ry h
  obtain ⟨k, a, S, n, rfl, rfl, ha, q⟩ := h
  cases ry
  exact wpAny_notInSet_of (knd := mixKind X.prog X.w) (kV_is rx) (key_scan rx) (setM_get I ha).setOf ⟨.bl (!S k), H, I.tok _, rfl, q⟩
/-- sorted(set of ints), sorted(set of texts) -/
def rSortMI (w : World) : List V → Hp → VK → Prop := fun vs H Q => ∃ (a : Addr) (S : Key → Bool) (n : Nat), vs = [V.ref a] ∧ H a = some (SetM w a S n) ∧ (∀ k, S k = true → ∃ i, k = .inl i) ∧
  ∀ (ns : List Int) (p : Addr), ns.Pairwise (· ≤ ·) → ns.Nodup → (∀ k : Int, k ∈ ns ↔ S (.inl k) = true) → ns.length = n → H p = none → Q (.ref p) (upd H p (.lst (ns.map V.int)))
def rSortMS (w : World) : List V → Hp → VK → Prop := fun vs H Q => ∃ (a : Addr) (S : Key → Bool) (n : Nat), vs = [V.ref a] ∧ H a = some (SetM w a S n) ∧ (∀ k, S k = true → ∃ i, k = .inr i) ∧
  ∀ (ns : List Str) (p : Addr), sortedS ns = true → ns.Nodup → (∀ k : Str, k ∈ ns ↔ S (.inr k) = true) → ns.length = n → H p = none → Q (.ref p) (upd H p (.lst (ns.map V.str)))
theorem cr_sortMI (hc : X.calm = true) : CallR X (.builtin "sorted") (rSortMI X.w) := by
  intro pins s σ H vs us Q I r h
  obtain ⟨a, S, n, rfl, ha, hi, q⟩ := h
  rw [Vals.ref1 r]
  refine sorted_int (setM_get I ha) (I.ok.hd hc) hi fun s' p out c ns k g o hp hz hg hI hs hd hm hl => ?_
  have hlen : (ns.map V.int).length ≤ sizeLine := by rw [List.length_map, hl]; exact hz
  have hn : H p = none := I.hok.fresh hp
  have J : Inv X pins σ (upd H p (.lst (ns.map V.int))) { s with heap := s'.heap, gens := s'.gens, drawn := s'.drawn, toks := s'.toks } :=
    I.call (ch := []) (Un.laid k hp hn) (I.hok.laid k hp ⟨hlen, out.toList, c, vals_of_ints hI, hg⟩) (by rw [g]; exact I.bare) (fun _ z => nomatch z)
  have e : s' = { s with heap := s'.heap, gens := s'.gens, drawn := s'.drawn, toks := s'.toks } := by cases s'; cases s; cases o; rfl
  rw [e]
  exact ⟨.ref p, _, J, rfl, q ns p hs hd hm hl hn⟩
theorem cr_sortMS (hc : X.calm = true) : CallR X (.builtin "sorted") (rSortMS X.w) := by
  intro pins s σ H vs us Q I r h
  obtain ⟨a, S, n, rfl, ha, hi, q⟩ := h
  rw [Vals.ref1 r]
  refine sorted_str (setM_get I ha) (I.ok.hd hc) hi fun s' p out c ns k g o hp hz hg hI hs hd hm hl => ?_
  have hlen : (ns.map V.str).length ≤ sizeLine := by rw [List.length_map, hl]; exact hz
  have hn : H p = none := I.hok.fresh hp
  have J : Inv X pins σ (upd H p (.lst (ns.map V.str))) { s with heap := s'.heap, gens := s'.gens, drawn := s'.drawn, toks := s'.toks } :=
    I.call (ch := []) (Un.laid k hp hn) (I.hok.laid k hp ⟨hlen, out.toList, c, vals_of_strs hI, hg⟩) (by rw [g]; exact I.bare) (fun _ z => nomatch z)
  have e : s' = { s with heap := s'.heap, gens := s'.gens, drawn := s'.drawn, toks := s'.toks } := by cases s'; cases s; cases o; rfl
  rw [e]
  exact ⟨.ref p, _, J, rfl, q ns p hs hd hm hl hn⟩
/-- found.add(k) -/
def rAddM (w : World) : V → List V → Hp → VK → Prop := fun x xs H Q => ∃ (a : Addr) (k : Key) (S : Key → Bool) (n : Nat), x = V.ref a ∧ xs = [kV k] ∧ H a = some (SetM w a S n) ∧ n + 1 < scanBound ∧
  Q .non (upd H a (SetM w a (fun j => S j || decide (j = k)) (if S k = true then n else n + 1)))
theorem mt_addM : MtR X "set.add" (rAddM X.w) := by
  intro pins s σ H x xs v us Q I rx rxs h
  obtain ⟨a, k, S, n, rfl, rfl, ha, room, q⟩ := h
  cases rx
  cases rxs with
  | cons ry rt =>
    cases rt
    have R := setM_get I ha
    have hS : s.heap.SetOf (mixKind X.prog X.w) a S n := R.setOf
    refine wpAny_call_entry F.slot_set_add hS.typeIs F.entry_set_add ?_ (F.args_set_add_2 _ _)
    unfold Builtin.«set.add» Builtin.Frozenset.oneOther
    simp only [List.isEmpty_nil, bind_assoc]
    unfold Builtin.Frozenset.addrOf setAdd
    refine wpAny_bind (wpAny_pure ?_)
    try dsimp only
    refine wpAny_bind (wpAny_pure ?_)
    try dsimp only
    refine wpAny_bind (wpAny_holding (wpAny_bind ((mixKind X.prog X.w).pyHash (k := k) (kVis ry) ?_)))
    refine add_hashed (s := { s with toks := s.toks + 1 }) (kVis ry) R room fun h' sb new => ?_
    have he : ∃ u, h'.get? a = some u := by
      have ⟨o, _, _, _, ho, _⟩ := new
      exact ⟨o, ho⟩
    show wpAny _ _ (ret Value.none) _ _ _
    exact wpAny_pure ⟨_, rfl, .non, _, I.write (e := a) (t' := s.toks + 1) (by rw [ha]; trivial) (.inl rfl) (fun b u hb hu => (sb.2 b hb).trans hu) he (setM_ok new), rfl, q⟩
end
end DK

set_option Elab.async false
set_option linter.all false
set_option maxRecDepth 100000
/-! The judgements of the layer below, at states that have given out a token. -/
namespace DL
open PySem PySem.Spec PyProof.Rows L2
theorem tn {α : Type} {m : Sem α} {Q Q' : α → Shared → Prop} {M : Model} {A : Around} {E : Value → Shared → Prop} {s : Shared} (k : 1 ≤ s.toks) (h : wpAny M A m Q E s) (f : ∀ a s', 1 ≤ s'.toks → Q a s' → Q' a s') : wpAny M A m Q' E s :=
  wpAny_mono (wpAny_toks_of k h) (fun a s' z => f a s' z.1 z.2) fun _ _ z => z.2
abbrev Pins := List (Addr × Obj)
structure PE (X : Cx) (e : Expr) (t : TE) : Prop where
  run : ∀ {p : Pins} {s : Shared} {σ : L2.St} {H : Hp} {Q : VK}, 1 ≤ s.toks → Inv X p σ H s → t σ H Q → wpAny (model X.prog X.w) X.A (eval e X.env) (EP X p σ Q) X.xe s
structure PT (X : Cx) (e : Expr) (t : TT) : Prop where
  run : ∀ {p : Pins} {s : Shared} {σ : L2.St} {H : Hp} {Q : Bool → Hp → Prop}, 1 ≤ s.toks → Inv X p σ H s → t σ H Q → wpAny (model X.prog X.w) X.A (isTrue e X.env (eval e X.env)) (TP X p σ Q) X.xe s
structure PW (X : Cx) (e : Expr) (t : TT) : Prop where
  run : ∀ (wh : Sem Value) {p : Pins} {s : Shared} {σ : L2.St} {H : Hp} {Q : Bool → Hp → Prop}, 1 ≤ s.toks → Inv X p σ H s → t σ H Q → wpAny (model X.prog X.w) X.A (isTrue e X.env wh) (TP X p σ Q) X.xe s
structure PA (X : Cx) (es : List Expr) (t : TA) : Prop where
  run : ∀ (pos : Pos) {p : Pins} {s : Shared} {σ : L2.St} {H : Hp} {Q : List V → Hp → Prop}, 1 ≤ s.toks → Inv X p σ H s → t σ H Q → wpAny (model X.prog X.w) X.A (spliced (backTo pos (starEach es X.env))) (AP X p σ Q) X.xe s
structure PS (X : Cx) (st : Stmt) (t : TS) : Prop where
  run : ∀ {p : Pins} {s : Shared} {σ : L2.St} {H : Hp} {D : Ends}, 1 ≤ s.toks → Inv X p σ H s → t D σ H → wpAny (model X.prog X.w) X.A (exec st X.env) (SP X p D) X.xe s
structure PSs (X : Cx) (st : List Stmt) (t : TS) : Prop where
  run : ∀ {p : Pins} {s : Shared} {σ : L2.St} {H : Hp} {D : Ends}, 1 ≤ s.toks → Inv X p σ H s → t D σ H → wpAny (model X.prog X.w) X.A (execs st X.env) (SP X p D) X.xe s
structure PG (X : Cx) (tg : Expr) (t : TG) : Prop where
  run : ∀ {p : Pins} {s : Shared} {σ : L2.St} {H : Hp} {v : V} {u : Value} {Q : L2.St → Hp → Prop}, 1 ≤ s.toks → Inv X p σ H s → RelV v u → t v σ H Q → wpAny (model X.prog X.w) X.A (assign tg X.env u) (fun _ s' => ∃ σ' H', Inv X p σ' H' s' ∧ Q σ' H') X.xe s
structure PGs (X : Cx) (ts : List Expr) (t : TGs) : Prop where
  run : ∀ {p : Pins} {s : Shared} {σ : L2.St} {H : Hp} {vs : List V} {us : List Value} {Q : L2.St → Hp → Prop}, 1 ≤ s.toks → Inv X p σ H s → Vals vs us → t vs σ H Q →
    wpAny (model X.prog X.w) X.A (assignInOrder ((assignEach ts X.env).map (·.2)) us) (fun _ s' => ∃ σ' H', Inv X p σ' H' s' ∧ Q σ' H') X.xe s
structure PO (X : Cx) (e : Option Expr) (t : TO) : Prop where
  run : ∀ {p : Pins} {s : Shared} {σ : L2.St} {H : Hp} {Q : Option Int → Hp → Prop}, 1 ≤ s.toks → Inv X p σ H s → t σ H Q → wpAny (model X.prog X.w) X.A (evalPart e X.env) (fun u s' => ∃ o H', Inv X p σ H' s' ∧ IsPart u o ∧ Q o H') X.xe s
structure PI (X : Cx) (tg iter : Expr) (wi : TI) : Prop where
  run : ∀ {p : Pins} {s : Shared} {σ : L2.St} {H : Hp} {R : It → Hp → Prop}, 1 ≤ s.toks → Inv X p σ H s → wi σ H R →
    wpAny (model X.prog X.w) X.A (eval iter X.env) (fun v s1 => wpAny (model X.prog X.w) X.A (pyIter v) (PIE X p σ tg R) X.xe s1) X.xe s
structure PC (X : Cx) (op : CmpOp) (a b : Expr) (t : TE) : Prop where
  run : ∀ {p : Pins} {s : Shared} {σ : L2.St} {H : Hp} {Q : VK}, 1 ≤ s.toks → Inv X p σ H s → t σ H Q →
    wpAny (model X.prog X.w) X.A (eval a X.env) (fun v s1 => wpAny (model X.prog X.w) X.A (eval b X.env) (fun u s2 => wpAny (model X.prog X.w) X.A (compareOp op v u) (EP X p σ Q) X.xe s2) X.xe s1) X.xe s
structure PTs (X : Cx) (ifs : List Expr) (t : TT) : Prop where
  run : ∀ {p : Pins} {s : Shared} {σ : L2.St} {H : Hp} {Q : Bool → Hp → Prop}, 1 ≤ s.toks → Inv X p σ H s → t σ H Q →
    wpAny (model X.prog X.w) X.A (forIn ifs true fun c r => if r = true then do let ok ← isTrue c X.env (eval c X.env); pure (ForInStep.yield ok) else pure (ForInStep.yield r)) (TP X p σ Q) X.xe s
structure PPs (X : Cx) (pos : Pos) (ks : List (Option Expr)) (vs : List Expr) (trs : List (TE × TE)) : Prop where
  run : ∀ {p : Pins} {s : Shared} {σ : L2.St} {H : Hp} {Q : List (V × V) → Hp → Prop}, 1 ≤ s.toks → Inv X p σ H s → tPairs trs σ H Q →
    wpAny (model X.prog X.w) X.A (evalPairs (pairTrees ks vs X.env pos)) (fun ws s' => ∃ ps H', Inv X p σ H' s' ∧ VV ps ws ∧ Q ps H') X.xe s
def PRg (X : Cx) (e : Expr) (t : L2.St → Hp → (Int → Int → Hp → Prop) → Prop) : Prop :=
  ∀ {p : Pins} {s : Shared} {σ : L2.St} {H : Hp} {Q : Int → Int → Hp → Prop}, 1 ≤ s.toks → Inv X p σ H s → t σ H Q →
    wpAny (model X.prog X.w) X.A (eval e X.env) (fun x s' => ∃ r a b t u v H', x = .ref r ∧ IsRange s'.heap r a b 1 t u v ∧ Inv X p σ H' s' ∧ Q a b H') X.xe s
section
variable {X : Cx} {a b c e f o i l value : Expr} {es rest : List Expr} {st : Stmt} {sts : List Stmt} {ta tb tc te tf to ti tl td ty tx tv : TE} {t u : TS} {tt tA tB' : TT} {al : TA} {g : TG} {gs : TGs} {pos apos cpos q q2 pos' : Pos} {x y : Str} {n : Nat}
theorem PE.of (h : L2.PE X e te) : PE X e te := ⟨fun _ I z => h.run _ _ _ _ _ I z⟩
theorem PT.of (h : L2.PT X e tt) : PT X e tt := ⟨fun _ I z => h.run _ _ _ _ _ I z⟩
theorem PS.of (h : L2.PS X st t) : PS X st t := ⟨fun _ I z => h.run _ _ _ _ _ I z⟩
theorem PG.of (h : L2.PG X e g) : PG X e g := ⟨fun _ I r z => h.run _ _ _ _ _ _ _ I r z⟩
theorem PW.pt (h : PW X e tt) : PT X e tt := ⟨h.run _⟩
/-! ### expressions -/
theorem pe_int {k : Int} {j pos} : PE X (.Constant (.int k) j pos) (tC (.int k)) := .of L2.pe_int
theorem pe_bl {k : Bool} {j pos} : PE X (.Constant (.bool k) j pos) (tC (.bl k)) := .of L2.pe_bl
theorem pe_non {j pos} : PE X (.Constant .none j pos) (tC .non) := .of L2.pe_non
theorem pe_str {x : Str} {j pos} : PE X (.Constant (.str x) j pos) (tC (.str x)) := .of L2.pe_str
theorem pe_var {i : Nat} (hN : X.N[i]? = some x) (hv : Vis X.env.scope x) (hd : (x == ("__debug__" : Str)) = false := by decide) (hcd : (x == ("__classdict__" : Str)) = false := by decide) : PE X (.Name x pos) (tVar i) := .of (L2.pe_var hN hv hd hcd)
theorem pe_glob {v : V} {w : Value} (hg : Gl X x) (hm : X.mg x = some w) (r : RelV v w) (hd : (x == ("__debug__" : Str)) = false := by decide) : PE X (.Name x pos) (tC v) := .of (L2.pe_glob hg hm r hd)
theorem pe_bltn {v : V} {w : Value} (hg : Gl X x) (hm : X.mg x = none) (hv : bootBuiltins x = some w) (r : RelV v w) (hn : x ≠ "__name__" := by decide) (hd : (x == ("__debug__" : Str)) = false := by decide) : PE X (.Name x pos) (tC v) := .of (L2.pe_bltn hg hm hv r hn hd)
theorem pe_dnewK : PE X (.Dict [] [] pos) tDNewK := .of L2.pe_dnewK
theorem bin2 (ha : PE X a ta) (hb : PE X b tb) {p : Pins} {s : Shared} {σ : L2.St} {H : Hp} {R : V → V → Hp → Prop} (k : 1 ≤ s.toks) (I : Inv X p σ H s) (h : ta σ H fun x H1 => tb σ H1 fun y H2 => R x y H2) {Q : Value → Shared → Prop} {m : Value → Value → Sem Value}
    (hm : ∀ v u s2 x y H2, 1 ≤ s2.toks → Inv X p σ H2 s2 → RelV x v → RelV y u → R x y H2 → wpAny (model X.prog X.w) X.A (m v u) Q X.xe s2) :
    wpAny (model X.prog X.w) X.A (eval a X.env) (fun v s1 => wpAny (model X.prog X.w) X.A (eval b X.env) (fun u s2 => wpAny (model X.prog X.w) X.A (m v u) Q X.xe s2) X.xe s1) X.xe s :=
  tn k (ha.run k I h) fun v _ k1 ⟨x, _, I1, rx, h1⟩ => tn k1 (hb.run k1 I1 h1) fun u s2 k2 ⟨y, H2, I2, ry, h2⟩ => hm v u s2 x y H2 k2 I2 rx ry h2
theorem pe_op {op : Operator} {r : R2} (ho : OpR X (binaryOp op) r) (ha : PE X a ta) (hb : PE X b tb) : PE X (.BinOp a op b pos) (tOp r ta tb) :=
  ⟨fun k I h => wpAny_BinOp (bin2 ha hb k I h fun v u s2 x y H2 _ I2 rx ry z => ho _ s2 _ H2 x y v u _ I2 rx ry z)⟩
theorem pe_un {op : UnaryOp} {r : V → Hp → VK → Prop} (ho : UnR X (unaryOp op) r) (ha : PE X a ta) : PE X (.UnaryOp op a pos) (tUn r ta) :=
  ⟨fun k I h => UnaryOp_ (tn k (ha.run k I h) fun v s1 _ ⟨x, H1, I1, rx, z⟩ => ho _ s1 _ H1 x v _ I1 rx z)⟩
theorem pe_ix {r : R2} (hr : IxR X r) (ha : PE X a ta) (hb : PE X b tb) (hs : PlainIx b) : PE X (.Subscript a b pos) (tOp r ta tb) :=
  ⟨fun k I h => Subscript_ (bin2 ha hb k I h fun v u s2 x y H2 _ I2 rx ry z => hr a b _ s2 _ H2 x y v u _ I2 rx ry z (hs _ _))⟩
theorem pe_cmpR {op : CmpOp} {r : R2} (ho : OpR X (compareOp op) r) (ha : PE X a ta) (hb : PE X b tb) (hm : behindInMarks op b = false) : PE X (.Compare a [op] [b] pos) (tOp r ta tb) :=
  ⟨fun k I h => wpAny_Compare1 (bin2 ha hb k I h fun v u s2 x y H2 _ I2 rx ry z => ho _ s2 _ H2 x y v u _ I2 rx ry z) hm⟩
theorem pe_cmp {op : CmpOp} (h : PC X op a b te) (h1 : behindInMarks op b = false := by first | exact nobehind _ (by decide) (by decide) | rfl) : PE X (.Compare a [op] [b] pos) te := ⟨fun k I z => wpAny_Compare1 (h.run k I z) h1⟩
theorem pt_cmp {op : CmpOp} (h : PC X op a b te) (h1 : behindInMarks op b = false := by first | exact nobehind _ (by decide) (by decide) | rfl) : PT X (.Compare a [op] [b] pos) (tB te) :=
  ⟨fun k I z => wpAny_isTrue_Compare1 (tn k (h.run k I z) fun _ _ k1 h1 => tn k1 h1 fun _ _ k2 h2 => tn k2 h2 fun _ _ _ ⟨_, _, I1, r1, d, ed, z1⟩ => by subst ed; cases r1; exact wpAny_truthy_bool ⟨_, I1, z1⟩) h1⟩
theorem pt_cmpR {op : CmpOp} {r : R2} (ho : OpR X (compareOp op) r) (ha : PE X a ta) (hb : PE X b tb) (hm : behindInMarks op b = false) : PT X (.Compare a [op] [b] pos) (tTest (tOp r ta tb)) :=
  ⟨fun k I h => wpAny_isTrue_Compare1 (bin2 ha hb k I h fun v u s2 x y H2 k2 I2 rx ry z => tn k2 (ho _ s2 _ H2 x y v u _ I2 rx ry z) fun _ _ _ ⟨_, _, I3, r3, d, ed, z3⟩ => by subst ed; cases r3; exact wpAny_truthy_bool ⟨_, I3, z3⟩) hm⟩
theorem pt_val (h : PE X e te) (he : ∀ whole, isTrue e X.env whole = (do let v ← whole; standAt e.pos; holding [v] (truthy v)) := by intro _; rfl) : PT X e (tB te) :=
  ⟨fun k I z => isTrue_plain (tn k (h.run k I z) fun _ _ _ ⟨_, _, I1, r1, d, ed, z1⟩ => by subst ed; cases r1; exact wpAny_truthy_bool ⟨_, I1, z1⟩) (he _)⟩
theorem pt_truth (ha : PE X a ta) (he : ∀ whole, isTrue a X.env whole = (do let v ← whole; standAt a.pos; holding [v] (truthy v))) : PT X a (fun σ H Q => ta σ H fun x H' => ∃ k, TruV X.K x H' k ∧ Q k H') :=
  ⟨fun k I h => isTrue_plain (tn k (ha.run k I h) fun v s1 _ ⟨x, H1, I1, r1, z⟩ => tru_ok _ s1 _ H1 x v _ I1 r1 z) (he _)⟩
theorem pt_not (ha : PT X a tA) : PT X (.UnaryOp .Not a pos) (tNot tA) := ⟨fun {p s σ H Q} k I h => isTrue_not (ha.run (Q := fun c H1 => Q (!c) H1) k I h)⟩
theorem pe_ifExp (hc : PT X c tA) (ha : PE X a ta) (hb : PE X b tb) : PE X (.IfExp c a b pos) (tIf tA ta tb) :=
  ⟨fun k I h => wpAny_IfExp (tn k (hc.run k I h) fun d _ k1 ⟨_, I1, z⟩ => by cases d with | true => exact ha.run k1 I1 z | false => exact hb.run k1 I1 z)⟩
theorem pe_one {op} (h : PE X a te) : PE X (.BoolOp op [a] pos) te := ⟨fun k I z => BoolOp_one (h.run k I z)⟩
theorem tru2 {p : Pins} {s : Shared} {σ : L2.St} {H : Hp} {x : V} {v : Value} {d : Bool} (k : 1 ≤ s.toks) (I : Inv X p σ H s) (r : RelV x v) (e : TruV X.K x H d) {Q : Bool → Shared → Prop} (h : ∀ s', 1 ≤ s'.toks → Inv X p σ H s' → Q d s') : wpAny (model X.prog X.w) X.A (truthy v) Q X.xe s :=
  tn k (tru_ok p s σ H x v (fun c H2 => c = d ∧ H2 = H) I r ⟨d, e, rfl, rfl⟩) fun _ s2 k2 ⟨_, I2, e1, e2⟩ => by subst e2; subst e1; exact h s2 k2 I2
theorem pe_orT (ha : PE X a ta) (hb : PE X (.BoolOp .Or (b :: rest) pos) tb) : PE X (.BoolOp .Or (a :: b :: rest) pos) (tOrT X.K ta tb) :=
  ⟨fun k I h => BoolOp_or (tn k (ha.run k I h) fun _ _ k1 ⟨x, H1, I1, r1, d, ed, z⟩ => tru2 k1 I1 r1 ed fun s2 k2 I2 => by cases d with | true => exact ⟨x, H1, I2, r1, z⟩ | false => exact hb.run k2 I2 z)⟩
theorem pe_andT (ha : PE X a ta) (hb : PE X (.BoolOp .And (b :: rest) pos) tb) : PE X (.BoolOp .And (a :: b :: rest) pos) (tAndT X.K ta tb) :=
  ⟨fun k I h => BoolOp_and (tn k (ha.run k I h) fun _ _ k1 ⟨x, H1, I1, r1, d, ed, z⟩ => tru2 k1 I1 r1 ed fun s2 k2 I2 => by cases d with | true => exact hb.run k2 I2 z | false => exact ⟨x, H1, I2, r1, z⟩)⟩
theorem pe_notT (ha : PE X a ta) : PE X (.UnaryOp .Not a pos) (tNotT X.K ta) :=
  ⟨fun k I h => UnaryOp_ (tn k (ha.run k I h) fun _ _ k1 ⟨x, H1, I1, r1, d, ed, z⟩ => not_of (tru2 k1 I1 r1 ed fun _ _ I2 => ⟨.bl (!d), H1, I2, rfl, z⟩))⟩
theorem pw_and1 (ha : PT X a tA) : PW X (.BoolOp .And [a] pos) tA := ⟨fun _ {_ _ _ _ _} k I h => isTrue_and (tn k (ha.run k I h) fun d _ _ z => by cases d with | true => exact isTrue_and_nil z | false => exact z)⟩
theorem pw_or1 (ha : PT X a tA) : PW X (.BoolOp .Or [a] pos) tA := ⟨fun _ {_ _ _ _ _} k I h => isTrue_or (tn k (ha.run k I h) fun d _ _ z => by cases d with | true => exact z | false => exact isTrue_or_nil z)⟩
theorem pw_and (ha : PT X a tA) (hb : PW X (.BoolOp .And (b :: rest) pos) tB') : PW X (.BoolOp .And (a :: b :: rest) pos) (tAnd tA tB') :=
  ⟨fun w {_ _ _ _ _} k I h => isTrue_and (tn k (ha.run k I h) fun d _ k1 ⟨_, I1, z⟩ => by cases d with | true => exact hb.run w k1 I1 z | false => exact ⟨_, I1, z⟩)⟩
theorem pw_or (ha : PT X a tA) (hb : PW X (.BoolOp .Or (b :: rest) pos) tB') : PW X (.BoolOp .Or (a :: b :: rest) pos) (tOr tA tB') :=
  ⟨fun w {_ _ _ _ _} k I h => isTrue_or (tn k (ha.run k I h) fun d _ k1 ⟨_, I1, z⟩ => by cases d with | true => exact ⟨_, I1, z⟩ | false => exact hb.run w k1 I1 z)⟩
/-! ### arguments -/
theorem pa_nil : PA X [] tNil := ⟨fun _ {_ _ _ H _} _ I h => Calls.spliced_nil ⟨[], H, I, .nil, h⟩⟩
theorem pa_cons (ha : PE X e te) (hr : PA X es al) (hs : starEach (e :: es) X.env = (false, eval e X.env) :: starEach es X.env := by rfl) : PA X (e :: es) (tCons te al) :=
  ⟨fun ps {_ _ _ _ _} k I h => by
    rw [hs]
    refine Calls.spliced_cons (rest := backTo ps (starEach es X.env)) (tn k (ha.run k I h) fun u s1 k1 ⟨x, H1, I1, r1, z⟩ => ?_)
    exact tn k1 (hr.run ps k1 I1 z) fun us s2 _ ⟨xs, H2, I2, r2, z2⟩ => ⟨x :: xs, H2, I2, .cons r1 r2, z2⟩⟩
theorem starT {M : Model} {A : Around} {E : Value → Shared → Prop} {v : Value} {Q Q' : List Value → Shared → Prop} {s : Shared} (k : 1 ≤ s.toks) (h : PySem.W.StarOf M A E v Q s) (m : ∀ us s', 1 ≤ s'.toks → Q us s' → Q' us s') : PySem.W.StarOf M A E v Q' s :=
  tn k h fun _ _ k1 z => ⟨z.1, tn k1 z.2 m⟩
theorem pa_star (he : PE X e te) (hr : PA X es al) (hs : starEach (.Starred e q :: es) X.env = (true, eval e X.env) :: starEach es X.env := by rfl) : PA X (.Starred e q :: es) (StX.tStar X.K te al) :=
  ⟨fun ps {p s σ H Q} k I h => PySem.W.items_star (tn k (he.run k I h) fun v s1 k1 ⟨y, H1, I1, ry, d, xs, ey, hx, z⟩ => by
    subst ey; cases ry
    exact starT (Q := fun us s' => Inv X p σ H1 s' ∧ Vals xs us) k1 (StX.star_any I1 hx fun us s2 I2 rv => ⟨I2, rv⟩) fun us s2 k2 z2 => tn k2 (hr.run ps k2 z2.1 z) fun ws s3 _ ⟨vs, H3, I3, r3, z3⟩ => ⟨xs ++ vs, H3, I3, z2.2.append r3, z3⟩) hs⟩
theorem pe_tup {x1} (h : PA X es al) : PE X (.Tuple es x1 pos) (tTup al) :=
  ⟨fun {p s σ H Q} k I hq => wpAny_Tuple_spliced (tn k (h.run pos k I hq) fun us s1 _ ⟨xs, H1, I1, r, z, q⟩ => ⟨by rw [← r.length]; exact z, .ref s1.heap.objs.size, _,
    I1.laid (o := .tup xs) (t' := s1.toks) (fun b u e => Heap.get?_push_of_some _ e) (Nat.le_refl _) ⟨z, us, r, ⟨_, Heap.get?_push_size _ rfl, rfl, _, rfl⟩⟩, rfl, q _ (I1.hok.fresh (Nat.le_refl _))⟩)⟩
theorem pe_lst (h : PA X es al) : PE X (.List es pos) (tLst al) :=
  ⟨fun {p s σ H Q} k I hq => wpAny_List_spliced (tn k (h.run pos k I hq) fun us s1 _ ⟨xs, H1, I1, r, z, q⟩ => ⟨by rw [← r.length]; exact z, .ref s1.heap.objs.size, _,
    I1.laid (o := .lst xs) (t' := s1.toks) (fun b u e => Heap.get?_push_of_some _ e) (Nat.le_refl _) ⟨z, us, 0, r, Heap.get?_push_size _ rfl⟩, rfl, q _ (I1.hok.fresh (Nat.le_refl _))⟩)⟩
end
end DL

set_option Elab.async false
set_option linter.all false
set_option maxRecDepth 100000
namespace DL
open PySem PySem.Spec PyProof.Rows L2
/-! ### what a def promises, once a token is out -/
structure FnOk (P : Program) (w : World) (K : PySem.W.Frag) (mg : Str → Option Value) (base : Heap) (CX : CXT) (k : Nat) (f : Addr) (fd : FuncData) (ps : List Str) (sp : Sp) : Prop where
  len : ∀ vs H Q E, sp vs H Q E → vs.length = ps.length
  run : ∀ (A : Around) (outer : List Env) (s : Shared) (H : Hp) (args : Args) (us : List Value) (vs : List V) (Q : VK) (E : XK), 1 ≤ s.toks → Room k A → Env0 P w K mg base A outer s H → BindsTo s fd args (ps.zip us) → Vals vs us → sp vs H Q E →
    codeAny (model P w) A (.call (.ref f) args) (CR CX outer P w H s Q E) s
section
variable {P : Program} {w : World} {K : PySem.W.Frag} {mg : Str → Option Value} {base : Heap} {CX : CXT} {j k : Nat} {f : Addr} {fd : FuncData} {ps : List Str} {sp sp' : Sp}
theorem FnOk.mono (F : FnOk P w K mg base CX j f fd ps sp) (h : j ≤ k) : FnOk P w K mg base CX k f fd ps sp := ⟨F.len, fun A o s H a us vs Q E k1 hr => F.run A o s H a us vs Q E k1 (hr.mono h)⟩
theorem FnOk.imp (F : FnOk P w K mg base CX k f fd ps sp) (h : ∀ vs H Q E, sp' vs H Q E → sp vs H Q E) : FnOk P w K mg base CX k f fd ps sp' :=
  ⟨fun vs H Q E z => F.len vs H Q E (h _ _ _ _ z), fun A o s H a us vs Q E k1 hr he hb hv z => F.run A o s H a us vs Q E k1 hr he hb hv (h _ _ _ _ z)⟩
end
section
variable {X : Cx} {CX : CXT} {k : Nat} {f C : Addr} {fd : FuncData} {ps : List Str} {sp : Sp} {dvs : List V} {ds : List Value} {E : XK} {x m : Str} {pos apos q : Pos} {e o : Expr} {es : List Expr} {ta : TE} {t : TA} {p : Pins} {s : Shared} {σ : L2.St} {H : Hp} {Q : VK} {us : List Value} {vs : List V}
theorem run_fn (F : FnOk X.prog X.w X.K X.mg X.base CX k f fd ps sp) (hr : Room k X.A) (hb : Binds X.K fd ps ds) (hd : Vals dvs ds) (hx : Passes CX X E) (k1 : 1 ≤ s.toks) (I : Inv X p σ H s) (r : Vals vs us) (h : sp (vs ++ dvs) H Q E) :
    wpAny (model X.prog X.w) X.A (call (.ref f) us) (EP X p σ Q) X.xe s := by
  have r2 : Vals (vs ++ dvs) (us ++ ds) := r.append hd
  have hl := (Paired.length r2).symm.trans (F.len _ _ _ _ h)
  refine wpAny_call (codeAny_mono (F.run X.A X.stack s H ⟨us, []⟩ _ _ Q E k1 hr I.env0 (hb s us I.kIn hl) r2 h) fun z s' hz => ?_)
  rcases z with er | fl
  · exact hx p σ H s er s' I hz
  · cases fl <;> first | exact I.after hz | exact hz.elim
theorem pe_call (F : FnOk X.prog X.w X.K X.mg X.base CX k f fd ps sp) (hr : Room k X.A) (hg : Gl X x) (hm : X.mg x = some (.ref f)) (hk : PySem.W.keepIn X.K (.ref f) = true) (hb : Binds X.K fd ps ds) (hd : Vals dvs ds) (hx : Passes CX X E) (ha : PA X (e :: es) t)
    (hdb : (x == ("__debug__" : Str)) = false := by decide) (he : starEach (e :: es) X.env = (false, eval e X.env) :: starEach es X.env := by rfl) (hpl : (backTo pos (starEach es X.env)).any (·.1) = false := by rfl) : PE X (.Call (.Name x q) (e :: es) [] pos) (tCall sp dvs E t) :=
  ⟨fun k0 I h => wpAny_Call_Name_kw (ld_glob I hg hm (PySem.W.callWith_K (h₀ := X.base) I.ok.mod.kin hk (tn k0 (ha.run pos k0 I h) fun _ _ k1 ⟨_, _, I1, r, z⟩ => ⟨I1.kIn, run_fn F hr hb hd hx k1 I1 r z⟩) he hpl) hdb)⟩
theorem pe_call0 (F : FnOk X.prog X.w X.K X.mg X.base CX k f fd ps sp) (hr : Room k X.A) (hg : Gl X x) (hm : X.mg x = some (.ref f)) (hk : PySem.W.keepIn X.K (.ref f) = true) (hb : Binds X.K fd ps ds) (hd : Vals dvs ds) (hx : Passes CX X E)
    (hdb : (x == ("__debug__" : Str)) = false := by decide) : PE X (.Call (.Name x q) [] [] pos) (tCall sp dvs E tNil) :=
  ⟨fun k0 I h => wpAny_Call_Name_kw (ld_glob I hg hm (PySem.W.callWith_K0 I.kIn hk (run_fn (us := []) F hr hb hd hx k0 I .nil h)) hdb)⟩
theorem pe_meth {pl : Sem Bool} (he : PE X o ta) (c : Cls X.K C) (hm : Meth X.K C m f) (F : FnOk X.prog X.w X.K X.mg X.base CX k f fd ps sp) (hr : Room k X.A) (hb : Binds X.K fd ps ds) (hd : Vals dvs ds) (hx : Passes CX X E) (ha : PA X (e :: es) t)
    (hst : starEach (e :: es) X.env = (false, eval e X.env) :: starEach es X.env := by rfl) (hpl : (backTo pos (starEach es X.env)).any (·.1) = false := by rfl)
    (ht : eval (.Call (.Attribute o m apos) (e :: es) [] pos) X.env = (do
      let ov ← eval o X.env; standAt apos.atName
      let (f, first) ← holding [ov] (getMethod ov m pl); callWith pos f first (backTo pos (starEach (e :: es) X.env)) (backToKw pos (keywordEach [] X.env))) := by rfl) :
    PE X (.Call (.Attribute o m apos) (e :: es) [] pos) (tMeth C m sp dvs E ta t) :=
  ⟨fun k0 I h => PySem.W.methodCall_KW (pl := pl) (tn k0 (he.run k0 I h) fun u s1 k1 ⟨x, H1, I1, rx, d, dx, fs, ex, ea, l, z⟩ => by
    subst ex; cases rx
    exact getmeth_ok I1 ea c hm l (PySem.W.callWith_K (first := [.ref d]) (h₀ := X.base) I.ok.mod.kin hm.kp (tn k1 (ha.run pos k1 I1 z) fun us s2 k2 ⟨vs, H2, I2, r, z2⟩ => ⟨I2.kIn, run_fn (us := .ref d :: us) (vs := .ref d :: vs) F hr hb hd hx k2 I2 (.cons rfl r) z2⟩) hst hpl)) ht⟩
theorem pe_meth0 {pl : Sem Bool} (he : PE X o ta) (c : Cls X.K C) (hm : Meth X.K C m f) (F : FnOk X.prog X.w X.K X.mg X.base CX k f fd ps sp) (hr : Room k X.A) (hb : Binds X.K fd ps ds) (hd : Vals dvs ds) (hx : Passes CX X E)
    (ht : eval (.Call (.Attribute o m apos) [] [] pos) X.env = (do
      let ov ← eval o X.env; standAt apos.atName
      let (f, first) ← holding [ov] (getMethod ov m pl); callWith pos f first (backTo pos (starEach [] X.env)) (backToKw pos (keywordEach [] X.env))) := by rfl) : PE X (.Call (.Attribute o m apos) [] [] pos) (tMeth C m sp dvs E ta tNil) :=
  ⟨fun k0 I h => PySem.W.methodCall_KW (pl := pl) (tn k0 (he.run k0 I h) fun u s1 k1 ⟨x, H1, I1, rx, d, dx, fs, ex, ea, l, z⟩ => by
    subst ex; cases rx
    exact getmeth_ok I1 ea c hm l (PySem.W.callWith_K0 (first := [.ref d]) I1.kIn hm.kp (run_fn (us := [.ref d]) (vs := [.ref d]) F hr hb hd hx k1 I1 (.cons rfl .nil) z))) ht⟩
theorem run_make (M : Mk X.K C f) (F : FnOk X.prog X.w X.K X.mg X.base CX k f fd ps sp) (hr : Room (k + 1) X.A) (hb : Binds X.K fd ps ds) (hd : Vals dvs ds) (hx : Passes CX X E) (k1 : 1 ≤ s.toks) (I : Inv X p σ H s) (r : Vals vs us)
    (h : ∀ x dx, H x = none → H dx = none → dx ≠ x → sp (.ref x :: (vs ++ dvs)) (upd (upd H dx (.own x)) x (.ins C dx [])) (fun v H2 => v = .non ∧ Q (.ref x) H2) E) : wpAny (model X.prog X.w) X.A (call (.ref C) us) (EP X p σ Q) X.xe s := by
  have fr : ∀ i, s.heap.objs.size ≤ i → H i = none := fun i hi => I.hok.fresh hi
  have hq := h _ _ (fr (s.heap.objs.size + 1) (Nat.le_succ _)) (fr _ (Nat.le_refl _)) (Nat.ne_of_lt (Nat.lt_succ_self _))
  have I2 := Inv.made (C := C) I
  have r2 : Vals (V.ref (s.heap.objs.size + 1) :: (vs ++ dvs)) (Value.ref (s.heap.objs.size + 1) :: (us ++ ds)) := .cons rfl (r.append hd)
  have hl := (Paired.length r2).symm.trans (F.len _ _ _ _ hq)
  refine wpAny_call (make_map (f := f) I.kIn M.makes M.init (beq_iff_eq.mp M.fn) (codeAny_mono (F.run _ X.stack _ _ ⟨Value.ref (s.heap.objs.size + 1) :: us, []⟩ _ _ _ E (by exact k1) (hr.make C us []) (I2.env0.make C us []) (hb _ (Value.ref (s.heap.objs.size + 1) :: us) I2.kIn hl) r2 hq) fun z s' hz => ?_))
  rcases z with er | fl
  · exact hx p σ _ _ er s' I2 hz
  · cases fl with
    | ret u =>
      obtain ⟨v, H', I3, rv, ev, q3⟩ := I2.after hz
      subst ev
      exact ⟨rv, .ref (s.heap.objs.size + 1), H', I3, rfl, q3⟩
    | _ => exact hz.elim
theorem pe_make (M : Mk X.K C f) (F : FnOk X.prog X.w X.K X.mg X.base CX k f fd ps sp) (hr : Room (k + 1) X.A) (hg : Gl X x) (hm : X.mg x = some (.ref C)) (hb : Binds X.K fd ps ds) (hd : Vals dvs ds) (hx : Passes CX X E) (ha : PA X (e :: es) t)
    (hdb : (x == ("__debug__" : Str)) = false := by decide) (he : starEach (e :: es) X.env = (false, eval e X.env) :: starEach es X.env := by rfl) (hpl : (backTo pos (starEach es X.env)).any (·.1) = false := by rfl) : PE X (.Call (.Name x q) (e :: es) [] pos) (tMake C sp dvs E t) :=
  ⟨fun k0 I h => wpAny_Call_Name_kw (ld_glob I hg hm (PySem.W.callWith_K (h₀ := X.base) I.ok.mod.kin M.kp (tn k0 (ha.run pos k0 I h) fun _ _ k1 ⟨_, _, I1, r, z⟩ => ⟨I1.kIn, run_make M F hr hb hd hx k1 I1 r z⟩) he hpl) hdb)⟩
theorem pe_make0 (M : Mk X.K C f) (F : FnOk X.prog X.w X.K X.mg X.base CX k f fd ps sp) (hr : Room (k + 1) X.A) (hg : Gl X x) (hm : X.mg x = some (.ref C)) (hb : Binds X.K fd ps ds) (hd : Vals dvs ds) (hx : Passes CX X E)
    (hdb : (x == ("__debug__" : Str)) = false := by decide) : PE X (.Call (.Name x q) [] [] pos) (tMake C sp dvs E tNil) :=
  ⟨fun k0 I h => wpAny_Call_Name_kw (ld_glob I hg hm (PySem.W.callWith_K0 I.kIn M.kp (run_make (us := []) M F hr hb hd hx k0 I .nil h)) hdb)⟩
theorem pe_callB {id : String} {r : List V → Hp → VK → Prop} (hc : CallR X (.builtin id) r) (hg : Gl X x) (hm : X.mg x = none) (hv : bootBuiltins x = some (.builtin id)) (ha : PA X (e :: es) t) (hn : x ≠ "__name__" := by decide) (hdb : (x == ("__debug__" : Str)) = false := by decide)
    (he : starEach (e :: es) X.env = (false, eval e X.env) :: starEach es X.env := by rfl) (hpl : (backTo pos (starEach es X.env)).any (·.1) = false := by rfl) : PE X (.Call (.Name x q) (e :: es) [] pos) (tCB r t) :=
  ⟨fun k0 I h => wpAny_Call_Name_kw (ld_blt I hg hm hv (PyProof.Rows.callWith_builtin1 (tn k0 (ha.run pos k0 I h) fun us s1 _ ⟨vs, H1, I1, r1, z⟩ => hc _ s1 _ H1 vs us _ I1 r1 z) he hpl) hn hdb)⟩
theorem pe_callTy {T : String} {r : List V → Hp → VK → Prop} (hc : CallR X (.type T) r) (hg : Gl X x) (hm : X.mg x = none) (hv : bootBuiltins x = some (.type T)) (ha : PA X (e :: es) t) (hn : x ≠ "__name__" := by decide) (hdb : (x == ("__debug__" : Str)) = false := by decide)
    (he : starEach (e :: es) X.env = (false, eval e X.env) :: starEach es X.env := by rfl) (hpl : (backTo pos (starEach es X.env)).any (·.1) = false := by rfl) : PE X (.Call (.Name x q) (e :: es) [] pos) (tCB r t) :=
  ⟨fun k0 I h => wpAny_Call_Name_kw (ld_blt I hg hm hv (PyProof.Rows.callWith_type1 (tn k0 (ha.run pos k0 I h) fun us s1 _ ⟨vs, H1, I1, r1, z⟩ => hc _ s1 _ H1 vs us _ I1 r1 z) he hpl) hn hdb)⟩
/-! ### methods of built-in types, fields -/
variable {T id : String} {name : Str} {to te : TE} {mr : V → List V → Hp → VK → Prop} {cpos : Pos}
theorem pe_bm (pa : PlainAttrs T) (slot : Slot T name id) (hty : typeOf (.builtin id) = pure (.type "method_descriptor")) (hm : MtR X id mr) (ho : PE X o to) (ha : PA X (e :: es) t) (hbase : attributeBase o name X.env (eval o X.env) = eval o X.env := by rfl)
    (hfew : ((backTo cpos (starEach (e :: es) X.env)).all (fun x => !x.1) && (backToKw cpos (keywordEach [] X.env)).all (fun x => x.1.isSome) && decide ((e :: es).length + ([] : List Keyword).length + (if ([] : List Keyword).isEmpty then 0 else 1) < 30)) = true := by rfl)
    (hline : (apos.endLine == cpos.line) = true := by rfl) (hs : starEach (e :: es) X.env = (false, eval e X.env) :: starEach es X.env := by rfl) (hplain : (backTo cpos (starEach es X.env)).any (·.1) = false := by rfl) : PE X (.Call (.Attribute o name apos) (e :: es) [] cpos) (tBM X.K T mr to t) :=
  ⟨fun {p s σ H Q} k0 I h => wpAny_Call_method_late hbase hfew hline rfl (tn k0 (ho.run k0 I h) fun v s1 k1 ⟨x, H1, I1, r1, ty, z⟩ => by
    have h12 := tyV_is I1 r1 ty
    have hA := ha.run cpos k1 I1 z
    refine ⟨T, id, pa, slot, hty, h12.1, h12.2, ?_⟩
    rw [hs] at hA ⊢
    exact Calls.callWith_builtin (by show (false || (backTo cpos (starEach es X.env)).any (·.1)) = false; rw [hplain]; rfl) (Calls.evalArgs_plain (tn k1 hA fun us s2 _ ⟨vs, H2, I2, r2, z2⟩ => hm p s2 σ H2 x vs v us Q I2 r1 r2 z2)))⟩
theorem pe_bm0 (pa : PlainAttrs T) (slot : Slot T name id) (hty : typeOf (.builtin id) = pure (.type "method_descriptor")) (hm : MtR X id mr) (ho : PE X o to) (hbase : attributeBase o name X.env (eval o X.env) = eval o X.env := by rfl) (hline : (apos.endLine == cpos.line) = true := by rfl) :
    PE X (.Call (.Attribute o name apos) [] [] cpos) (tBM0 X.K T mr to) :=
  ⟨fun {p s σ H Q} k0 I h => wpAny_Call_method0_late hbase hline (tn k0 (ho.run k0 I h) fun v s1 k1 ⟨x, H1, I1, r1, ty, z⟩ =>
    ⟨T, id, pa, slot, hty, (tyV_is I1 r1 ty).1, (tyV_is I1 r1 ty).2, Calls.callWith_builtin rfl (PySem.evalArgs_none (hm p s1 σ H1 x [] v [] Q I1 r1 .nil z))⟩)⟩
theorem pe_split (ho : PE X o to) (he : PE X e te) (hs : starEach [e] X.env = [(false, eval e X.env)] := by rfl) (hbase : attributeBase o "split" X.env (eval o X.env) = eval o X.env := by rfl) (hline : (apos.endLine == pos.line) = true := by rfl) :
    PE X (.Call (.Attribute o "split" apos) [e] [] pos) (tM1 (fun x xs H Q => ∃ a b, x = .str a ∧ xs = [.str b] ∧ (b.length == 0) = false ∧ a.length + 2 ≤ sizeLine ∧ rNewStrs (Txt.split a b) H Q) to te) :=
  ⟨fun {p s σ H Q} k0 I h => PySem.Call_method1 hbase hs hline (tn k0 (ho.run k0 I h) fun v s1 k1 ⟨x, H1, I1, r1, ⟨d, ed⟩, z⟩ => by
    subst ed
    obtain ⟨t1, rfl⟩ := _root_.id r1
    exact ⟨"str", _, F.plainAttrs_str, F.slot_str_split, F.type_str_split, typeIs_str _ _ _, (fun _ e => nomatch e), Calls.callWith_builtin rfl (Calls.evalArgs_plain (Calls.spliced_cons (tn k1 (he.run k1 I1 z) fun u s2 _ ⟨y, H2, I2, r2, z2⟩ => Calls.spliced_nil (mt_split p s2 σ H2 _ [y] _ [u] Q I2 r1 (.cons r2 .nil) z2))))⟩)⟩
/-- e.replace(y, z) of two written texts -/
theorem pe_repl {y z : Str} {j0 j1 : Nat} {c0 c1 : Pos} (ho : PE X o to) (hyz : (y == z) = false := by decide)
    (hst : starEach [.Constant (.str y) j0 c0, .Constant (.str z) j1 c1] X.env = [(false, eval (.Constant (.str y) j0 c0) X.env), (false, eval (.Constant (.str z) j1 c1) X.env)] := by rfl)
    (hbase : attributeBase o "replace" X.env (eval o X.env) = eval o X.env := by rfl) (hline : (apos.endLine == pos.line) = true := by rfl) : PE X (.Call (.Attribute o "replace" apos) [.Constant (.str y) j0 c0, .Constant (.str z) j1 c1] [] pos) (CwR.tReplC to y z) := by
  have h0 : CwR.tReplC to y z = CwR.tReplC to y z := rfl
  exact ⟨fun {p s σ H Q} k0 I h => CwR.pet_replT (fun p s σ H Q k I h => ho.run k I h) hyz hst hbase hline p s σ H Q k0 I h⟩
theorem pe_fld {f : Str} (he : PE X e ta) (hb : attributeBase e f X.env (eval e X.env) = eval e X.env) : PE X (.Attribute e f pos) (tFld X.K ta f) :=
  ⟨fun k0 I h => attr_of hb (tn k0 (he.run k0 I h) fun u s1 k1 ⟨x, H1, I1, rx, d, C, dx, fs, v, ex, ea, c, n, l, z⟩ => by
    subst ex; cases rx
    exact getattr_ok I1 ea c n l fun _ _ I2 ru => ⟨v, H1, I2, ru, z⟩)⟩
end
end DL

set_option Elab.async false
set_option linter.all false
set_option maxRecDepth 100000
namespace DL
open PySem PySem.Spec PyProof.Rows L2
section
variable {X : Cx} {a b c e f o i l value : Expr} {es rest : List Expr} {st : Stmt} {sts : List Stmt} {ta tb tc te tf to ti tl td ty tx tv : TE} {t u : TS} {tt tA tB' : TT} {al : TA} {g : TG} {gs : TGs} {pos apos cpos q q2 pos' : Pos} {x y : Str} {n : Nat}
/-! ### slices, dicts, texts made of parts -/
theorem po_none : PO X none tNoPart := ⟨fun {p s σ H Q} _ I h => by rw [evalPart_none]; exact wpAny_pure ⟨_, H, I, .none, h⟩⟩
theorem po_some (h : PE X e te) : PO X (some e) (tPart te) :=
  ⟨fun k I hw => by
    rw [evalPart_some]
    exact tn k (h.run k I hw) fun _ _ _ ⟨_, H1, I1, r1, j, ej, z⟩ => by subst ej; obtain ⟨t1, rfl⟩ := r1; exact ⟨some j, H1, I1, .int j t1, z⟩⟩
theorem pe_slice {lo hi : Option Expr} {to1 to2 : TO} {p2 : Pos} {r : V → Option Int → Option Int → Hp → VK → Prop} (hr : SlR X r) (he : PE X e te) (hl : PO X lo to1) (hu : PO X hi to2) : PE X (.Subscript e (.Slice lo hi none p2) pos) (tSl r te to1 to2) :=
  ⟨fun {p s σ H Q} k I h => Subscript_ (tn k (he.run k I h) fun v s1 k1 ⟨x, H1, I1, r1, z1⟩ => wpAny_Slice (tn k1 (hl.run k1 I1 z1) fun vl s2 k2 ⟨m, H2, I2, pl, z2⟩ => tn k2 (hu.run k2 I2 z2) fun vu s3 k3 ⟨w, H3, I3, pu, z3⟩ => by
    rw [evalPart_none]
    have I4 : Inv X p σ H3 { s3 with heap := s3.heap.push { cls := .type "slice", data := .fields #[vl, vu, .none] } } := I3.kept (t' := s3.toks) fun d ob y => Heap.get?_push_of_some _ y
    obtain ⟨T, id, hT, ht, hg⟩ := hr p _ σ H3 x v vl vu m w s3.heap.objs.size Q I4 r1 (Heap.IsSliceOf.new ..) pl pu z3
    exact wpAny_pure (tail_any (ops := [.ref s3.heap.objs.size, v]) ht hT hg (by with_unfolding_all rfl))))⟩
theorem pe_dget (hu : X.A.units + 1 < cLine) (ho : PE X o td) (hi : PE X i ty) (hs : NoSl i) : PE X (.Subscript o i pos) (tDGet td ty) :=
  ⟨fun k I h => subD_of PySem.F.slot_dict_getitem.lookup hs (tn k (ho.run k I h) fun _ _ k1 ⟨_, _, I1, rx, z1⟩ => tn k1 (hi.run k1 I1 z1) fun _ _ _ ⟨_, H2, I2, ry, d, v, ex, gg, z2⟩ => by
    subst ex; cases rx
    exact ⟨dict_typeIs I2 gg, d_getItem hu I2 gg ry fun _ _ I3 r3 => ⟨v, H2, I3, r3, z2⟩⟩)⟩
theorem pc_din (hu : X.A.units + 1 < cLine) (hi : PE X i ty) (ho : PE X o td) : PC X .In i o (tDIn ty td) :=
  ⟨fun k I h => tn k (hi.run k I h) fun _ _ k1 ⟨_, _, I1, ry, z1⟩ => tn k1 (ho.run k1 I1 z1) fun _ _ _ ⟨_, H2, I2, rx, d, ov, ex, gg, z2⟩ => by
    subst ex; cases rx
    exact d_in hu I2 gg ry fun _ I3 => ⟨.bl ov.isSome, H2, I3, rfl, z2⟩⟩
theorem pc_dnotin (hu : X.A.units + 1 < cLine) (hi : PE X i ty) (ho : PE X o td) : PC X .NotIn i o (tDNotIn ty td) :=
  ⟨fun k I h => tn k (hi.run k I h) fun _ _ k1 ⟨_, _, I1, ry, z1⟩ => tn k1 (ho.run k1 I1 z1) fun _ _ _ ⟨_, H2, I2, rx, d, ov, ex, gg, z2⟩ => by
    subst ex; cases rx
    exact d_notIn hu I2 gg ry fun _ I3 => ⟨.bl (!ov.isSome), H2, I3, rfl, z2⟩⟩
theorem pe_dget1 (hu : X.A.units + 1 < cLine) (ho : PE X o td) (he : PE X e ty) (m : M1 X o "get" apos e cpos) : PE X (.Call (.Attribute o "get" apos) [e] [] cpos) (tDGet1 td ty) :=
  ⟨fun k I h => wpAny_Call_method m.base m.few m.line PySem.F.plainAttrs_dict PySem.F.slot_dict_get PySem.F.type_dict_get (tn k (ho.run k I h) fun _ _ k1 ⟨_, _, I1, rx, d, ex, hd, z1⟩ => by
    subst ex; cases rx
    obtain ⟨t1, t2, _⟩ := isD_at I1 hd
    refine ⟨t1, t2, ?_⟩
    rw [m.trees]
    exact Calls.callWith_builtin rfl (Calls.evalArgs_plain (Calls.spliced_cons (tn k1 (he.run k1 I1 z1) fun _ _ _ ⟨_, H2, I2, ry, _, gg, z2⟩ => Calls.spliced_nil (d_get1 hu I2 gg ry fun _ _ I3 r3 => ⟨_, H2, I3, r3, z2⟩)))))⟩
theorem pe_dget2 (hu : X.A.units + 1 < cLine) (ho : PE X o td) (he : PE X e ty) (hf : PE X f tx) (m : M2 X o "get" apos e f cpos) : PE X (.Call (.Attribute o "get" apos) [e, f] [] cpos) (tDGet2 td ty tx) :=
  ⟨fun k I h => wpAny_Call_method m.base m.few m.line PySem.F.plainAttrs_dict PySem.F.slot_dict_get PySem.F.type_dict_get (tn k (ho.run k I h) fun _ _ k1 ⟨_, _, I1, rx, d, ex, hd, z1⟩ => by
    subst ex; cases rx
    obtain ⟨t1, t2, _⟩ := isD_at I1 hd
    refine ⟨t1, t2, ?_⟩
    rw [m.trees]
    exact Calls.callWith_builtin rfl (Calls.evalArgs_plain (Calls.spliced_cons (tn k1 (he.run k1 I1 z1) fun _ _ k2 ⟨_, _, I2, ry, z2⟩ => Calls.spliced_cons (tn k2 (hf.run k2 I2 z2) fun _ _ _ ⟨_, H3, I3, rz, _, gg, z3⟩ =>
      Calls.spliced_nil (d_get2 hu I3 gg ry rz fun _ _ I4 r4 => ⟨_, H3, I4, r4, z3⟩)))))) ⟩
theorem pps_nil : PPs X pos [] [] [] := ⟨fun {p s σ H Q} _ I h => pairTrees_nil_walk ⟨[], H, I, .nil, h⟩⟩
theorem pps_cons {ks : List (Option Expr)} {vs : List Expr} {trs : List (TE × TE)} (hk : PE X e te) (hv : PE X f tf) (hr : PPs X pos ks vs trs) : PPs X pos (some e :: ks) (f :: vs) ((te, tf) :: trs) :=
  ⟨fun k I h => pairTrees_cons_walk (tn k (hk.run k I h) fun _ _ k1 ⟨x, _, I1, rx, z1⟩ => tn k1 (hv.run k1 I1 z1) fun _ _ k2 ⟨y, _, I2, ry, z2⟩ => tn k2 (hr.run k2 I2 z2) fun _ _ _ ⟨ps, H3, I3, rel, z3⟩ => ⟨(x, y) :: ps, H3, I3, .cons ⟨rx, ry⟩ rel, z3⟩)⟩
theorem pe_disp {keys : List (Option Expr)} {values : List Expr} {trs : List (TE × TE)} (h : PPs X pos keys values trs) (hall : keys.all (·.isSome) = true) (hl : keys.length = values.length) (h0 : keys ≠ []) (h15 : keys.length ≤ 15) : PE X (.Dict keys values pos) (tDisp trs) :=
  ⟨fun {p s σ H Q} k I z => by
    have hn := I.hok.fresh (Nat.le_refl s.heap.objs.size)
    have I1 := I.laid (a := s.heap.objs.size) (o := .dK []) (h' := s.heap.push { cls := .type "dict", data := .dict #[] }) (t' := s.toks) (fun _ _ y => Heap.get?_push_of_some _ y) (Nat.le_refl _) (dk_empty s.heap I.big)
    refine wpAny_Dict_walk (knd := mixKind X.prog X.w) hall hl h0 h15 (tn k (h.run (by exact k) I1 (z _ hn)) fun ws s2 k2 z2 => ?_)
    obtain ⟨ps, H2, I2, rel, e2, kvs, ep, lk, z2⟩ := z2
    subst ep
    obtain ⟨rs, cc, rk⟩ := carries_of (P := X.prog) (w := X.w) rel
    obtain ⟨_, hd, vs0, r0, dd⟩ := dk_of I2.hok e2
    cases r0
    refine ⟨rs, cc, dd, fun h' dd' hs => ⟨.ref s.heap.objs.size, _, d_write I2 (by rw [e2]; exact True.intro) hs (let ⟨w, _, _, hq, _⟩ := dd'; ⟨w, hq⟩) (dk_new ?_ hd (rk.merge .nil) dd'), rfl, z2⟩⟩
    have h1 := length_mergeK kvs []
    rw [List.length_nil] at h1
    rw [sizeLine_eq]; omega⟩
theorem pe_fmt (he : PE X e te) : PE X (.FormattedValue e (-1) none pos) (tFmt te) :=
  ⟨fun k I h => wpAny_FormattedValue_plain (tn k (he.run k I h) fun _ _ _ ⟨_, H1, I1, r1, z⟩ => by
    rcases z with ⟨w, ew, hz, z⟩ | ⟨w, ew, hz, z⟩ <;> subst ew <;> obtain ⟨t1, rfl⟩ := r1
    · exact wpAny_formatField_str ⟨.str w, H1, I1, ⟨t1, rfl⟩, z⟩ ⟨.str w, H1, I1.tok _, ⟨_, rfl⟩, z⟩ hz
    · exact wpAny_formatField_int hz ⟨.str (toString w), H1, I1.tok _, ⟨_, rfl⟩, z⟩)⟩
inductive PJ (X : Cx) : List Expr → List TE → Prop where
  | nil : PJ X [] []
  | cons {e : Expr} {t : TE} {es : List Expr} {ts : List TE} (h : PE X e t) (r : PJ X es ts) : PJ X (e :: es) (t :: ts)
theorem pj_run {p : Pins} {σ : L2.St} {ts : List TE} (h : PJ X es ts) : ∀ (acc : Str) {s : Shared} {H : Hp} {Q : Str → Hp → Prop} {R : Str → Shared → Prop}, acc.length ≤ sizeLine → 1 ≤ s.toks → Inv X p σ H s → tJs ts acc σ H Q →
    (∀ out s1 H1, out.length ≤ sizeLine → Inv X p σ H1 s1 → Q out H1 → R out s1) → Joins (model X.prog X.w) X.A X.xe (evalEach es X.env) acc R s := by
  induction h with
  | nil =>
    intro acc s H Q R hz k I z m
    have e0 : evalEach [] X.env = [] := by first | rfl | simp [evalEach]
    rw [e0]
    exact m acc s H hz I z
  | cons he r ih =>
    rename_i e1 t1 es1 ts1
    intro acc s H Q R hz k I z m
    have e0 : evalEach (e1 :: es1) X.env = eval e1 X.env :: evalEach es1 X.env := by first | rfl | simp [evalEach]
    rw [e0]
    refine tn k (he.run k I z) fun v s1 k1 ⟨x, H1, I1, r1, w, ew, hw, z1⟩ => ?_
    subst ew
    obtain ⟨tk, rfl⟩ := r1
    exact ⟨w, tk, rfl, hw, ih (acc ++ w) hw k1 I1 z1 m⟩
theorem pe_joined {v1 v2 : Expr} {ts : List TE} (h : PJ X (v1 :: v2 :: rest) ts) : PE X (.JoinedStr (v1 :: v2 :: rest) pos) (fun σ H Q => tJs ts Str.empty σ H fun out H1 => Q (.str out) H1) :=
  ⟨fun {p s σ H Q} k I z => wpAny_JoinedStr (pj_run h Str.empty (Q := fun out H1 => Q (.str out) H1) (Nat.zero_le _) k I z fun out _ H1 hz I1 z1 => ⟨hz, .str out, H1, I1.tok _, ⟨_, rfl⟩, z1⟩)⟩
theorem pe_joined1 (he : PE X e te) : PE X (.JoinedStr [e] pos) te := ⟨fun k I h => wpAny_JoinedStr_one (he.run k I h)⟩
theorem pe_chain {op op' : CmpOp} {r r' : R2} (ho : OpR X (compareOp op) r) (ho' : OpR X (compareOp op') r') (ha : PE X a ta) (hb : PE X b tb) (hc : PE X c tc) (hm : lastMarks [op, op'] [b, c] = false := by with_unfolding_all rfl) :
    PE X (.Compare a [op, op'] [b, c] pos) (tChain r r' ta tb tc) :=
  ⟨fun {p s σ H Q} k I h => Compare_chain (tn k (ha.run k I h) fun v s1 k1 ⟨x, H1, I1, r1, z1⟩ => chain_link (tn k1 (hb.run k1 I1 z1) fun u s2 k2 ⟨y, H2, I2, r2, z2⟩ => tn k2 (ho p s2 σ H2 x y v u _ I2 r1 r2 z2) fun _ _ k3 ⟨_, H3, I3, r3, d, ed, z3⟩ => by
    subst ed; cases r3
    refine wpAny_truthy_bool ?_
    cases d with
    | false => exact ite_ff ⟨.bl false, H3, I3, rfl, z3⟩
    | true => exact ite_tt (chain_last (tn k3 (hc.run k3 I3 z3) fun w s4 _ ⟨z', H4, I4, r4, z4⟩ => ho' p s4 σ H4 y z' u w Q I4 r2 r4 z4)))) hm⟩
theorem pt_chain {op op' : CmpOp} {r r' : R2} (ho : OpR X (compareOp op) r) (ho' : OpR X (compareOp op') r') (ha : PE X a ta) (hb : PE X b tb) (hc : PE X c tc) (hm : lastMarks [op, op'] [b, c] = false := by with_unfolding_all rfl) :
    PT X (.Compare a [op, op'] [b, c] pos) (tTest (tChain r r' ta tb tc)) :=
  ⟨fun {p s σ H Q} k I h => isTrue_chain (tn k (ha.run k I h) fun v s1 k1 ⟨x, H1, I1, r1, z1⟩ => test_link (tn k1 (hb.run k1 I1 z1) fun u s2 k2 ⟨y, H2, I2, r2, z2⟩ => tn k2 (ho p s2 σ H2 x y v u _ I2 r1 r2 z2) fun _ _ k3 ⟨_, H3, I3, r3, d, ed, z3⟩ => by
    subst ed; cases r3
    refine wpAny_truthy_bool ?_
    cases d with
    | false =>
      obtain ⟨d2, e2, z'⟩ := z3
      cases e2
      exact ite_ff ⟨H3, I3, z'⟩
    | true => exact ite_tt (test_last (tn k3 (hc.run k3 I3 z3) fun w s4 k4 ⟨z', H4, I4, r4, z4⟩ => tn k4 (ho' p s4 σ H4 y z' u w _ I4 r2 r4 z4) fun _ _ _ ⟨_, H5, I5, r5, d2, e2, z5⟩ => by subst e2; cases r5; exact wpAny_truthy_bool ⟨H5, I5, z5⟩)))) hm⟩
theorem prg_2 (hg : Gl X "range") (hm : X.mg "range" = none) (ha : PE X a ta) (hb : PE X b tb) (na : starEach [a, b] X.env = (false, eval a X.env) :: starEach [b] X.env := by rfl)
    (nb : starEach [b] X.env = (false, eval b X.env) :: starEach [] X.env := by rfl) (hp : (backTo pos (starEach [b] X.env)).any (·.1) = false := by rfl) : PRg X (.Call (.Name "range" q) [a, b] [] pos) (tRg2 ta tb) := fun k I h =>
  Call_ (ld_blt I hg hm boot_range (PyProof.Rows.callWith_type1 (args_cons (tn k (ha.run k I h) fun _ _ k1 ⟨_, _, I1, r1, z1⟩ => args_cons (tn k1 (hb.run k1 I1 z1) fun _ _ _ ⟨_, H2, I2, r2, d1, d2, e1, e2, z⟩ => args_nil (by
    subst e1; subst e2
    obtain ⟨t1, rfl⟩ := r1
    obtain ⟨t2, rfl⟩ := r2
    exact call_range_2 ⟨_, d1, d2, _, _, _, H2, rfl, IsRange.new _ _ _ _ _ _ _, I2.kept fun b u e => Heap.get?_push_of_some _ e, z⟩)) nb) na) na hp))
variable {tr : L2.St → Hp → (Int → Int → Hp → Prop) → Prop}
theorem pe_listRg (hc : X.calm = true) (hg : Gl X "list") (hm : X.mg "list" = none) (he : PRg X e tr) (na : starEach [e] X.env = (false, eval e X.env) :: starEach [] X.env := by rfl) : PE X (.Call (.Name "list" q) [e] [] pos) (tLstRg tr) :=
  ⟨fun k I h => Call_ (ld_blt I hg hm boot_list (PyProof.Rows.callWith_type1 (args_cons (tn k (he k I h) fun _ s1 _ ⟨r, d1, d2, t1, u1, v1, H1, ex, hr, I1, ⟨b1, b2, b3, b4, b5⟩, z⟩ => args_nil (by
    subst ex
    refine call_list_range (n := (d2 - d1).toNat) (I1.ok.hd hc) hr (small_one b1 b2 b3 b4) (rangeSize_nat d1 d2) b5 fun h' tk acc c' hk e' hi => ?_
    have J : ObjOk X.prog X.w (upd H1 s1.heap.objs.size (.lst (rgV d1 d2))) h' s1.heap.objs.size (.lst (rgV d1 d2)) := ⟨by rw [rgV_length, sizeLine_eq]; omega, acc.toList, c', vals_rg hi, by rw [Array.toArray_toList]; exact e'⟩
    exact ⟨.ref s1.heap.objs.size, _, I1.laid hk (Nat.le_refl _) J, rfl, z _ (I1.hok.fresh (Nat.le_refl _))⟩)) na) na))⟩
theorem pe_tupRg (hc : X.calm = true) (hg : Gl X "tuple") (hm : X.mg "tuple" = none) (he : PRg X e tr) (na : starEach [e] X.env = (false, eval e X.env) :: starEach [] X.env := by rfl) : PE X (.Call (.Name "tuple" q) [e] [] pos) (tTupRg tr) :=
  ⟨fun {p s σ H Q} k I h => Call_ (ld_blt I hg hm boot_tuple (PyProof.Rows.callWith_type1 (args_cons (tn k (he k I h) fun _ s1 _ ⟨r, d1, d2, t1, u1, v1, H1, ex, hr, I1, ⟨b1, b2, b3, b4, b5⟩, z⟩ => args_nil (by
    subst ex
    refine call_tuple_range (n := (d2 - d1).toNat) (I1.ok.hd hc) hr (small_one b1 b2 b3 b4) (rangeSize_nat d1 d2) b5 fun h' tk acc hk hi => ?_
    have I2 : Inv X p σ H1 { s1 with heap := h', toks := tk } := I1.kept hk
    have J : ObjOk X.prog X.w (upd H1 h'.objs.size (.tup (rgV d1 d2))) (h'.push { cls := .type "tuple", data := .seq acc }) h'.objs.size (.tup (rgV d1 d2)) := ⟨by rw [rgV_length, sizeLine_eq]; omega, acc.toList, vals_rg hi, by rw [Array.toArray_toList]; exact IsTup.new _ _⟩
    exact ⟨.ref h'.objs.size, _, I2.laid (t' := tk) (fun c o e => Heap.get?_push_of_some _ e) (Nat.le_refl _) J, rfl, z _ (I2.hok.fresh (Nat.le_refl _))⟩)) na) na))⟩
/-! ### targets -/
theorem pg_name {j : Nat} (hN : X.N.Nodup) (hi : X.N[j]? = some x) (hx : Loc X.env.scope x) (hf : X.fn x = true ∨ X.env.scope.names.lookup x = some .local := by first | exact .inl rfl | exact .inr rfl | assumption) : PG X (.Name x pos) (gName j) := .of (L2.pg_name hN hi hx hf)
theorem pgs_nil : PGs X [] gNil := ⟨fun {p s σ H vs us Q} _ I r h => L2.pgs_nil.run _ _ _ _ _ _ _ I r h⟩
theorem pgs_cons (h1 : PG X e g) (h2 : PGs X es gs) (hs : (assignEach (e :: es) X.env).map (·.2) = assign e X.env :: (assignEach es X.env).map (·.2) := by rfl) : PGs X (e :: es) (gCons g gs) :=
  ⟨fun k I r ⟨_, _, e1, h⟩ => by
    subst e1
    cases r with
    | cons r rr =>
      rw [hs]
      exact assignInOrder_cons (tn k (h1.run k I r h) fun _ _ k1 ⟨_, _, I1, z1⟩ => h2.run k1 I1 rr z1)⟩
theorem pg_tup {kk m : Nat} (hc : X.calm = true) (h : PGs X es gs) (hn : (assignEach es X.env).length = m := by rfl) (hst : (assignEach es X.env).findIdx? (·.1) = none := by rfl) : PG X (.Tuple es kk pos) (gTup X.K m gs) :=
  ⟨fun {p s σ H v u Q} k I r ⟨d, xs, e1, hq, hl, hw⟩ => by
    subst e1; cases r
    obtain ⟨its, rv, ht, hz⟩ := I.tuple hq
    refine assign_Tuple_tuple (I.ok.hd hc) ht (by simp [hn, ← hl, rv.length]) hst fun h' hx => ?_
    have I1 : Inv X p σ H { s with heap := h' } := I.kept (t' := s.toks) fun b o e => hx b o (Nat.ne_of_lt (Heap.lt_size e)) e
    exact h.run (by exact k) I1 (by simpa using rv) hw⟩
theorem pg_unl {kk m : Nat} (hc : X.calm = true) (h : PGs X es gs) (hn : (assignEach es X.env).length = m := by rfl) (hst : (assignEach es X.env).findIdx? (·.1) = none := by rfl) : PG X (.Tuple es kk pos) (gUnl X.K m gs) :=
  ⟨fun {p s σ H v u Q} k I r ⟨d, xs, e1, hq, hl, hw⟩ => by
    subst e1; cases r
    obtain ⟨its, rv, pl, hz⟩ := I.list hq
    have hl' : s.heap.IsList d its.toArray := let ⟨o, m, e, c, _, z⟩ := pl; ⟨o, e, c, m, z⟩
    rw [PyProof.Rows.assign_Tuple]
    refine wpAny_bind (wpAny_standAt ?_)
    unfold unpack
    rw [show (assignEach es X.env).length = its.toArray.size from hn.trans (hl.symm.trans (rv.length.trans (by simp))), hst]
    refine wpAny_bind (wpAny_holding (PySem.W.kun_itemsOf (I.ok.hd hc) hl' fun h' hx => ?_))
    have I1 : Inv X p σ H { s with heap := h' } := I.kept (t' := s.toks) fun b o e => hx b o (Nat.ne_of_lt (Heap.lt_size e)) e
    exact h.run (by exact k) I1 (by simpa using rv) hw⟩
theorem pg_sub {tz : TSet} (ho : PE X o to) (hi : PE X i ti) (hs : PSet X tz)
    (ha : ∀ v, assign (.Subscript o i pos) X.env v = (do
      let ov ← holding [v] (eval o X.env); let iv ← holding [v, ov] (eval i X.env)
      standAt pos; holding [v, ov, iv] (setItem ov iv v)
      release [v, ov, iv] []) := by intro _; rfl) : PG X (.Subscript o i pos) (gSub to ti tz) :=
  ⟨fun {p s σ H v u Q} k I r h => by
    rw [ha]
    exact wpAny_bind (wpAny_holding (tn k (ho.run k I h) fun ov s1 k1 ⟨x, H1, I1, r1, z1⟩ => wpAny_bind (wpAny_holding (tn k1 (hi.run k1 I1 z1) fun iv s2 k2 ⟨y, H2, I2, r2, z2⟩ =>
      wpAny_bind (wpAny_standAt (wpAny_bind (wpAny_holding (tn k2 (hs p s2 σ H2 x y v ov iv u _ I2 r1 r2 r z2) fun _ _ _ ⟨H3, I3, z3⟩ => wpAny_release ⟨σ, H3, I3, z3⟩)))))))) ⟩
/-! ### statements -/
theorem ps_pass : PS X (.Pass pos) tNext := .of L2.ps_pass
theorem ps_break : PS X (.Break pos) tBreak := .of L2.ps_break
theorem ps_continue : PS X (.Continue pos) tCont := .of L2.ps_continue
theorem ps_retN : PS X (.Return none pos) tRetN := .of L2.ps_retN
theorem ps_never : PS X st tNever := .of L2.ps_never
theorem ps_ret (he : PE X e te) : PS X (.Return (some e) pos) (tRet te) := ⟨fun {p s σ H D} k I h => wpAny_Return_some (tn k (he.run k I h) fun _ _ _ ⟨x, H1, I1, r1, z⟩ => ⟨x, σ, H1, I1, r1, z⟩)⟩
theorem ps_expr (he : PE X e te) (hs : swapsWith e none pos.line X.env = pure false := by rfl) : PS X (.Expr e pos) (tDrop te) := ⟨fun {p s σ H D} k I h => wpAny_Expr_any (tn k (he.run k I h) fun _ _ _ ⟨_, H1, I1, _, z⟩ => ⟨σ, H1, I1, z⟩) I.quiet hs⟩
theorem ps_asg {tg : Expr} (he : PE X e te) (hg : PG X tg g) (hs : swapsWithSole [tg] e pos.line X.env = pure false := by rfl) (hw : swappedStores [tg] e X.env = pure none := by rfl) (h1 : (assignEach [tg] X.env).map (·.2) = [assign tg X.env] := by rfl) :
    PS X (.Assign [tg] e pos) (tAsg te g) :=
  ⟨fun k I h => wpAny_Assign_stores (tn k (he.run k I h) fun _ _ k1 ⟨_, _, I1, r1, z⟩ => by rw [h1]; exact thn (hg.run k1 I1 r1 z) fun _ _ w => w) hs hw⟩
theorem ps_fld {f : Str} (ha : PE X o ta) (hv : PE X value tv) (hs : swapsWith value (some (.Attribute o f pos')) pos.line X.env = pure false) : PS X (.Assign [.Attribute o f pos'] value pos) (sFld X.K ta tv f) :=
  ⟨fun {p s σ H D} k I h => plainObj_wpAny_Assign_Attribute (tn k (hv.run k I h) fun _ _ k1 ⟨_, _, I1, ry, z⟩ => tn k1 (ha.run k1 I1 z) fun _ _ _ ⟨_, _, I2, rx, d, C, dx, fs, ex, ea, c, n, l, z2⟩ => by
    subst ex; cases rx
    exact setattr_ok I2 ea c n l ry fun _ I3 => ⟨σ, _, I3, z2⟩) hs⟩
theorem ps_dput (hu : X.A.units + 1 < cLine) (ho : PE X o td) (hi : PE X i ty) (hv : PE X value tv) (hs : swapsWith value (some (.Subscript o i pos')) pos.line X.env = pure false) : PS X (.Assign [.Subscript o i pos'] value pos) (sDPut td ty tv) :=
  ⟨fun {p s σ H D} k I h => wpAny_Assign_Subscript (tn k (hv.run k I h) fun _ _ k1 ⟨_, _, I1, rv, z1⟩ => tn k1 (ho.run k1 I1 z1) fun _ _ k2 ⟨_, _, I2, rx, z2⟩ => tn k2 (hi.run k2 I2 z2) fun _ _ _ ⟨_, H3, I3, ry, d, H4, ex, gg, z3⟩ => by
    subst ex; cases rx
    exact d_setItem hu I3 gg ry rv fun _ I4 => ⟨σ, H4, I4, z3⟩) hs⟩
theorem pss_nil : PSs X [] tNext := ⟨fun {p s σ H D} _ I h => wpAny_execs_nil ⟨σ, H, I, h⟩⟩
theorem pss_cons (h1 : PS X st t) (h2 : PSs X sts u) : PSs X (st :: sts) (tSeq t u) :=
  ⟨fun {p s σ H D} k I h => wpAny_execs_cons (tn k (h1.run (D := { D with nx := u D }) k I h) fun fl _ k1 z => by
    cases fl with
    | next => obtain ⟨_, _, I1, z⟩ := z; exact h2.run k1 I1 z
    | _ => exact z)⟩
theorem pss_one (h1 : PS X st t) : PSs X [st] t := ⟨fun k I h => wpAny_execs_cons (tn k (h1.run k I h) fun fl _ _ z => by
    cases fl with
    | next => exact wpAny_execs_nil z
    | _ => exact z)⟩
theorem ps_if {s1 s2 : List Stmt} (hc : PT X c tt) (ha : PSs X s1 t) (hb : PSs X s2 u) : PS X (.If c s1 s2 pos) (tIfS tt t u) :=
  ⟨fun k I h => wpAny_If (tn k (hc.run k I h) fun d _ k1 ⟨_, I1, z⟩ => by cases d with | true => exact ha.run k1 I1 z | false => exact hb.run k1 I1 z)⟩
theorem pts_nil : PTs X [] tYes := ⟨fun {p s σ H Q} _ I h => wpAny_tests_nil ⟨H, I, h⟩⟩
theorem pts_one (h : PT X c tt) : PTs X [c] tt := ⟨fun k I z => wpAny_tests_one (h.run k I z)⟩
end
end DL

set_option Elab.async false
set_option linter.all false
set_option maxRecDepth 100000
set_option maxHeartbeats 2000000
namespace DL
open PySem PySem.Spec PyProof.Rows L2
section
variable {X : Cx} {a b c e f o i l value tg : Expr} {es rest body : List Expr} {st : Stmt} {sts : List Stmt} {ta tb tc te tf to ti tl td ty tx tv : TE} {t u : TS} {tt tA tB' : TT} {al : TA} {g : TG} {gs : TGs} {pos apos cpos q q2 pos' : Pos} {x y : Str} {n : Nat} {wi : TI}
/-! ### loops -/
theorem ps_while {c : Expr} (hp : PassesOwn (model X.prog X.w) X.A X.env X.xe) (hc : PT X c tt) (hb : PSs X sts t) : PS X (.While c sts [] pos) (tWhile tt t) :=
  ⟨fun {p s σ H D} k I ⟨W, ⟨m0, w0⟩, turn⟩ => by
    refine wpAny_While (codeAny_whileLoop (fun m s' => 1 ≤ s'.toks ∧ ∃ σ' H', Inv X p σ' H' s' ∧ W m σ' H') (fun m s1 ⟨k1, σ1, H1, I1, w1⟩ => ?_) m0 ⟨k, σ, H, I, w0⟩)
    refine wpAny_passesOwn hp (tn k1 (hc.run k1 I1 (turn m σ1 H1 w1)) fun d s2 k2 ⟨H2, I2, z2⟩ => ?_)
    cases d with
    | false => rw [if_neg Bool.false_ne_true]; exact wpAny_execs_nil ⟨σ1, H2, I2, z2⟩
    | true =>
      obtain ⟨N, hN, z2⟩ := z2
      have nxt : ∀ {s3 : Shared} {σ3 : L2.St} {H3 : Hp}, 1 ≤ s3.toks → Inv X p σ3 H3 s3 → N σ3 H3 → ∃ m', m' < m ∧ 1 ≤ s3.toks ∧ ∃ σ' H', Inv X p σ' H' s3 ∧ W m' σ' H' := fun {s3 σ3 H3} k3 I3 n3 =>
        let ⟨m', hm, w3⟩ := hN σ3 H3 n3
        ⟨m', hm, k3, σ3, H3, I3, w3⟩
      rw [if_pos rfl]
      exact wpAny_passesOwn hp (tn k2 (hb.run k2 I2 z2) fun fl s3 k3 z3 => by
        cases fl with
        | next => obtain ⟨_, _, I3, n3⟩ := z3; exact nxt k3 I3 n3
        | cont => obtain ⟨_, _, I3, n3⟩ := z3; exact nxt k3 I3 n3
        | brk => exact z3
        | ret v => exact z3)⟩
theorem ps_for {iter : Expr} (hp : PassesOwn (model X.prog X.w) X.A X.env X.xe) (hc : X.calm = true) (hi : PI X tg iter wi) (hg : PG X tg g) (hb : PSs X sts t) (hs : ∀ x, foldedSetIterable iter X.env x = pure x := by intro _; rfl) :
    PS X (.For tg iter sts [] pos) (tFor wi g t) :=
  ⟨fun {p s σ H D} k I h => by
    refine wpAny_For (tn k (hi.run k I h) fun v s1 k1 h1 => tn k1 h1 fun itv s2 k2 h2 => ?_) hs
    obtain ⟨it, fp, tm, J, H2, e2, I2, T, st2, f2, W, ⟨m0, w0⟩, turn⟩ := h2
    subst e2
    have fpo : ∀ {H' : Hp}, (∀ d ∈ fp, H' d = none) → ∀ d ∈ fp, FpOk X p H' d := fun hn d hd => ⟨hn d hd, (f2 d hd).2⟩
    refine codeAny_forLoop_any (fun m s' => 1 ≤ s'.toks ∧ ∃ j σ' H', Inv X p σ' H' s' ∧ tm j s'.heap ∧ (∀ d ∈ fp, H' d = none) ∧ W j m σ' H') (fun m s3 ⟨k3, j, σ3, H3, I3, st3, fr3, w3⟩ => ?_) m0 ⟨k2, 0, σ, H2, I2, st2, fun d hd => (f2 d hd).1, w0⟩
    rcases turn j m σ3 H3 w3 with ⟨stop, zn⟩ | ⟨go, N, hN, step⟩
    · exact wpAny_passesOwn hp (thn (T.done X rfl rfl rfl hc j p s3 σ3 H3 X.xe I3 (fpo fr3) st3 stop) fun r s4 ⟨hr, I4⟩ => by subst hr; exact wpAny_execs_nil ⟨σ3, H3, I4, zn⟩)
    · refine wpAny_passesOwn hp (tn k3 (T.item X rfl rfl rfl hc j p s3 σ3 H3 X.xe I3 (fpo fr3) st3 go) fun r s4 k4 ⟨w, hr, h4⟩ => ?_)
      subst hr
      refine wpAny_passesOwn hp (tn k4 h4 fun _ s5 k5 ⟨y, H5, I5, r5, y5, st5, fr5⟩ => ?_)
      have back : ∀ {s7 : Shared} {σ7 : L2.St} {H7 : Hp}, 1 ≤ s7.toks → Inv X (p ++ pinsAt fp s5.heap) σ7 H7 s7 → N σ7 H7 → ∃ m', m' < m ∧ 1 ≤ s7.toks ∧ ∃ j σ' H', Inv X p σ' H' s7 ∧ tm j s7.heap ∧ (∀ d ∈ fp, H' d = none) ∧ W j m' σ' H' := fun {s7 σ7 H7} k7 I7 n7 => by
        obtain ⟨m', hm, w7⟩ := hN σ7 H7 n7
        have pn : ∀ d ∈ fp, ∀ o, s5.heap.get? d = some o → s7.heap.get? d = some o ∧ H7 d = none := fun d hd o eo =>
          have z := I7.pin (d, o) (List.mem_append_right _ (List.mem_append_right _ (mem_pinsAt hd eo)))
          ⟨z.1, z.2.1⟩
        exact ⟨m', hm, k7, j + 1, σ7, H7, I7.unpinned, T.keep _ _ _ st5 fun d hd o eo => (pn d hd o eo).1, fun d hd => let ⟨o, eo, _⟩ := T.obj _ _ st5 d hd; (pn d hd o eo).2, w7⟩
      refine wpAny_passesOwn hp (tn k5 (hg.run k5 (I5.pinned (fpo fr5) (T.obj _ _ st5)) r5 (step y H5 y5)) fun _ s6 k6 ⟨σ6, H6, I6, z6⟩ => ?_)
      refine wpAny_passesOwn hp (tn k6 (hb.run k6 I6 z6) fun fl s7 k7 z7 => ?_)
      cases fl with
      | next => obtain ⟨_, _, I7, n7⟩ := z7; exact back k7 I7 n7
      | cont => obtain ⟨_, _, I7, n7⟩ := z7; exact back k7 I7 n7
      | brk => obtain ⟨σ7, H7, I7, z7⟩ := z7; exact ⟨σ7, H7, I7.unpinned, z7⟩
      | ret v => obtain ⟨x7, σ7, H7, I7, r7, z7⟩ := z7; exact ⟨x7, σ7, H7, I7.unpinned, r7, z7⟩⟩
theorem ps_par {i j : Nat} {px py pt : Pos} {kt k2 pt2} (hc : X.calm = true) (hN : X.N.Nodup) (hi : X.N[i]? = some x) (hj : X.N[j]? = some y) (hij : i ≠ j) (hx : X.env.scope.names.lookup x = some .local) (hy : X.env.scope.names.lookup y = some .local) (ha : PA X [a, b] al)
    (hw : swappedStores [.Tuple [.Name x px, .Name y py] kt pt] (.Tuple [a, b] k2 pt2) X.env = pure (some [x, y])) (hs : swapsWithSole [.Tuple [.Name x px, .Name y py] kt pt] (.Tuple [a, b] k2 pt2) pos.line X.env = pure false := by rfl) :
    PS X (.Assign [.Tuple [.Name x px, .Name y py] kt pt] (.Tuple [a, b] k2 pt2) pos) (tPar i j al) :=
  ⟨fun {p s σ H D} k I h => by
    rw [exec_Assign_arm]
    refine wpAny_bind (wpAny_standAt ?_)
    rw [hs]
    refine wpAny_bind (wpAny_pure ?_)
    rw [if_neg (by decide)]
    refine wpAny_bind (Tuple_ (tn k (ha.run _ k I h) fun us s1 _ ⟨vs, H1, I1, r1, v, w, e1, z1⟩ => ?_))
    subst e1
    obtain ⟨u1, u2, eu, rv, rw'⟩ : ∃ u1 u2, us = [u1, u2] ∧ RelV v u1 ∧ RelV w u2 := by
      rcases us with _ | ⟨u1, _ | ⟨u2, _ | ⟨u3, ur⟩⟩⟩
      · exact absurd (Paired.length r1) (by simp)
      · exact absurd (Paired.length r1) (by simp)
      · cases r1 with | cons p1 r2 => cases r2 with | cons p2 r3 => exact ⟨u1, u2, rfl, p1, p2⟩
      · exact absurd (Paired.length r1) (by simp)
    subst eu
    refine wpAny_newObj_type ?_ (by show 2 ≤ sizeLine; decide)
    have I2 : Inv X p σ H1 { s1 with heap := s1.heap.push { cls := .type "tuple", data := .seq [u1, u2].toArray } } := I1.kept (t' := s1.toks) fun _ _ e => Heap.get?_push_of_some _ e
    rw [hw]
    refine wpAny_bind (wpAny_pure ?_)
    show wpAny (model X.prog X.w) X.A (do rule "assign.swapped-stores"; let items ← unpackItems (.ref s1.heap.objs.size) 2 none; assignInOrder [fun v => bindName X.env y v, fun v => bindName X.env x v] items.reverse; pure Flow.next) _ _ _
    refine wpAny_bind (wpAny_rule (wpAny_bind (unpackItems_tuple (items := #[u1, u2]) (I.ok.hd hc) (IsTup.new s1.heap _) fun h' hx' => ?_)))
    have I3 := I2.kept (h' := h') (t' := s1.toks) fun b o e => hx' b o (Nat.ne_of_lt (Heap.lt_size e)) e
    show wpAny _ _ (assignInOrder [fun v => bindName X.env y v, fun v => bindName X.env x v] [u2, u1] >>= fun _ => pure Flow.next) _ _ _
    refine wpAny_bind (assignInOrder_cons (wpAny_bindName (store_ok I3 hN hj (.inl hy) rw' (fun _ I4 => ?_) (.inr hy))))
    refine assignInOrder_cons (wpAny_bindName (store_ok I4 hN hi (.inl hx) rv (fun _ I5 => assignInOrder_nil (wpAny_pure ?_)) (.inr hx)))
    rw [List.set_comm _ _ (Ne.symm hij)] at I5
    exact ⟨_, H1, I5, z1⟩⟩
/-! ### what is walked -/
theorem pi_list (hl : PE X l tl) : PI X tg l (iList X.K tl) :=
  ⟨fun {p s σ H R} k I h => tn k (hl.run k I h) fun _ s1 _ ⟨_, H1, I1, r1, d, ed, ⟨xs, hq⟩, z⟩ => by
    subst ed; cases r1
    obtain ⟨its, rv, pl, _⟩ := I1.list hq
    exact wpAny_pyIter_list pl.isList (pi_one (tk := s1.toks) I1 _ (turn_list d _) ⟨_, Heap.get?_push_size _ rfl, rfl, rfl⟩ z)⟩
theorem pi_range1 (hg : Gl X "range") (hm : X.mg "range" = none) (ha : PA X [a] al) (hs : starEach [a] X.env = [(false, eval a X.env)] := by rfl) : PI X tg (.Call (.Name "range" q) [a] [] pos) (iRng1 al) :=
  ⟨fun {p s σ H R} k I h => Call_ (ld_blt I hg hm boot_range (PyProof.Rows.callWith_type1 (tn k (ha.run pos k I h) fun us s1 _ ⟨vs, H1, I1, r1, d, ed, z1, z2, z⟩ => by
    subst ed
    rcases r1 with _ | ⟨⟨t1, rfl⟩, r1⟩
    cases r1
    exact call_range_1 (range_it I1 (by omega) (by omega) z1 z2 (by simpa using z))) hs rfl))⟩
theorem pi_range2 (hg : Gl X "range") (hm : X.mg "range" = none) (ha : PA X [a, b] al) (hs : starEach [a, b] X.env = [(false, eval a X.env), (false, eval b X.env)] := by rfl) (hs2 : starEach [b] X.env = [(false, eval b X.env)] := by rfl) :
    PI X tg (.Call (.Name "range" q) [a, b] [] pos) (iRng2 al) :=
  ⟨fun {p s σ H R} k I h => Call_ (ld_blt I hg hm boot_range (PyProof.Rows.callWith_type1 (tn k (ha.run pos k I h) fun us s1 _ ⟨vs, H1, I1, r1, d1, d2, ed, ⟨z1, z2, z3, z4⟩, z⟩ => by
    subst ed
    rcases r1 with _ | ⟨⟨t1, rfl⟩, r1⟩
    rcases r1 with _ | ⟨⟨t2, rfl⟩, r1⟩
    cases r1
    exact call_range_2 (range_it I1 z1 z2 z3 z4 z)) (by rw [hs, hs2]) (by rw [hs2]; rfl)))⟩
end
/-! ### comprehensions -/
section
variable {X : Cx} {elt tg iter : Expr} {ifs : List Expr} {scope : Scope} {own : List (Str × Nat)} {pos pos' spos py : Pos} {wi : TI} {g : TG} {tt : TT} {te : TE}
theorem tnF {α : Type} {m : Sem α} {Q Q' : α → Shared → Prop} {M : Model} {A : Around} {E : Value → Shared → Prop} {s : Shared} (k : 1 ≤ s.toks) (h : wpAny M A m Q (fun _ _ => False) s) (f : ∀ a s', 1 ≤ s'.toks → Q a s' → Q' a s') : wpAny M A m Q' E s :=
  wpAny_mono (wpAny_toks_of k h) (fun a s' z => f a s' z.1 z.2) fun _ _ z => z.2.elim
abbrev InBlk (X : Cx) (scope : Scope) (J : Cx → Prop) : Prop := ∀ (s : Shared) (H : Hp) (C : Addr) (cl : List (Str × Addr)) (fp : List Addr), J (X.blk s H scope (compEnvC scope cl C X.env) fp)
theorem lc_core {p : Pins} {s : Shared} {σ : L2.St} {H : Hp} {Q : VK} {use : Option (Value → Sem Unit)} {Qf : Value → Shared → Prop} (k0 : 1 ≤ s.toks) (hc : X.calm = true) (hN : X.N.Nodup) (I : Inv X p σ H s) (hi : PI X tg iter wi) (ok : BlkOk X.N X.env.scope scope own)
    (hg : InBlk X scope fun Y => PG Y tg g) (ht : InBlk X scope fun Y => PTs Y ifs tt) (he : InBlk X scope fun Y => PE Y elt te) (hs : ∀ x, foldedSetIterable iter X.env x = pure x) (h : tLc wi g tt te (own.map (·.2)) σ H Q)
    (fin : ∀ D C s' m H', Inv X p σ H' s' → Q (.ref D) H' → s'.heap.Ns C m → FpOk X p H' C → compPost (model X.prog X.w) X.A X.xe use Qf (.ref D) C (.ok .next) s') :
    wpAny (model X.prog X.w) X.A (comprehension (.ListComp elt [⟨tg, iter, ifs, 0⟩] scope pos) scope X.env pos' (newList []) false (eval iter X.env) use) Qf X.xe s := by
  refine wpAny_comprehension_free (use := use) rfl hs (closure_ok fun y hy ey => (ok.free y hy ey).elim (fun z => I.ok.has _ (.inl z)) fun z => I.ok.has _ (.inr z)) ok.kind (fun y hy ey => by rw [ok.uniq y hy, ey])
    (tn k0 (hi.run k0 I h) fun xv s1 k1 hx => tn k1 hx fun itv s2 k2 ⟨it, fp, tm, J, H2, e2, I2, T, st2, f2, z⟩ => ?_)
  subst e2
  refine wpAny_newObj_type (newEnv_comp ?_) (by show 0 ≤ sizeLine; decide)
  generalize hD : s2.heap.objs.size = D
  have hDn : H2 D = none := I2.hok.fresh (Nat.le_of_eq hD)
  obtain ⟨W, ⟨m0, w0⟩, turn⟩ := z D hDn
  generalize hs3 : ({ s2 with heap := s2.heap.push { cls := .type "list", data := .seq ([] : List Value).toArray } } : Shared) = s3
  have h3 : s3.heap = s2.heap.push { cls := .type "list", data := .seq ([] : List Value).toArray } := by rw [← hs3]
  have k3 : 1 ≤ s3.toks := by rw [← hs3]; exact k2
  have I3 : Inv X p σ (upd H2 D (.lst [])) s3 := by
    rw [← hs3]
    exact I2.laid (t' := s2.toks) (fun _ _ y => Heap.get?_push_of_some _ y) (Nat.le_of_eq hD) ⟨Nat.zero_le _, [], 0, .nil, by rw [← hD]; exact Heap.get?_push_size _ rfl⟩
  have f3 : ∀ d ∈ fp, FpOk X p (upd H2 D (.lst [])) d ∧ d < s3.heap.objs.size := fun d hd => by
    have hlt : d < s2.heap.objs.size := let ⟨_, eo, _⟩ := T.obj _ _ st2 d hd; Heap.lt_size eo
    refine ⟨⟨?_, (f2 d hd).2⟩, by rw [h3, Heap.size_push]; exact Nat.lt_succ_of_lt hlt⟩
    rw [upd_ne (hD ▸ Nat.ne_of_lt hlt)]
    exact (f2 d hd).1
  have st3 : tm 0 s3.heap := T.keep _ _ _ st2 fun d _ o y => by rw [h3]; exact Heap.get?_push_of_some _ y
  have I4 := block_start I3 ok hN f3
  have bg := hg s3 (upd H2 D (.lst [])) s3.heap.objs.size (cellsFrom (s3.heap.objs.size + 1) scope.names (cloFrom X.env.cells scope.names [])) fp
  have bt := ht s3 (upd H2 D (.lst [])) s3.heap.objs.size (cellsFrom (s3.heap.objs.size + 1) scope.names (cloFrom X.env.cells scope.names [])) fp
  have be := he s3 (upd H2 D (.lst [])) s3.heap.objs.size (cellsFrom (s3.heap.objs.size + 1) scope.names (cloFrom X.env.cells scope.names [])) fp
  show codeAny _ _ (.compStart (.ListComp elt [⟨tg, iter, ifs, 0⟩] scope pos) 0 (.ref it) (.ref D) (compEnvC scope (cellsFrom (s3.heap.objs.size + 1) scope.names (cloFrom X.env.cells scope.names [])) s3.heap.objs.size X.env))
    (compPost (model X.prog X.w) X.A X.xe use Qf (.ref D) s3.heap.objs.size) { s3 with heap := pushCells (s3.heap.push { cls := .type "dict", data := .dict #[] }) scope.names }
  have n3 : ∀ d ∈ fp, (upd H2 D (.lst [])) d = none := fun d hd => (f3 d hd).1.1
  generalize hce : compEnvC scope (cellsFrom (s3.heap.objs.size + 1) scope.names (cloFrom X.env.cells scope.names [])) s3.heap.objs.size X.env = ce at I4 bg bt be ⊢
  have cL : ce.locals = s3.heap.objs.size := by subst hce; rfl
  generalize hH3 : upd H2 D (.lst []) = H3 at I3 I4 bg bt be w0 n3 f3
  generalize hs4 : ({ s3 with heap := pushCells (s3.heap.push { cls := .type "dict", data := .dict #[] }) scope.names } : Shared) = s4 at I4 ⊢
  have k4 : 1 ≤ s4.toks := by rw [← hs4]; exact k3
  have st4 : tm 0 s4.heap := T.keep _ _ _ st3 fun d _ o y => by rw [← hs4]; exact pushCells_keeps _ _ _ _ (Heap.get?_push_of_some _ y)
  have fpB : ∀ {σ' : L2.St} {H' : Hp} {s' : Shared}, Inv (X.blk s3 H3 scope ce fp) [] σ' H' s' → (∀ d ∈ fp, H' d = none) → ∀ d ∈ fp, FpOk (X.blk s3 H3 scope ce fp) [] H' d := fun I' hn d hd =>
    ⟨hn d hd, (I'.ok.exf d hd).1, I'.ok.exfs d hd, .inl hd, fun x c ec => (I'.ok.exf d hd).2 x c ec, fun w hw => absurd (show w ∈ ([] : Pins) ++ [] from hw) (by simp)⟩
  have loop : codeAny (model X.prog X.w) X.A (.compLoop (.ListComp elt [⟨tg, iter, ifs, 0⟩] scope pos) 0 (.ref it) (.ref D) ce) (compPost (model X.prog X.w) X.A X.xe use Qf (.ref D) s3.heap.objs.size) s4 := by
    refine compLoop_any (fun m s' => 1 ≤ s'.toks ∧ ∃ j H', Inv (X.blk s3 H3 scope ce fp) [] (wipe σ (own.map (·.2))) H' s' ∧ tm j s'.heap ∧ (∀ d ∈ fp, H' d = none) ∧ W j m H') (fun m s5 ⟨k5, j, H5, I5, st5, n5, w5⟩ => ?_) m0 ⟨k4, 0, H3, I4, st4, n3, w0⟩
    rcases turn j m H5 w5 with ⟨stop, zz⟩ | ⟨go, Nx, hNx, step⟩
    · refine thnF (T.done (X.blk s3 H3 scope ce fp) rfl rfl rfl hc j [] s5 _ H5 (fun _ _ => False) I5 (fpB I5 n5) st5 stop) fun r s6 ⟨hr, I6⟩ => ?_
      subst hr
      have nC : H5 s3.heap.objs.size = none := cL ▸ I6.free
      obtain ⟨m6, hn, _⟩ := I6.loc
      have hn : s6.heap.Ns ce.locals m6 := hn
      rw [cL] at hn
      exact fin D s3.heap.objs.size s6 m6 H5 (I3.call' (ch := fp) I6.os I6.base I6.hok I6.bare fun d hd => ⟨(f3 d hd).1.2.2.2.1, (f3 d hd).1.2.1, (f3 d hd).1.2.2.2.2.1, (f3 d hd).1.2.2.2.2.2⟩) zz hn (I3.fpOk (Nat.le_refl _) nC)
    · refine tnF k5 (T.item (X.blk s3 H3 scope ce fp) rfl rfl rfl hc j [] s5 _ H5 (fun _ _ => False) I5 (fpB I5 n5) st5 go) fun r s6 k6 ⟨w, hr, h6⟩ => ?_
      subst hr
      refine tnF k6 h6 fun _ s7 k7 ⟨y, H7, I7, r7, y7, st7, n7⟩ => ?_
      refine tnF k7 (bg.run k7 (I7.pinned (fpB I7 n7) (T.obj _ _ st7)) r7 (step y H7 y7)) fun _ s8 k8 ⟨σ8, H8, I8, hw8, z8⟩ => ?_
      have done : ∀ {s' : Shared} {H' : Hp}, 1 ≤ s'.toks → Inv (X.blk s3 H3 scope ce fp) ([] ++ pinsAt fp s7.heap) σ8 H' s' → Nx H' → ∃ m', m' < m ∧ 1 ≤ s'.toks ∧ ∃ j H', Inv (X.blk s3 H3 scope ce fp) [] (wipe σ (own.map (·.2))) H' s' ∧ tm j s'.heap ∧ (∀ d ∈ fp, H' d = none) ∧ W j m' H' := fun {s' H'} k' I' nx => by
        obtain ⟨m', hm, w'⟩ := hNx H' nx
        have pn : ∀ d ∈ fp, ∀ o, s7.heap.get? d = some o → s'.heap.get? d = some o ∧ H' d = none := fun d hd o eo =>
          have z := I'.pin (d, o) (List.mem_append_right _ (List.mem_append_right _ (mem_pinsAt hd eo)))
          ⟨z.1, z.2.1⟩
        refine ⟨m', hm, k', j + 1, H', (I'.unpinned (pins := [])).weak (by rw [← hw8, wipe_length]) (fun i v ei => ?_), T.keep _ _ _ st7 fun d hd o eo => (pn d hd o eo).1, fun d hd => let ⟨o, eo, _⟩ := T.obj _ _ st7 d hd; (pn d hd o eo).2, w'⟩
        rw [← hw8] at ei
        exact (wipe_some ei).1
      refine tnF k8 (bt.run k8 I8 z8) fun d s9 k9 ⟨H9, I9, z9⟩ => ?_
      cases d with
      | false => simp only [Bool.false_eq_true, if_false] at z9 ⊢; exact done k9 I9 z9
      | true =>
        simp only [if_true] at z9 ⊢
        exact tnF k9 (be.run k9 I9 z9) fun w s10 k10 ⟨_, H10, I10, r10, acc, hD10, hz10, nx⟩ => tnF k10 (app_ok (X := X.blk s3 H3 scope ce fp) (Q := fun _ s' => Inv (X.blk s3 H3 scope ce fp) ([] ++ pinsAt fp s7.heap) σ8 _ s') I10 hD10 hz10 r10 fun s11 I11 => I11) fun _ s11 k11 I11 => done k11 I11 nx
  exact codeAny_compStart_list loop (T.self X.A 0 _ _ _ st4 loop)
theorem pe_lc (hc : X.calm = true) (hN : X.N.Nodup) (hi : PI X tg iter wi) (ok : BlkOk X.N X.env.scope scope own) (hg : InBlk X scope fun Y => PG Y tg g) (ht : InBlk X scope fun Y => PTs Y ifs tt) (he : InBlk X scope fun Y => PE Y elt te)
    (hs : ∀ x, foldedSetIterable iter X.env x = pure x := by intro _; rfl) : PE X (.ListComp elt [⟨tg, iter, ifs, 0⟩] scope pos) (tLc wi g tt te (own.map (·.2))) :=
  ⟨fun {p s σ H Q} k I h => by
    rw [eval_ListComp]
    exact lc_core k hc hN I hi ok hg ht he hs h fun D C s' m H' I' z hn ⟨f0, f1, f2, f3, f4, f5⟩ => ⟨m, hn, fun h2 sb => ⟨.ref D, H', I'.turned (t' := s'.toks) (fun d o hd eo => (sb.2 d hd).trans eo) f0 f1 f3 f4 f5, rfl, z⟩⟩⟩
theorem ps_setLc {i : Nat} {y : Str} (hc : X.calm = true) (hN : X.N.Nodup) (hy : X.N[i]? = some y) (hyl : X.env.scope.names.lookup y = some .local) (hsw : swapsWith (.ListComp elt [⟨tg, iter, ifs, 0⟩] scope pos) (some (.Name y py)) spos.line X.env = pure true)
    (hi : PI X tg iter wi) (ok : BlkOk X.N X.env.scope scope own) (hg : InBlk X scope fun Y => PG Y tg g) (ht : InBlk X scope fun Y => PTs Y ifs tt) (he : InBlk X scope fun Y => PE Y elt te) (hs : ∀ x, foldedSetIterable iter X.env x = pure x := by intro _; rfl) :
    PS X (.Assign [.Name y py] (.ListComp elt [⟨tg, iter, ifs, 0⟩] scope pos) spos) (tAsg (tLc wi g tt te (own.map (·.2))) (gName i)) :=
  ⟨fun {p s σ H D} k I h => by
    rw [exec_Assign_Name_used _ _ _ _ hsw]
    refine wpAny_bind (wpAny_standAt (wpAny_bind ?_))
    have h : tLc wi g tt te (own.map (·.2)) σ H (fun x H1 => gName i x σ H1 D.nx) := h
    refine wpAny_bind (thn (lc_core (Qf := fun _ s' => SP X p D .next s') k hc hN I hi ok hg ht he hs h fun L C s' m H' I' z hn ⟨f0, f1, f2, f3, f4, f5⟩ => ?_) fun _ s' hq => wpAny_pure (wpAny_pure hq))
    show wpAny _ _ (assign (.Name y py) X.env (.ref L)) _ _ _
    refine wpAny_assign_Name (store_ok2 (v := V.ref L) I' hN hy (.inl hyl) rfl (fun s2 I2 ⟨d, sb, hd⟩ => ⟨m, hn.sameBut sb ?_, fun h3 sb3 => ⟨_, H', I2.turned (t' := s2.toks) (fun b o hb eb => (sb3.2 b hb).trans eb) f0 f1 f3 f4 f5, z⟩⟩) (.inr hyl))
    exact hd.elim (fun w => w ▸ f1) fun w ec => f4 y d w ec.symm⟩
/-! ### a def of the text, by its body -/
theorem fn_of {CX : CXT} {P : Program} {w : World} {K : PySem.W.Frag} {mg : Str → Option Value} {base : Heap} {k : Nat} {f : Addr} {name qual : Str} {params : Arguments} {body : List Stmt} {scope : Scope} {dV kV doc pm cdv ct oc : Value} {an od : Option Addr} {osl : Array (Option Value)} {N ps : List Str} {sp : Sp}
    (lk : K.lookup f = some ⟨oc, od, .func (PySem.W.fnOf name qual params body scope dV kV doc pm an cdv ct), osl⟩) (hcd : PySem.W.codeIn K cdv qual = true) (S : FnScope N ps scope) (len : ∀ vs H Q E, sp vs H Q E → vs.length = ps.length)
    (hbody : ∀ (A : Around) (outer : List Env) (s : Shared) (H : Hp) (vs : List V) (Q : VK) (E : XK), Room k (A.deeper (envOfC qual scope s.heap.objs.size f cdv)) → sp vs H Q E →
      ∃ t, PSs (cxOf CX P w K mg base N qual scope f cdv A outer s H E) body t ∧ t { nx := fun _ H' => Q .non H', rt := Q } (start N vs) H) :
    FnOk P w K mg base CX (k + 1) f (PySem.W.fnOf name qual params body scope dV kV doc pm an cdv ct) ps sp :=
  ⟨len, fun A outer s H args us vs Q E k1 hr e0 hb r hsp => by
    have KX : K.In s.heap := e0.mod.kin.keeps fun b o e => (e0.bs b o e).1
    have lim : s.heap.NoLimit := e0.mod.nolimit.keeps fun b o e => (e0.bs b o e).1
    refine codeAny_call_function hr.depth (KX _ _ lk) rfl S.co S.gen rfl (PySem.W.codeRec_of KX hcd) (hb _ _ _ _ (wpAny_with_toks k1 (wpAny_newFunctionEnv_cells S.kind (fun ⟨m, v⟩ hy => (S.par m (List.of_mem_zip hy).1).imp id fun z => ⟨z, PySem.W.cellsFrom_some _ _ _ (.inl z)⟩) fun env he s1 xx k2 => ?_)))
    subst he
    refine ⟨lim.keeps xx.toInCall.keep, codeAny_func ?_⟩
    obtain ⟨t, ht, hq⟩ := hbody A outer s H vs Q E (hr.deeper _) hsp
    have I : Inv (cxOf CX P w K mg base N qual scope f cdv A outer s H E) [] (start N vs) H s1 := inv_start S hr.hd e0 (len _ _ _ _ hsp) r xx
    refine wpAny_mono (ht.run k2 I hq) (fun fl s' z => ?_) fun _ _ z => z
    have out : ∀ {σ' : L2.St} {H' : Hp} {v : V} {u : Value}, Inv (cxOf CX P w K mg base N qual scope f cdv A outer s H E) [] σ' H' s' → RelV v u → Q v H' → CE outer P w H s Q u s' := fun J rv q => ⟨_, _, J.os, J.bare, J.base, J.hok, rv, q⟩
    cases fl with
    | ret u => obtain ⟨_, _, _, J, rv, q⟩ := z; exact out J rv q
    | next => obtain ⟨_, _, J, q⟩ := z; exact out (v := V.non) (u := Value.none) J rfl q
    | brk => obtain ⟨_, _, _, q⟩ := z; exact q.elim
    | cont => obtain ⟨_, _, _, q⟩ := z; exact q.elim⟩
end
end DL

set_option Elab.async false
set_option linter.all false
set_option maxRecDepth 100000
set_option maxHeartbeats 2000000
namespace DL
open PySem PySem.Spec PyProof.Rows L2 RZ
theorem PSs.nox {X : Cx} {sts : List Stmt} {t : TS} (h : PSs X.nox sts t) : PSs X sts t := ⟨fun k I z => wpAny_mono (h.run k (I.wish _) z) (fun _ _ w => w.unwish) fun _ _ w => w.elim⟩
section
variable {P : Program} {w : World} {K : PySem.W.Frag} {mg : Str → Option Value} {base : Heap}
theorem fun_ok {x qual : Str} {st : Stmt} {f : Addr} {fd : FuncData} {N ps : List Str} {k : Nat} {sp : Sp} (F : Fun K x qual st f fd) (S : FnScope N ps (defScope st)) (len : ∀ vs H Q E, sp vs H Q E → vs.length = ps.length)
    (hbody : ∀ (cdv : Value) (A : Around) (outer : List Env) (s : Shared) (H : Hp) (vs : List V) (Q : VK) (E : XK), Room k (A.deeper (envOfC qual (defScope st) s.heap.objs.size f cdv)) → sp vs H Q E →
      ∃ t, PSs (cxOf CX0 P w K mg base N qual (defScope st) f cdv A outer s H E).nox (defBody st) t ∧ t { nx := fun _ H' => Q .non H', rt := Q } (start N vs) H) : FnOk P w K mg base CX0 (k + 1) f fd ps sp := by
  obtain ⟨oc, od, kV, doc, pm, an, cdv, ct, osl, e, lk, hcd⟩ := F.ex
  subst e
  exact fn_of lk hcd S len fun A outer s H vs Q E hr z => let ⟨t, h, q⟩ := hbody cdv A outer s H vs Q E hr z; ⟨t, h.nox, q⟩
end
section
variable {X : Cx} {e f : Expr} {al : TA} {pos q tpos : Pos} {elts : List Expr} {kk : Nat}
theorem pi_zipA (hg : Gl X "zip") (hm : X.mg "zip" = none) (ha : PA X [e, f] al) (hs : starEach [e, f] X.env = (false, eval e X.env) :: starEach [f] X.env := by rfl) (hpl : (backTo pos (starEach [f] X.env)).any (·.1) = false := by rfl) :
    PI X (.Tuple elts kk tpos) (.Call (.Name "zip" q) [e, f] [] pos) (iZipA X.K al) :=
  ⟨fun {p s σ H R} k I h => Call_ (ld_blt I hg hm PyProof.Rows.boot_zip (PyProof.Rows.callWith_type1 (tn k (ha.run pos k I h) fun us s1 _ ⟨vs, H1, I1, r1, a, b, xs, ys, ex, z⟩ => by
    subst ex
    obtain ⟨u1, u2, eu, rv, rw'⟩ : ∃ u1 u2, us = [u1, u2] ∧ RelV (V.ref a) u1 ∧ RelV (V.ref b) u2 := by
      cases r1 with | cons p1 r2 => cases r2 with | cons p2 r3 => cases r3; exact ⟨_, _, rfl, p1, p2⟩
    subst eu; cases rv; cases rw'
    have fr : ∀ c, c ∈ [s1.heap.objs.size + 4, s1.heap.objs.size + 2, s1.heap.objs.size + 3, s1.heap.objs.size, s1.heap.objs.size + 1] → FpOk X p H1 c := fun c hc => by
      have hle : s1.heap.objs.size ≤ c := by
        simp only [List.mem_cons, List.not_mem_nil, or_false] at hc
        rcases hc with w | w | w | w | w <;> rw [w] <;> first | exact Nat.le_refl _ | exact Nat.le_add_right _ _
      exact I1.fpOk hle (I1.hok.fresh hle)
    rcases z with ⟨hx, hy, z⟩ | ⟨hx, hy, z⟩
    · obtain ⟨its, rv, p1, _⟩ := I1.list hx
      obtain ⟨its2, rv2, p2, _⟩ := I1.list hy
      refine call_zip_2 p1.isList p2.isList fun h' hz hTI hTO h1 h2 hsz hk => wpAny_pyIter_zip hz ?_
      exact ⟨s1.heap.objs.size + 4, [s1.heap.objs.size + 4, s1.heap.objs.size + 2, s1.heap.objs.size + 3, s1.heap.objs.size, s1.heap.objs.size + 1], _, _, H1, rfl, I1.kept (t' := s1.toks) hk, turn_zip (PySem.W.ktu_apart s1.heap.objs.size a b p1.lt p2.lt), ⟨hz, hTI, ⟨_, _, hTO⟩, h1, h2⟩, fr, z⟩
    · obtain ⟨its, rv, p1, _⟩ := I1.tuple hx
      obtain ⟨its2, rv2, p2, _⟩ := I1.tuple hy
      obtain ⟨o1, ho1, _⟩ := id p1
      obtain ⟨o2, ho2, _⟩ := id p2
      refine call_zipT (show s1.heap.IsTuple a its.toArray from p1) (show s1.heap.IsTuple b its2.toArray from p2) fun h' hz hTI hTO h1 h2 hsz hk => wpAny_pyIter_zip hz ?_
      exact ⟨s1.heap.objs.size + 4, [s1.heap.objs.size + 4, s1.heap.objs.size + 2, s1.heap.objs.size + 3, s1.heap.objs.size, s1.heap.objs.size + 1], _, _, H1, rfl, I1.kept (t' := s1.toks) hk, turn_zipT (PySem.W.ktu_apart s1.heap.objs.size a b (Heap.lt_size ho1) (Heap.lt_size ho2)), ⟨hz, hTI, ⟨_, _, hTO⟩, h1, h2⟩, fr, z⟩) hs hpl))⟩
end
end DL

set_option Elab.async false
set_option linter.all false
set_option maxRecDepth 100000
set_option maxHeartbeats 2000000
/-! Exceptions of own classes over ValueError whose __init__ says super().__init__(e). -/
namespace DL
open PySem PySem.Spec PyProof.Rows L2 NdefX
/-! ### super().__init__(..) bound, called -/
section
variable {prog : Program} {w : World} {A : Around} {E : Value → Shared → Prop} {h : Heap} {g : Array GenState} {d : Drawn} {t : Nat} {os : OsState}
variable {nm q : Str} {C N : Addr} {bs bm : List Value} {hdct : Bool} {sn : List Str} {sub : List Value} {ab : Bool} {col : Option Bool} {dd : Option Addr} {k0 k1 k2 k3 k5 : Option Value}
theorem call_bwV {u e t0 : Addr} {rest : List Value} {Q : Value → Shared → Prop}
    (hC : h.get? C = some (excClassObj nm q C N bs bm hdct sn sub ab col dd k0 k1 k2 k3 k5 "ValueError.__new__")) (he : h.get? e = some (HandSPX.excO C t0)) (hu : h.get? u = some (PySem.W.kxs_mw "ValueError.__init__" e)) (hrest : rest.length ≤ sizeLine)
    (hq : ∀ h' t1, (∀ b o, b ≠ e → h.get? b = some o → h'.get? b = some o) → h'.get? e = some (HandSPX.excO C t1) → Q .none ⟨h', g, d, t, os⟩) :
    wpAny (model prog w) A (call (.ref u) rest) Q E ⟨h, g, d, t, os⟩ := by
  refine wpAny_call (codeAny_of_tree ?_)
  show wpAny _ A.in1 (callAny (.ref u) ⟨rest, []⟩) _ _ _
  simp only [callAny]
  refine wpAny_bind (wpAny_load hu ?_)
  simp only [PySem.W.kxs_mw, show (Value.type "method-wrapper" == Value.type "method" || Value.type "method-wrapper" == Value.type "builtin_function_or_method" || Value.type "method-wrapper" == Value.type "method-wrapper") = true by decide, if_true]
  refine W.KFB.if_so (by decide) ?_
  refine wpAny_bind (PySem.W.check_bound_init F.excBase_ValueError.toExcCallFacts hC he rfl ?_)
  refine wpAny_bind (wpAny_pure (wpAny_pure ?_))
  refine ⟨Code.quiet_builtin _ (by decide +kernel), codeAny_builtin F.excBase_ValueError.initEntry ?_⟩
  rw [Around.under_plainId F.excBase_ValueError.init.plain _]
  wp_walk
  refine hq _ h.objs.size (fun b o hb ho => ?_) ?_
  · rw [Heap.get?_update_other _ _ (Ne.symm hb)]
    exact Heap.get?_push_of_some _ ho
  · rw [Heap.get?_update_self _ (Heap.get?_push_of_some _ he) rfl]
    rfl
end
/-- what the written part says of such an __init__: its class C, its cell, its code object -/
structure SupC (P : Program) (K : PySem.W.Frag) (C cc ca : Addr) : Prop where
  oex : OexC K C
  cell : ∃ cl cld csl, K.lookup cc = some ⟨cl, cld, .cell (some (.ref C)), csl⟩
  code : ∃ ccl cdd vs ccs file tf, K.lookup ca = some ⟨ccl, cdd, .fields vs, ccs⟩ ∧ vs[2]? = some (.str file tf) ∧ ((P.main.file : Str) == file) = true
  ini : PySem.W.ks_superIn K C C "__init__" = some (some (.builtin "ValueError.__init__"))
  isV : PySem.W.subIn K (.ref C) (.type "ValueError") = some true
  self : PySem.W.mroIn K C (.ref C) = some true
  thr : PySem.W.nsIn K cStatics "thirdparty.any" = some none
  top : (P.main.scope.names.lookup ("super" : Str)).isSome = false
abbrev supSt (p0 p1 p2 p3 p4 : Pos) (e : Expr) : Stmt := .Expr (.Call (.Attribute (.Call (.Name "super" p0) [] [] p1) "__init__" p2) [e] [] p3) p4
section
variable {X : Cx} {pins : Pins} {σ : L2.St} {H : Hp} {s : Shared} {a C cc ca f : Addr} {p0 p1 p2 p3 p4 : Pos} {e : Expr} {body : List Stmt} {ta : TA} {fd : FuncData} {of : Obj} {ar : Arg}
theorem super_walk (k0 : 1 ≤ s.toks) (I : Inv X pins σ H s) (sc : SupC X.prog X.K C cc ca) (lk : X.K.lookup f = some of) (hfd : of.data = .func fd) (hp : (fd.params.posonlyargs ++ fd.params.args).head? = some ar)
    (hks : X.env.kindOf "super" = some .globalImplicit) (hkc : X.env.kindOf "__class__" = some .free) (hka : X.env.kindOf ar.arg = some .local) (hfu : X.env.func = some f) (hco : X.env.code = .ref ca) (hsup : X.mg "super" = none)
    (hcells : X.env.cells.lookup ("__class__" : Str) = some cc) (hN : X.N[0]? = some ar.arg) (h0 : σ[0]? = some (some (.ref a))) (ea : H a = some (exo a C none)) (ha : PA X [e] ta)
    (hst : starEach [e] X.env = [(false, eval e X.env)]) (hint : interactive X.env = false)
    {R : Flow → Shared → Prop} {R' : List V → Hp → Prop} (h : ta σ H R') (hR' : ∀ xs H1, R' xs H1 → xs.length ≤ 1000 ∧ H1 a = some (exo a C none) ∧ ∀ s', 1 ≤ s'.toks → Inv X pins σ H1 s' → R .next s')
    (hcall : ∃ pl : Sem Bool, eval (.Call (.Attribute (.Call (.Name "super" p0) [] [] p1) "__init__" p2) [e] [] p3) X.env = (do
      let ov ← attributeBase (.Call (.Name "super" p0) [] [] p1) "__init__" X.env (eval (.Call (.Name "super" p0) [] [] p1) X.env)
      standAt p2.atName
      let (f, first) ← holding [ov] (getMethod ov "__init__" pl)
      callWith p3 f first (backTo p3 (starEach [e] X.env)) [])) :
    PySem.wpAt (model X.prog X.w) X.A (.func body X.env) (exec (supSt p0 p1 p2 p3 p4 e) X.env) R X.xe s := by
  obtain ⟨cl, cld, csl, hcell⟩ := sc.cell
  obtain ⟨ccl, cdd, fvs, ccs, file, tf, hcode, hfv, hfile⟩ := sc.code
  obtain ⟨nm, q, N', bs, bm, sn, sub, ab, col, dd, j0, j1, j2, j3, j5, hC, hbm⟩ := sc.oex.cls
  have hD : PySem.W.clsIn X.K C = some { name := nm, bases := bs, mro := .ref C :: bm, ns := N', qualname := q, hasDict := true, slotNames := sn, subclasses := sub, abstract := ab, collection := col, hasDel := false } := by unfold PySem.W.clsIn; rw [hC] <;> rfl
  obtain ⟨pl, hcall⟩ := hcall
  refine ks_wpAt_Expr_any (ks_wpAt_MethodCall ?_ hcall) hint
  have Kin := I.kIn
  obtain ⟨mb, hb1, hb2⟩ := I.mod.blt
  obtain ⟨m, hns, hlook⟩ := id I.loc
  obtain ⟨u, ru, lu⟩ := hlook 0 ar.arg (.ref a) hN h0 (.inl hka)
  obtain rfl : u = Value.ref a := ru
  have hm : m ar.arg = some (.ref a) := by
    rcases lu with ⟨_, z⟩ | ⟨z, _⟩
    · exact z
    · rw [hka] at z; rcases z with z | z <;> cases z
  obtain ⟨t1, ho⟩ := exo_at I.hok ea
  obtain ⟨hh, g, dr, tk, os⟩ := s
  refine ks_wpAt_super_base (env := X.env) hks hkc (by decide) hfu (Kin _ _ lk) hfd hp hco (Kin _ _ hcode) rfl hfv hfile sc.top ?_
  refine PySem.W.ks_loadName_global I.ok.kind hks (Calls.loadGlobal_builtin (by rw [I.ok.glob]; exact I.mod.glob.keeps I.bk) hsup (by rw [I.ok.blt]; exact hb1.keeps I.bk) ((hb2 "super" (by decide)).trans (by first | boot_by_name | rfl | kernel_rfl)) ⟨rfl, ?_⟩)
  refine wpAny_loadName_free I.ok.kind hkc hcells ⟨_, Kin _ _ hcell, rfl⟩ ?_
  refine wpAny_loadName_local I.ok.kind hka hns hm ?_
  refine ks_wpAny_isType_cls (Kin _ _ hC) rfl ⟨rfl, ?_⟩
  refine ks_wpAny_call_super (Kin _ _ hC) rfl ho rfl (fun c z => by cases z) (PySem.W.looks_mroIn Kin sc.self) (fun h' e1 kk => ?_)
  have I1 : Inv X pins σ H ⟨h', g, dr, tk, os⟩ := I.kept kk
  have J : PySem.W.InstAt h' a { cls := .ref C, dict := none, data := .fields #[.ref t1, .none, .none, .none, .bool false, .none] } C none := ⟨kk _ _ ho, rfl, rfl, trivial⟩
  have hini : PySem.W.alongIn X.K "__init__" (((.ref C :: bm).dropWhile (· != .ref C)).drop 1) = some (some (.builtin "ValueError.__init__")) := by
    have z := sc.ini
    unfold PySem.W.ks_superIn at z
    rw [hD] at z
    exact z
  refine PySem.W.kxs_getMethod PySem.W.kxs_ValueError e1 (PySem.W.looks_opaque I1.kIn sc.thr) (l₀ := .ref C :: bm) (fun A Q E s k z => wpAny_bind ((PySem.W.looks_clsIn I1.kIn hD) A _ E s k (wpAny_pure z))) rfl I1.kIn hini (J.type.andThen (PySem.W.looks_subIn I1.kIn sc.isV)) (PySem.W.ks_ne I1.kIn J hD) (by decide) ?_
  have I2 : Inv X pins σ H ⟨h'.push (PySem.W.kxs_mw "ValueError.__init__" a), g, dr, tk + 1, os⟩ := I1.kept (t' := tk + 1) fun _ _ z => Heap.get?_push_of_some _ z
  have fp := I1.fpOk (Nat.le_refl _) (I1.hok.fresh (Nat.le_refl _))
  have gu : (h'.push (PySem.W.kxs_mw "ValueError.__init__" a)).get? h'.objs.size = some (PySem.W.kxs_mw "ValueError.__init__" a) := Heap.get?_push_size _ rfl
  have I3 : Inv X (pins ++ [(h'.objs.size, PySem.W.kxs_mw "ValueError.__init__" a)]) σ H ⟨h'.push (PySem.W.kxs_mw "ValueError.__init__" a), g, dr, tk + 1, os⟩ := I2.pins_of fun p hp => by
    rcases List.mem_append.mp hp with z | z
    · exact I2.pin p (List.mem_append_right _ z)
    · rw [List.mem_singleton.mp z]
      exact ⟨gu, fp.1, fp.2.1, fp.2.2.1, fun v z => by cases z⟩
  show wpAny _ _ (callWith p3 (.ref h'.objs.size) [] (backTo p3 (starEach [e] X.env)) []) _ _ _
  have hrun := ha.run p3 (show 1 ≤ (⟨h'.push (PySem.W.kxs_mw "ValueError.__init__" a), g, dr, tk + 1, os⟩ : Shared).toks from Nat.le_add_left 1 tk) I3 h
  rw [hst] at hrun ⊢
  refine PySem.W.kxs_callWith (i := "ValueError.__init__") (u := h'.objs.size) (x := a) rfl (Calls.evalArgs_plain ?_)
  refine tn (Nat.le_add_left 1 tk) hrun fun us s4 k4 ⟨xs, H4, I4, r4, z4⟩ => ?_
  obtain ⟨hl4, ea4, hR⟩ := hR' xs H4 z4
  have hu4 := (I4.pin (h'.objs.size, PySem.W.kxs_mw "ValueError.__init__" a) (List.mem_append_right _ (List.mem_append_right _ (by simp)))).1
  refine ⟨hu4, ?_⟩
  obtain ⟨t4, ho4⟩ := exo_at I4.hok ea4
  have hle : us.length ≤ sizeLine := by
    rw [← Paired.length r4, sizeLine_eq]
    omega
  obtain ⟨h4, g4, d4, t5, os4⟩ := s4
  show wpAny _ _ (call (.ref h'.objs.size) us) _ _ _
  refine call_bwV (I4.kIn _ _ hC) ho4 hu4 hle fun h6 t6 k6 he6 => ?_
  have I4' : Inv X pins σ H4 ⟨h4, g4, d4, t5, os4⟩ := I4.unpinned
  have J6 := I4'.write (t' := t5) (x := a) (e := a) (o := exo a C none) (by rw [ea4]; exact True.intro) (.inl rfl) k6 ⟨_, he6⟩ (exo_ok he6)
  have eu : upd H4 a (exo a C none) = H4 := by
    funext b
    by_cases hb : b = a
    · rw [hb, upd_same, ea4]
    · rw [upd_ne hb]
  rw [eu] at J6
  exact hR _ k4 J6
end
section
variable {P : Program} {w : World} {K : PySem.W.Frag} {mg : Str → Option Value} {base : Heap} {N ps : List Str} {f C cc ca : Addr} {k : Nat} {sp : Sp} {CX : CXT}
  {name qual : Str} {params : Arguments} {rest : List Stmt} {scope : Scope} {dV kV doc pm ct oc : Value} {an od : Option Addr} {osl : Array (Option Value)} {p0 p1 p2 p3 p4 : Pos} {e : Expr} {self0 : Str}
abbrev supF (name qual : Str) (params : Arguments) (body : List Stmt) (scope : Scope) (cc ca : Addr) : NF := ⟨name, qual, params, body, scope, [("__class__", cc)], ca⟩
theorem fn_init (lk : K.lookup f = some ⟨oc, od, .func (PySem.W.ksFn name qual params (supSt p0 p1 p2 p3 p4 e :: rest) scope dV kV doc pm an (.ref ca) ct cc), osl⟩) (hcd : PySem.W.codeIn K (.ref ca) qual = true) (S : NScope N ps ["__class__"] scope) (sc : SupC P K C cc ca)
    (hself : ∃ ar, (params.posonlyargs ++ params.args).head? = some ar ∧ ps[0]? = some ar.arg) (hsup : mg "super" = none) (hks : scope.names.lookup ("super" : Str) = some .globalImplicit)
    (hst : ∀ env, starEach [e] env = [(false, eval e env)])
    (hcall : ∀ env : Env, ∃ pl : Sem Bool, eval (.Call (.Attribute (.Call (.Name "super" p0) [] [] p1) "__init__" p2) [e] [] p3) env = (do
      let ov ← attributeBase (.Call (.Name "super" p0) [] [] p1) "__init__" env (eval (.Call (.Name "super" p0) [] [] p1) env)
      standAt p2.atName
      let (f, first) ← holding [ov] (getMethod ov "__init__" pl)
      callWith p3 f first (backTo p3 (starEach [e] env)) []))
    (len : ∀ vs H Q E, sp vs H Q E → vs.length = ps.length)
    (hbody : ∀ (A : Around) (outer : List Env) (s : Shared) (H : Hp) (vs : List V) (Q : VK) (E : XK), Room k (A.deeper (envF (supF name qual params (supSt p0 p1 p2 p3 p4 e :: rest) scope cc ca) f s.heap.objs.size)) → sp vs H Q E →
      ∃ ta t a r, vs = .ref a :: r ∧ H a = some (exo a C none) ∧ PA (ncx CX P w K mg base N (supF name qual params (supSt p0 p1 p2 p3 p4 e :: rest) scope cc ca) f A outer s H E) [e] ta ∧
        PSs (ncx CX P w K mg base N (supF name qual params (supSt p0 p1 p2 p3 p4 e :: rest) scope cc ca) f A outer s H E) rest t ∧
        ta (startF N vs [none]) H fun xs H1 => xs.length ≤ 1000 ∧ H1 a = some (exo a C none) ∧ t { nx := fun _ H' => Q .non H', rt := Q } (startF N vs [none]) H1) :
    FnOk P w K mg base CX (k + 1) f (PySem.W.ksFn name qual params (supSt p0 p1 p2 p3 p4 e :: rest) scope dV kV doc pm an (.ref ca) ct cc) ps sp := by
  refine ⟨len, fun A outer s H args us vs Q E k1 hr e0 hb r hsp => ?_⟩
  have hl := len _ _ _ _ hsp
  have KX : K.In s.heap := e0.mod.kin.keeps fun b o e => (e0.bs b o e).1
  have lim : s.heap.NoLimit := e0.mod.nolimit.keeps fun b o e => (e0.bs b o e).1
  obtain ⟨cl, cld, csl, hcell⟩ := sc.cell
  obtain ⟨ccl, cdd, fvs, ccs, file, tf, hcode, hfv, hfile⟩ := sc.code
  obtain ⟨ar, har, hps⟩ := hself
  refine codeAny_call_function hr.depth (KX _ _ lk) rfl S.co S.gen rfl (PySem.W.codeRec_of KX hcd) (hb _ _ _ _ ?_)
  refine wpAny_newFunctionEnv S.nocell (fun ⟨n, _⟩ hy => S.par n (List.of_mem_zip hy).1) (fun h₁ hns hsb => ⟨lim.fresh _ hsb, ?_⟩) S.kind
  have kp : ∀ b o, s.heap.get? b = some o → h₁.get? b = some o := fun b o e => hsb.extBut b o (Nat.ne_of_lt (Heap.lt_size e)) (Heap.get?_push_of_some _ e)
  have baseK : ∀ {c : Addr} {o : Obj}, K.lookup c = some o → base.get? c = some o := fun {c o} z => e0.mod.kin _ _ z
  obtain ⟨ta, t, a, r0, ev, ea, hA, hrest, hq⟩ := hbody A outer s H vs Q E (hr.deeper _) hsp
  generalize hF : supF name qual params (supSt p0 p1 p2 p3 p4 e :: rest) scope cc ca = F at *
  have CA : CellsAt F.cl ["__class__"] [none] s.heap H := by
    subst hF
    refine ⟨rfl, fun y c hy => ?_, fun x y c hx hy => ?_, fun i y hi => ?_⟩
    · have : c = cc := by
        by_cases z : y = "__class__"
        · subst z; simp [List.lookup] at hy; exact hy.symm
        · have z' : (y == ("__class__" : Str)) = false := by simpa using z
          simp [List.lookup, z'] at hy
      subst this
      exact ⟨(e0.bs _ _ (baseK hcell)).2, _, _, (e0.bs _ _ (baseK hcell)).1, rfl⟩
    · have one : ∀ {z : Str}, ([("__class__", cc)] : List (Str × Addr)).lookup z = some c → z = "__class__" := fun {z} h => by
        by_cases q : z = "__class__"
        · exact q
        · have z' : (z == ("__class__" : Str)) = false := by simpa using q
          simp [List.lookup, z'] at h
      rw [one hx, one hy]
    · cases i with
      | zero =>
        simp at hi; subst hi
        exact ⟨cc, by simp [List.lookup], fun v hv => by simp at hv⟩
      | succ i => simp at hi
  have hsc : F.scope = scope := by subst hF; rfl
  have I : Inv (ncx CX P w K mg base N F f A outer s H E) [] (startF N vs [none]) H { s with heap := h₁, toks := s.toks + (ps.zip us).length } := inv_startN (hsc ▸ S) hr.hd e0 hl r CA hns kp
  have hv0 : (startF N vs [none])[0]? = some (some (.ref a)) := by rw [ev]; unfold startF; rfl
  have hk1 : 1 ≤ s.toks + (ps.zip us).length := by omega
  generalize s.toks + (ps.zip us).length = tk at *
  have hkc : scope.names.lookup ("__class__" : Str) = some .free := S.frk _ (by simp)
  have hka : scope.names.lookup ar.arg = some .local := S.par _ (List.mem_of_getElem? hps)
  have hN0 : N[0]? = some ar.arg := by
    have q := S.pre
    have hl0 : 0 < ps.length := (List.getElem?_eq_some_iff.mp hps).1
    have z : (N.take (ps.length + 1))[0]? = some ar.arg := by rw [show ps.length + 1 = ps.length + (["__class__"] : List Str).length from rfl, q, List.getElem?_append_left hl0]; exact hps
    rwa [List.getElem?_take_of_lt (by omega)] at z
  subst hF
  show codeAny _ _ (.func (supSt p0 p1 p2 p3 p4 e :: rest) (envF (supF name qual params (supSt p0 p1 p2 p3 p4 e :: rest) scope cc ca) f s.heap.objs.size)) _ _
  refine ks_codeAny_funcAt ?_
  refine ks_wpAt_mono (Q := SP (ncx CX P w K mg base N (supF name qual params (supSt p0 p1 p2 p3 p4 e :: rest) scope cc ca) f A outer s H E) [] { nx := fun _ H' => Q .non H', rt := Q }) (E' := (ncx CX P w K mg base N (supF name qual params (supSt p0 p1 p2 p3 p4 e :: rest) scope cc ca) f A outer s H E).xe) ?_ (fun fl s' z => ?_) (fun e s' z => z)
  · refine ks_wpAt_execs_cons ?_
    refine super_walk (X := ncx CX P w K mg base N (supF name qual params (supSt p0 p1 p2 p3 p4 e :: rest) scope cc ca) f A outer s H E) (C := C) (cc := cc) (ca := ca) (f := f) (fd := PySem.W.ksFn name qual params (supSt p0 p1 p2 p3 p4 e :: rest) scope dV kV doc pm an (.ref ca) ct cc) (ar := ar) hk1 I sc lk rfl har hks hkc hka rfl rfl hsup rfl hN0 hv0 ea hA (hst _) I.quiet hq (fun xs H1 z => ⟨z.1, z.2.1, fun s' k' I' => ?_⟩) (hcall _)
    exact wpAt_of_wpAny (hrest.run k' I' z.2.2)
  · have out : ∀ {σ' : L2.St} {H' : Hp} {v : V} {u : Value}, Inv (ncx CX P w K mg base N (supF name qual params (supSt p0 p1 p2 p3 p4 e :: rest) scope cc ca) f A outer s H E) [] σ' H' s' → RelV v u → Q v H' → CE outer P w H s Q u s' := fun J rv q => ⟨_, _, J.os, J.bare, J.base, J.hok, rv, q⟩
    cases fl with
    | ret u => obtain ⟨_, _, _, J, rv, q⟩ := z; exact out J rv q
    | next => obtain ⟨_, _, J, q⟩ := z; exact out (v := V.non) (u := Value.none) J rfl q
    | brk => obtain ⟨_, _, _, q⟩ := z; exact q.elim
    | cont => obtain ⟨_, _, _, q⟩ := z; exact q.elim
end
end DL

set_option Elab.async false
set_option linter.all false
set_option maxRecDepth 100000
set_option maxHeartbeats 2000000
/-! Raising, calls that may raise, try: at states that have given out a token. -/
namespace DL
open PySem PySem.Spec PyProof.Rows L2
section
variable {X : Cx} {a b c e f o i l value tg : Expr} {es rest body : List Expr} {st : Stmt} {sts : List Stmt} {ta tb tc te tf to ti tl td ty tx tv : TE} {t u : TS} {al : TA} {pos apos q q2 pos' p' : Pos} {x y n : Str}
theorem ps_ost {f : Str} (ho : PE X o to) (he : PE X e te) (hs : swapsWith e (some (.Attribute o f p')) pos.line X.env = pure false := by rfl) : PS X (.Assign [.Attribute o f p'] e pos) (tOst X.K f to te) :=
  ⟨fun {p s σ H D} k I h => by
    refine plainObj_wpAny_Assign_Attribute (tn k (he.run k I h) fun v s1 k1 ⟨y, H1, I1, r1, q1⟩ => tn k1 (ho.run k1 I1 q1) fun u s2 k2 ⟨x, H2, I2, r2, a, C, ex, T, hno, q⟩ => ?_) hs
    subst ex
    obtain rfl : u = Value.ref a := r2
    rcases q with ⟨ea, q⟩ | ⟨dx, fs, ea, ed, hl, q⟩
    · exact ost_new T I2 ea hno r1 fun dx s' n ne J => ⟨σ, _, J, q dx n ne⟩
    · exact ost_old T I2 ea ed hl hno r1 fun s' J => ⟨σ, _, J, q⟩⟩
/-- an expression that makes an exception -/
def PMk (X : Cx) (e : Expr) (t : L2.St → Hp → XK → Prop) : Prop :=
  ∀ {p : Pins} {s : Shared} {σ : L2.St} {H : Hp} {Q : XK}, 1 ≤ s.toks → Inv X p σ H s → t σ H Q → wpAny (model X.prog X.w) X.A (eval e X.env) (L2N.MkP X p σ Q) X.xe s
theorem ps_raise {W : WX} {t : L2.St → Hp → XK → Prop} (hc : X.calm = true) (tk : L2N.Takes X W) (he : PMk X e t) : PS X (.Raise (some e) none pos) (fun _ σ H => t σ H fun cls d H' => W cls d σ H') :=
  ⟨fun {p s σ H D} k I h => by
    show wpAny _ _ (do standAt pos; raiseStmt X.env (some (do let v ← eval e X.env; standAt pos; pure v)) none) _ _ _
    refine wpAny_bind (wpAny_standAt (raise_made (I.ok.hd hc) (wpAny_bind (wpAny_mono (he k I h) (fun u s1 hu => wpAny_bind (wpAny_standAt (wpAny_pure ?_))) fun _ _ x => x))))
    obtain ⟨a, oe, vs, sI, H', cls, d, rfl, J, k, hne, ha, hz, hd, h1, na, os, ag, r, q⟩ := hu
    obtain ⟨r1, r2⟩ := r (model X.prog X.w) s1.heap (J.kIn.keeps k)
    exact ⟨a, oe, vs, cls, rfl, ha, hz.1, hd, h1, r1, r2, tk _ _ (L2N.XE.new J k hne ha hz hd h1 na os ag q)⟩⟩
/-- C(e, ..), C's own __init__ keeping sp -/
theorem pmk_oex {CX : CXT} {C fI : Addr} {k : Nat} {fd : FuncData} {ps : List Str} {sp : Sp} (T : OexC X.K C) (iC : PySem.W.findIn X.K (.ref C) "__init__" = some (some (.ref fI))) (tI : PySem.W.typeIn X.K (.ref fI) = some (.type "function")) (kC : PySem.W.keepIn X.K (.ref C) = true)
    (F1 : FnOk X.prog X.w X.K X.mg X.base CX k fI fd ps sp) (hr : Room (k + 1) X.A) (hb : Binds X.K fd ps []) (hx : Passes CX X (fun _ _ _ => False)) (hg : Gl X x) (hm : X.mg x = some (.ref C)) (ha : PA X (e :: es') ta')
    (hdb : (x == ("__debug__" : Str)) = false := by decide) (he : starEach (e :: es') X.env = (false, eval e X.env) :: starEach es' X.env := by rfl) (hpl : (backTo pos (starEach es' X.env)).any (·.1) = false := by rfl) :
    PMk X (.Call (.Name x q) (e :: es') [] pos) (tMkO C sp [] ta') := by
  intro p s σ H Q k0 I h
  obtain ⟨nm, q, N, bs, bm, sn, sub, ab, col, dd, j0, j1, j2, j3, j5, hC, hbm⟩ := T.cls
  refine wpAny_Call_Name_kw (ld_glob I hg hm ?_ hdb)
  refine PySem.W.callWith_K (h₀ := X.base) I.ok.mod.kin kC (tn k0 (ha.run pos k0 I h) fun us s1 k1 ⟨vs, H1, I1, r1, hz, q1⟩ => ⟨I1.kIn, ?_⟩) he hpl
  show wpAny _ _ (call (.ref C) us) _ _ _
  obtain ⟨hp, g, dr, tk, os⟩ := s1
  have hsz : hp.objs.size ≤ hp.objs.size + 1 := Nat.le_succ _
  have hn : H1 (hp.objs.size + 1) = none := I1.hok.fresh hsz
  have hq := q1 (hp.objs.size + 1) hn
  rw [List.append_nil] at hq
  have kk : ∀ b o, hp.get? b = some o → ((hp.push (PySem.W.kdv_tup us)).push (PySem.HandSPX.excO C hp.objs.size)).get? b = some o := fun b o e => Heap.get?_push_of_some _ (Heap.get?_push_of_some _ e)
  have hget : ((hp.push (PySem.W.kdv_tup us)).push (PySem.HandSPX.excO C hp.objs.size)).get? (hp.objs.size + 1) = some (PySem.HandSPX.excO C hp.objs.size) := by heap_get
  have I2 : Inv X p σ (upd H1 (hp.objs.size + 1) (exo (hp.objs.size + 1) C none)) ⟨(hp.push (PySem.W.kdv_tup us)).push (PySem.HandSPX.excO C hp.objs.size), g, dr, tk, os⟩ :=
    I1.laid (t' := tk) (a := hp.objs.size + 1) (o := exo (hp.objs.size + 1) C none) (h' := (hp.push (PySem.W.kdv_tup us)).push (PySem.HandSPX.excO C hp.objs.size)) kk hsz (exo_ok hget)
  have r2 : Vals (V.ref (hp.objs.size + 1) :: vs) (Value.ref (hp.objs.size + 1) :: us) := .cons rfl r1
  have hl : (Value.ref (hp.objs.size + 1) :: us ++ []).length = ps.length := by
    have e := r2.length
    rw [F1.len _ _ _ _ hq] at e
    rw [List.append_nil]
    exact e.symm
  have hus : us.length ≤ sizeLine := by
    rw [← Paired.length r1, sizeLine_eq]
    omega
  have b2 := hb _ (Value.ref (hp.objs.size + 1) :: us) I2.kIn hl
  rw [List.append_nil] at b2
  refine wpAny_call (PySem.HandSPX.call_own F.excBase_ValueError (fun Y => PySem.HandSPX.refsVE_contains Y bm hbm) (I1.kIn _ _ hC) (PySem.W.looks_findIn I1.kIn iC) (fun self => PySem.W.bind_fn I1.kIn self tI) hus
    (codeAny_mono (F1.run _ X.stack _ _ ⟨Value.ref (hp.objs.size + 1) :: us, []⟩ (Value.ref (hp.objs.size + 1) :: us) _ _ (fun _ _ _ => False) (by exact k1) (hr.make C us []) (I2.env0.make C us []) b2 r2 hq) fun r s' hq' => ?_))
  cases r with
  | error er => exact hx p σ _ _ er s' I2 hq'
  | ok fl =>
    cases fl with
    | ret u =>
      obtain ⟨v, H2, os2, bare2, un2, hok2, rv, ev, d, fs, ea, ed, hd1, q2⟩ := hq'
      subst ev
      obtain ⟨h2, g2, d2, t2, os'⟩ := s'
      obtain ⟨t0, G, J, kG, ge, hoe, na⟩ := mk_end0 (d2 := d2) (t2 := t2) I1 hsz kk un2 hok2 os2 bare2 ea ed hd1
      exact ⟨rv, hp.objs.size + 1, _, _, ⟨G, g2, d2, t2, os'⟩, _, .ref C, some d, rfl, J, kG, ge, hoe, ⟨rfl, rfl, fun vs hv => by cases hv; rfl⟩, rfl, rfl, na, rfl, bare2, raises_own T.exC T.tyC, q2⟩
    | next => exact False.elim hq'
    | brk => exact False.elim hq'
    | cont => exact False.elim hq'
end
/-! ### calls of what may raise -/
section
variable {X : Cx} {CX : CXT} {k : Nat} {f C : Addr} {fd : FuncData} {ps : List Str} {sp : Sp} {E : L2.St → XK} {x m : Str} {q pos apos : Pos} {e o : Expr} {es : List Expr} {ta : TE} {t : TA}
theorem run_fnS {p : Pins} {σ : L2.St} {H : Hp} {s : Shared} {Q : VK} {us : List Value} {vs : List V} (F : FnOk X.prog X.w X.K X.mg X.base CX k f fd ps sp) (hr : Room k X.A) (hb : Binds X.K fd ps []) (hx : PassesAt CX X σ (E σ)) (k1 : 1 ≤ s.toks)
    (I : Inv X p σ H s) (r : Vals vs us) (h : sp vs H Q (E σ)) : wpAny (model X.prog X.w) X.A (call (.ref f) us) (EP X p σ Q) X.xe s := by
  have hl : us.length = ps.length := by rw [← Paired.length r]; exact F.len _ _ _ _ h
  have b := hb s us I.kIn (by rw [List.append_nil]; exact hl)
  rw [List.append_nil] at b
  refine wpAny_call (codeAny_mono (F.run X.A X.stack s H ⟨us, []⟩ us vs Q (E σ) k1 hr I.env0 b r h) fun r s' hq => ?_)
  rcases r with er | fl
  · exact hx p H s er s' I hq
  · cases fl <;> first | exact I.after hq | exact hq.elim
theorem pe_callS (F : FnOk X.prog X.w X.K X.mg X.base CX k f fd ps sp) (hr : Room k X.A) (hg : Gl X x) (hm : X.mg x = some (.ref f)) (hk : PySem.W.keepIn X.K (.ref f) = true) (hb : Binds X.K fd ps []) (hx : ∀ σ, PassesAt CX X σ (E σ))
    (ha : PA X (e :: es) t) (hdb : (x == ("__debug__" : Str)) = false := by decide) (he : starEach (e :: es) X.env = (false, eval e X.env) :: starEach es X.env := by rfl) (hpl : (backTo pos (starEach es X.env)).any (·.1) = false := by rfl) :
    PE X (.Call (.Name x q) (e :: es) [] pos) (tCallS sp E t) :=
  ⟨fun k0 I h => wpAny_Call_Name_kw (ld_glob I hg hm (PySem.W.callWith_K (h₀ := X.base) I.ok.mod.kin hk (tn k0 (ha.run pos k0 I h) fun us s1 k1 ⟨vs, H1, I1, r, z⟩ => ⟨I1.kIn, run_fnS F hr hb (hx _) k1 I1 r z⟩) he hpl) hdb)⟩
theorem pe_methS {pl : Sem Bool} (he : PE X o ta) (c : Cls X.K C) (hm : Meth X.K C m f) (F : FnOk X.prog X.w X.K X.mg X.base CX k f fd ps sp) (hr : Room k X.A) (hb : Binds X.K fd ps []) (hx : ∀ σ, PassesAt CX X σ (E σ)) (ha : PA X (e :: es) t)
    (hst : starEach (e :: es) X.env = (false, eval e X.env) :: starEach es X.env := by rfl) (hpl : (backTo pos (starEach es X.env)).any (·.1) = false := by rfl)
    (ht : eval (.Call (.Attribute o m apos) (e :: es) [] pos) X.env = (do
      let ov ← eval o X.env; standAt apos.atName
      let (f, first) ← holding [ov] (getMethod ov m pl); callWith pos f first (backTo pos (starEach (e :: es) X.env)) (backToKw pos (keywordEach [] X.env))) := by rfl) :
    PE X (.Call (.Attribute o m apos) (e :: es) [] pos) (L2H.tMethH C m sp E ta t) :=
  ⟨fun k0 I h => PySem.W.methodCall_KW (pl := pl) (tn k0 (he.run k0 I h) fun u s1 k1 ⟨x, H1, I1, rx, d, dx, fs, ex, ea, l, z⟩ => by
    subst ex; cases rx
    exact getmeth_ok I1 ea c hm l (PySem.W.callWith_K (first := [.ref d]) (h₀ := X.base) I.ok.mod.kin hm.kp (tn k1 (ha.run pos k1 I1 z) fun us s2 k2 ⟨vs, H2, I2, r, z2⟩ => ⟨I2.kIn, run_fnS (us := .ref d :: us) (vs := .ref d :: vs) F hr hb (hx _) k2 I2 (.cons rfl r) z2⟩) hst hpl)) ht⟩
end
end DL

set_option Elab.async false
set_option linter.all false
set_option maxRecDepth 100000
set_option maxHeartbeats 2000000
/-! try .. except, at states that have given out a token. -/
namespace DL
open PySem PySem.Spec PyProof.Rows L2
abbrev Hdl := Value × Option Nat × (Addr → Value → Option Addr → TS)
/-- the ends of a suite whose name (slot i) goes behind it -/
def goneAt (D : Ends) : Option Nat → Ends
  | none => D
  | some i => { nx := fun σ' H' => D.nx (σ'.set i none) H', rt := D.rt, bk := fun σ' H' => D.bk (σ'.set i none) H', ct := fun σ' H' => D.ct (σ'.set i none) H' }
def setAt (σ : L2.St) (a : Addr) : Option Nat → L2.St
  | none => σ
  | some i => σ.set i (some (.ref a))
/-- what the clauses wish of an exception of the body, one after the other -/
def wAll (K : PySem.W.Frag) (Wout : WX) (D : Ends) : List Hdl → WX
  | [] => Wout
  | (c, oi, ts) :: r => fun cls d σ H => ∃ b, PySem.W.exmOne K cls c = some b ∧ (b = true → ∀ a, H a = none → ts a cls d (goneAt D oi) (setAt σ a oi) H) ∧ (b = false → wAll K Wout D r cls d σ H)
abbrev SuOk (X : Cx) (suite : List Stmt) (ts : Addr → Value → Option Addr → TS) : Prop :=
  ∀ (a : Addr) (oe : Obj) (cls : Value) (d : Option Addr) (pn : Pins), L2N.Zn cls d oe → (∃ vs, oe.data = .fields vs) → PSs (X.suite a ((a, oe) :: pn)) suite (ts a cls d)
inductive HdsOk (X : Cx) : List ExceptHandler → List Hdl → Prop
  | nil : HdsOk X [] []
  | only {x : Str} {c : Value} {ts : Addr → Value → Option Addr → TS} {b₀ : Stmt} {suite : List Stmt} {np pos' : Pos} {hds : List ExceptHandler} {l : List Hdl} (hc : Names X x c) (hsu : SuOk X (b₀ :: suite) ts) (r : HdsOk X hds l) :
      HdsOk X (.ExceptHandler (some (.Name x np)) none (b₀ :: suite) pos' :: hds) ((c, none, ts) :: l)
  | as {x n : Str} {i : Nat} {c : Value} {ts : Addr → Value → Option Addr → TS} {b₀ : Stmt} {suite : List Stmt} {np pos' : Pos} {hds : List ExceptHandler} {l : List Hdl} (hc : Names X x c) (hi : X.N[i]? = some n) (hln : X.env.kindOf n = some .local)
      (hsu : SuOk X (b₀ :: suite) ts) (r : HdsOk X hds l) : HdsOk X (.ExceptHandler (some (.Name x np)) (some n) (b₀ :: suite) pos' :: hds) ((c, some i, ts) :: l)
section
variable {X : Cx} {body : List Stmt} {h₀ : ExceptHandler} {hds : List ExceptHandler} {l : List Hdl} {pos : Pos} {tb : WX → TS} {Wout : WX}
theorem ps_try (hs : X.stack = X.env :: X.outer) (hf : X.env.frame = some X.env.locals) (hN : X.N.Nodup) (tk : L2N.Takes X Wout)
    (hb : ∀ (W : WX) (pn : Pins) (xe : Value → Shared → Prop), L2N.Takes (X.tr pn xe) W → PSs (X.tr pn xe) body (tb W))
    (hh : HdsOk X (h₀ :: hds) l) : PS X (.Try body (h₀ :: hds) [] [] pos) (fun D σ H => tb (wAll X.K Wout D l) D σ H) := by
  refine ⟨fun {pins s σ H D} k I h => ?_⟩
  have ok := I.ok
  have hfr : X.A.frames = some (X.env :: X.outer) := by rw [ok.frames, hs]
  refine wpAny_Try_except ?_
  refine wpAny_mono (wpAny_toks_of k ((hb (wAll X.K Wout D l) (X.pn ++ pins) (fun e s₁ => 1 ≤ s₁.toks → wpAny (model X.prog X.w) X.A (noteFrame e X.env) (fun _ s₂ => wpAny (model X.prog X.w) X.A (setFlight e none) (fun _ s₃ =>
    wpAny (model X.prog X.w) X.A (handleBy e X.env (h₀ :: hds)) (SP X pins D) X.xe s₃) X.xe s₂) X.xe s₁) (fun u s' xx ks => ?_)).run k (I.toTry _) h)) (fun f s1 hsp => ?_) (fun e s1 he => he.2 he.1)
  · -- the catch
    obtain ⟨a, B, sI, pins', σ', H', cls, d, rfl, J', nb, up, sky, na, os, ag, w⟩ := xx
    have J : Inv X pins σ' H' sI := J'.ofTry ok
    have sky' : Sky B (X.env :: X.outer) a (L2N.Zn cls d) X.env.locals s'.heap := by rw [← hs]; exact sky
    show wpAny (model X.prog X.w) X.A (noteFrame (.ref a) X.env) _ _ _
    refine L2N.Sky.land L2N.Zn.steady hfr hf sky' fun h3 fl3 up3 => ?_
    have J3 : Inv X pins σ' H' { s' with heap := h3 } := J.landed nb fl3.1 (up.trans up3) os ag
    obtain ⟨oe3, vs3, he3, hz3, hd3⟩ := fl3.there
    have notFr : ∀ {h : Heap} {o : Obj} {vs : Array Value}, h.FunFrames B (X.env :: X.outer) → h.get? a = some o → o.data = .fields vs → a ∉ frs (X.env :: X.outer) := fun {h o vs} ff e dd hm => by
      obtain ⟨_, o', e', hnf⟩ := ff.mem hm
      rw [e] at e'; cases e'
      exact hnf _ dd
    have nfr := notFr fl3.2.2.1 he3 hd3
    have nL : a ≠ X.env.locals := fun z => nfr (List.mem_filterMap.mpr ⟨X.env, List.mem_cons_self, by rw [hf, z]⟩)
    have nF : a ∉ X.fs := fun hm => by
      obtain ⟨e, he, q⟩ := List.mem_filterMap.mp hm
      exact nfr (List.mem_filterMap.mpr ⟨e, List.mem_cons_of_mem _ he, q⟩)
    have S3 := J3.suite he3 hd3 na nL nF
    have LT : PySem.W.Looks (model X.prog X.w) h3 (typeOf (.ref a)) cls := fun A Q E s k q => wpAny_typeOf_ref (k _ _ he3) (by rw [hz3.1]; exact q)
    have test : ∀ {x : Str} {c : Value} {np : Pos} {Q : Value → Shared → Prop} {E : Value → Shared → Prop}, Names X x c → Q c { s' with heap := h3 } → wpAny (model X.prog X.w) (X.A.mark (some (.ref a))) (eval (.Name x np) X.env) Q E { s' with heap := h3 } := fun {x c np Q E} hc q => by
      obtain ⟨hg, hdbg, hm | ⟨hm, hv, hnn⟩⟩ := hc
      · exact ld_glob (X := X.suite a ((a, oe3) :: (X.pn ++ pins))) S3 hg hm q hdbg
      · exact ld_blt (X := X.suite a ((a, oe3) :: (X.pn ++ pins))) S3 hg hm hv q hnn hdbg
    have go : ∀ {hds' : List ExceptHandler} {l' : List Hdl}, HdsOk X hds' l' → wAll X.K Wout D l' cls d σ' H' →
        wpAny (model X.prog X.w) X.A (handleBy (.ref a) X.env hds') (SP X pins D) X.xe { s' with heap := h3 } := by
      intro hds' l' hk
      induction hk with
      | nil =>
        intro w
        refine wpAny_handleBy_nil ?_
        obtain ⟨k1, k2, k3, oe, vs, T, oT, ts', he, hz, hd, h1, hr⟩ := id fl3
        unfold PySem.passOn
        refine wpAny_bind (wpAny_field he hd h1 ?_)
        rw [if_neg (show ¬ ((Value.ref T == Value.none) = true) from by simp)]
        have fin : wpAny (model X.prog X.w) X.A (setFlight (.ref a) X.env.frame) (fun _ s4 => wpAny (model X.prog X.w) X.A (throw (.ref a) : Sem Flow) (SP X pins D) X.xe s4) X.xe { s' with heap := h3 } := by
          rw [hf]
          refine HandSPX.setFlight_upZ fl3 fun h4 hh4 up4 => wpAny_throw (tk _ _ ?_)
          exact ⟨a, B, sI, pins, σ', H', cls, d, rfl, J, nb, (up.trans up3).trans up4, .inr (.inr (by rw [hs]; exact hh4)), na, os, ag, w⟩
        first
          | exact wpAny_bind (wpAny_pure (wpAny_bind fin))
          | exact wpAny_bind fin
      | @only x c ts b₀ suite np pos' hds2 l2 hc hsu r ih =>
        intro w
        obtain ⟨b, hb1, hyes, hno⟩ := w
        refine wpAny_handleBy_cons (codeAny_handlers_test ?_) (by intro q; cases q)
        refine test hc ((PySem.W.exm_one (M := model X.prog X.w) (J3.kIn) LT hb1).here ?_)
        cases b with
        | true =>
          refine codeAny_handlers_suite ?_
          refine HandSPX.lands_againZ fl3 fun h4 fl4 up4 => ?_
          have J4 : Inv X pins σ' H' { s' with heap := h4 } := J.landed nb fl4.1 ((up.trans up3).trans up4) os ag
          obtain ⟨oe4, vs4, he4, hz4, hd4⟩ := fl4.there
          have S4 := J4.suite he4 hd4 na nL nF
          refine wpAny_mono ((hsu a oe4 cls d (X.pn ++ pins) hz4 ⟨_, hd4⟩).run (by exact ks) S4 (hyes rfl a na)) (fun f s6 hsp => ?_) (fun _ _ z => False.elim z)
          cases f with
          | next => obtain ⟨σ6, H6, S6, q6⟩ := hsp; exact ⟨_, _, S6.unsuite ok, q6⟩
          | brk => obtain ⟨σ6, H6, S6, q6⟩ := hsp; exact ⟨_, _, S6.unsuite ok, q6⟩
          | cont => obtain ⟨σ6, H6, S6, q6⟩ := hsp; exact ⟨_, _, S6.unsuite ok, q6⟩
          | ret u => obtain ⟨v6, σ6, H6, S6, r6, q6⟩ := hsp; exact ⟨_, _, _, S6.unsuite ok, r6, q6⟩
        | false =>
          show wpAny _ X.A (handleBy (.ref a) X.env hds2) _ _ _
          exact ih (hno rfl)
      | @as x n i c ts b₀ suite np pos' hds2 l2 hc hi hln hsu r ih =>
        intro w
        obtain ⟨b, hb1, hyes, hno⟩ := w
        have hloc : Loc X.env.scope n := .inl hln
        refine wpAny_handleBy_cons (codeAny_handlers_test ?_) (by intro q; cases q)
        refine test hc ((PySem.W.exm_one (M := model X.prog X.w) (J3.kIn) LT hb1).here ?_)
        cases b with
        | true =>
          refine codeAny_handlers_suite_as ?_
          refine HandSPX.lands_againZ fl3 fun h4 fl4 up4 => ?_
          have J4 : Inv X pins σ' H' { s' with heap := h4 } := J.landed nb fl4.1 ((up.trans up3).trans up4) os ag
          obtain ⟨oe4, vs4, he4, hz4, hd4⟩ := fl4.there
          have S4 := J4.suite he4 hd4 na nL nF
          refine wpAny_with_toks (n := 1) (by exact ks) ?_
          refine store_ok (X := X.suite a ((a, oe4) :: (X.pn ++ pins))) (v := .ref a) S4 hN hi hloc rfl (fun s5 S5 k5 => ?_) (.inr hln)
          refine wpAny_mono ((hsu a oe4 cls d (X.pn ++ pins) hz4 ⟨_, hd4⟩).run k5 S5 (hyes rfl a na)) (fun f s6 hsp => ?_) (fun _ _ z => False.elim z)
          have end_ : ∀ {σ6 : L2.St} {H6 : Hp} {Q : Shared → Prop}, Inv (X.suite a ((a, oe4) :: (X.pn ++ pins))) [] σ6 H6 s6 → (∀ s7, Inv X pins (σ6.set i none) H6 s7 → Q s7) →
              wpAny (model X.prog X.w) X.A (do bindName X.env n .none; unbindBehindTheSuite X.env n pos') (fun _ s7 => Q s7) X.xe s6 := fun {σ6 H6 Q} S6 hq => gone_ok (S6.unsuite ok) hN hi hln hq
          cases f with
          | next => obtain ⟨σ6, H6, S6, q6⟩ := hsp; exact end_ S6 fun s7 J7 => ⟨_, _, J7, q6⟩
          | brk => obtain ⟨σ6, H6, S6, q6⟩ := hsp; exact end_ S6 fun s7 J7 => ⟨_, _, J7, q6⟩
          | cont => obtain ⟨σ6, H6, S6, q6⟩ := hsp; exact end_ S6 fun s7 J7 => ⟨_, _, J7, q6⟩
          | ret u => obtain ⟨v6, σ6, H6, S6, r6, q6⟩ := hsp; exact end_ S6 fun s7 J7 => ⟨_, _, _, J7, r6, q6⟩
        | false =>
          show wpAny _ X.A (handleBy (.ref a) X.env hds2) _ _ _
          exact ih (hno rfl)
    exact go hh w
  · replace hsp := hsp.2
    cases f with
    | next => obtain ⟨σ', H', J', q⟩ := hsp; exact wpAny_execs_nil ⟨σ', H', J'.ofTry ok, q⟩
    | brk => obtain ⟨σ', H', J', q⟩ := hsp; exact ⟨σ', H', J'.ofTry ok, q⟩
    | cont => obtain ⟨σ', H', J', q⟩ := hsp; exact ⟨σ', H', J'.ofTry ok, q⟩
    | ret u => obtain ⟨v, σ', H', J', r, q⟩ := hsp; exact ⟨v, σ', H', J'.ofTry ok, r, q⟩
end
end DL

set_option Elab.async false
set_option linter.all false
set_option maxRecDepth 100000
/-! The data layer: plain values as data, mutable objects in a small symbolic heap. -/
namespace DL
open PySem PySem.Spec L2 DK

/-- a key: an int or a text -/
inductive Ky where
  | i (n : Int) | s (t : List Nat)
deriving DecidableEq
def Ky.k : Ky → Key
  | .i n => .inl n
  | .s t => .inr ⟨t.toArray⟩
theorem Ky.inj : ∀ {a b : Ky}, a.k = b.k → a = b
  | .i n, .i m, h => by cases h; rfl
  | .i n, .s m, h => by cases h
  | .s n, .i m, h => by cases h
  | .s n, .s m, h => by
    have e := Sum.inr.inj h
    injection e with e
    have q := congrArg Array.toList e
    simp at q
    rw [q]
/-- plain data; .frz: a list that is only read (the script); .rf: an object of the symbolic heap -/
inductive D where
  | non | bl (b : Bool) | int (i : Int) | str (s : List Nat) | ty (n : String) | tup (xs : List D) | frz (xs : List D) | rf (p : Addr) | kst (w : World) (xs : List Ky)
/-- an object of the symbolic heap -/
inductive MO where
  | lst (xs : List D)
  | ins (C : Addr) (fs : List (Str × D))
  | dic (kvs : List (Ky × D))
  | exn (fs : List (Str × D))
abbrev Sh := Addr → Option MO
def su (S : Sh) (p : Addr) (o : MO) : Sh := fun q => if q = p then some o else S q
theorem su_same {S : Sh} {p : Addr} {o : MO} : su S p o p = some o := by unfold su; rw [if_pos rfl]
theorem su_ne {S : Sh} {p q : Addr} {o : MO} (h : q ≠ p) : su S p o q = S q := by unfold su; rw [if_neg h]
theorem su_su {S : Sh} {p : Addr} {o u : MO} : su (su S p o) p u = su S p u := by
  funext q; unfold su; split <;> rfl
def Sle (S S' : Sh) : Prop := ∀ p o, S p = some o → S' p = some o
theorem Sle.refl (S : Sh) : Sle S S := fun _ _ h => h
theorem Sle.trans {S S1 S2 : Sh} (a : Sle S S1) (b : Sle S1 S2) : Sle S S2 := fun p o h => b p o (a p o h)
theorem Sle.new {S : Sh} {p : Addr} {o : MO} (h : S p = none) : Sle S (su S p o) := fun q u e => by
  rw [su_ne (fun z => by rw [z, h] at e; cases e)]; exact e

/-- a list that nobody changes: locked, or of the written part -/
def SqF (K : PySem.W.Frag) (H : Hp) (a : Addr) (xs : List V) : Prop :=
  (∃ o, H a = some (.frz o (.lst xs))) ∨
    ∃ (o : Obj) (its : Array Value) (n : Nat), K.lookup a = some o ∧ o.cls = .type "list" ∧ o.dict = none ∧ o.data = .seq its n ∧ its.size ≤ sizeLine ∧ Vals xs its.toList
theorem SqF.l {K : PySem.W.Frag} {H : Hp} {a : Addr} {xs : List V} (h : SqF K H a xs) : SqL K H a xs := by
  rcases h with ⟨o, h⟩ | h
  · exact .inl (.inr ⟨o, h⟩)
  · exact .inr h
section
variable (K : PySem.W.Frag) (H : Hp)
mutual
def Rep : D → V → Prop
  | .non, v => v = .non
  | .bl b, v => v = .bl b
  | .int i, v => v = .int i
  | .str s, v => v = .str ⟨s.toArray⟩
  | .ty n, v => v = .ty n
  | .tup ds, v => ∃ a vs, v = .ref a ∧ SqT K H a vs ∧ Reps ds vs
  | .frz ds, v => ∃ a vs, v = .ref a ∧ SqF K H a vs ∧ Reps ds vs
  | .rf p, v => v = .ref p
  | .kst w xs, v => ∃ a n, v = .ref a ∧ H a = some (SetM w a (memK (xs.map Ky.k)) n)
def Reps : List D → List V → Prop
  | [], vs => vs = []
  | d :: ds, vs => ∃ v r, vs = v :: r ∧ Rep d v ∧ Reps ds r
end
def RepF : List (Str × D) → List (Str × V) → Prop
  | [], fs => fs = []
  | (x, d) :: ds, fs => ∃ v r, fs = (x, v) :: r ∧ Rep K H d v ∧ RepF ds r
def RepK : List (Ky × D) → List (Key × V) → Prop
  | [], fs => fs = []
  | (x, d) :: ds, fs => ∃ v r, fs = (x.k, v) :: r ∧ Rep K H d v ∧ RepK ds r
def RepO : MO → HO → Prop
  | .lst ds, o => ∃ vs, o = .lst vs ∧ Reps K H ds vs
  | .ins C ds, o => ∃ dx fs, o = .ins C dx fs ∧ RepF K H ds fs
  | .dic ds, o => ∃ kvs, o = .dK kvs ∧ RepK K H ds kvs
  | .exn ds, o => ∃ fs, o = .xd fs ∧ RepF K H ds fs
/-- the symbolic heap is held -/
def Wd (S : Sh) : Prop := ∀ p o, S p = some o → ∃ h, H p = some h ∧ RepO K H o h
end
/-- what is tracked and no object of S stands as it was -/
def Ext (S : Sh) (H H' : Hp) : Prop := ∀ a o, H a = some o → S a = none → H' a = some o

section
variable {K : PySem.W.Frag} {H H' H1 H2 : Hp} {S S1 S2 : Sh}
theorem Wd.notup (w : Wd K H S) {a : Addr} {xs : List V} (h : H a = some (.tup xs)) : S a = none := by
  cases e : S a with
  | none => rfl
  | some o =>
    obtain ⟨ho, e1, r⟩ := w a o e
    rw [h] at e1; cases e1
    cases o with
    | lst ds => obtain ⟨vs, z, _⟩ := r; cases z
    | ins C ds => obtain ⟨_, _, z, _⟩ := r; cases z
    | dic ds => obtain ⟨_, z, _⟩ := r; cases z
    | exn ds => obtain ⟨_, z, _⟩ := r; cases z
theorem Wd.nofrz (w : Wd K H S) {a : Addr} {o : Obj} {u : HO} (h : H a = some (.frz o u)) : S a = none := by
  cases e : S a with
  | none => rfl
  | some o =>
    obtain ⟨ho, e1, r⟩ := w a o e
    rw [h] at e1; cases e1
    cases o with
    | lst ds => obtain ⟨vs, z, _⟩ := r; cases z
    | ins C ds => obtain ⟨_, _, z, _⟩ := r; cases z
    | dic ds => obtain ⟨_, z, _⟩ := r; cases z
    | exn ds => obtain ⟨_, z, _⟩ := r; cases z
theorem Wd.noset (w : Wd K H S) {a : Addr} {f : Heap → Prop} (h : H a = some (.ext f)) : S a = none := by
  cases e : S a with
  | none => rfl
  | some o =>
    obtain ⟨ho, e1, r⟩ := w a o e
    rw [h] at e1; cases e1
    cases o with
    | lst ds => obtain ⟨vs, z, _⟩ := r; cases z
    | ins C ds => obtain ⟨_, _, z, _⟩ := r; cases z
    | dic ds => obtain ⟨_, z, _⟩ := r; cases z
    | exn ds => obtain ⟨_, z, _⟩ := r; cases z
theorem Wd.le (w : Wd K H S) (h : Sle S1 S) : Wd K H S1 := fun p o e => w p o (h p o e)
theorem Ext.refl (S : Sh) (H : Hp) : Ext S H H := fun _ _ h _ => h
/-- an address that is tracked stays outside of S1 -/
def Out (S S1 : Sh) (H : Hp) : Prop := ∀ a o, H a = some o → S a = none → S1 a = none
theorem Out.refl (S : Sh) (H : Hp) : Out S S H := fun _ _ _ h => h
/-- a step of the world: from (S, H) to (S', H') -/
structure Go (K : PySem.W.Frag) (S : Sh) (H : Hp) (S' : Sh) (H' : Hp) : Prop where
  ext : Ext S H H'
  out : Out S S' H
  wd : Wd K H' S'
  th : ∀ a, H' a = none → H a = none
theorem Go.refl (w : Wd K H S) : Go K S H S H := ⟨Ext.refl S H, Out.refl S H, w, fun _ h => h⟩
theorem Go.trans (a : Go K S H S1 H1) (b : Go K S1 H1 S2 H2) : Go K S H S2 H2 :=
  ⟨fun x o h1 h2 => b.ext x o (a.ext x o h1 h2) (a.out x o h1 h2), fun x o h1 h2 => b.out x o (a.ext x o h1 h2) (a.out x o h1 h2), b.wd, fun x h => a.th x (b.th x h)⟩
theorem Go.le (a : Go K S H S1 H1) (h : Sle S2 S1) : Go K S H S2 H1 := by
  refine ⟨a.ext, fun x o h1 h2 => ?_, a.wd.le h, a.th⟩
  cases e : S2 x with
  | none => rfl
  | some u =>
    have z := h x u e
    rw [a.out x o h1 h2] at z
    cases z

/-- the immutables are kept -/
structure Im (K : PySem.W.Frag) (H H' : Hp) : Prop where
  t : ∀ a xs, SqT K H a xs → SqT K H' a xs
  f : ∀ a xs, SqF K H a xs → SqF K H' a xs
  s : ∀ a w S n, H a = some (SetM w a S n) → H' a = some (SetM w a S n)
theorem Wd.im (w : Wd K H S) (e : Ext S H H') : Im K H H' where
  t := fun a xs r => by
    rcases r with (r | ⟨o, r⟩) | r
    · exact .inl (.inl (e _ _ r (w.notup r)))
    · exact .inl (.inr ⟨o, e _ _ r (w.nofrz r)⟩)
    · exact .inr r
  f := fun a xs r => by
    rcases r with ⟨o, r⟩ | r
    · exact .inl ⟨o, e _ _ r (w.nofrz r)⟩
    · exact .inr r
  s := fun a w' S' n r => e _ _ r (w.noset (f := fun h => SetQ w' h a S' n) r)
theorem Im.refl (K : PySem.W.Frag) (H : Hp) : Im K H H := ⟨fun _ _ h => h, fun _ _ h => h, fun _ _ _ _ h => h⟩
mutual
theorem Rep.im (m : Im K H H') : ∀ {d : D} {v : V}, Rep K H d v → Rep K H' d v
  | .non, _, h => h
  | .bl _, _, h => h
  | .int _, _, h => h
  | .str _, _, h => h
  | .ty _, _, h => h
  | .rf _, _, h => h
  | .tup ds, v, h =>
    let ⟨a, vs, e, q, r⟩ := h
    ⟨a, vs, e, m.t _ _ q, Reps.im m r⟩
  | .frz ds, v, h =>
    let ⟨a, vs, e, q, r⟩ := h
    ⟨a, vs, e, m.f _ _ q, Reps.im m r⟩
  | .kst w xs, v, h =>
    let ⟨a, n, e, q⟩ := h
    ⟨a, n, e, m.s _ _ _ _ q⟩
theorem Reps.im (m : Im K H H') : ∀ {ds : List D} {vs : List V}, Reps K H ds vs → Reps K H' ds vs
  | [], _, h => h
  | _ :: _, _, h =>
    let ⟨v, r, e, h1, h2⟩ := h
    ⟨v, r, e, Rep.im m h1, Reps.im m h2⟩
end
theorem RepF.im (m : Im K H H') : ∀ {ds : List (Str × D)} {fs : List (Str × V)}, RepF K H ds fs → RepF K H' ds fs
  | [], _, h => h
  | (_, _) :: _, _, h =>
    let ⟨v, r, e, h1, h2⟩ := h
    ⟨v, r, e, h1.im m, RepF.im m h2⟩
theorem RepK.im (m : Im K H H') : ∀ {ds : List (Ky × D)} {fs : List (Key × V)}, RepK K H ds fs → RepK K H' ds fs
  | [], _, h => h
  | (_, _) :: _, _, h =>
    let ⟨v, r, e, h1, h2⟩ := h
    ⟨v, r, e, h1.im m, RepK.im m h2⟩
theorem RepO.im (m : Im K H H') {o : MO} {h : HO} (r : RepO K H o h) : RepO K H' o h := by
  cases o with
  | lst ds => obtain ⟨vs, e, q⟩ := r; exact ⟨vs, e, Reps.im m q⟩
  | ins C ds => obtain ⟨dx, fs, e, q⟩ := r; exact ⟨dx, fs, e, q.im m⟩
  | dic ds => obtain ⟨fs, e, q⟩ := r; exact ⟨fs, e, q.im m⟩
  | exn ds => obtain ⟨fs, e, q⟩ := r; exact ⟨fs, e, q.im m⟩
theorem Go.im (g : Go K S H S1 H1) (w : Wd K H S) : Im K H H1 := w.im g.ext
theorem Reps.length : ∀ {ds : List D} {vs : List V}, Reps K H ds vs → ds.length = vs.length
  | [], _, h => by rw [show _ = ([] : List V) from h]; rfl
  | _ :: _, _, h => by
    obtain ⟨v, r, e, _, h2⟩ := h
    rw [e, List.length_cons, List.length_cons, Reps.length h2]
theorem Reps.get : ∀ {ds : List D} {vs : List V} {i : Nat} {d : D}, Reps K H ds vs → ds[i]? = some d → ∃ v, vs[i]? = some v ∧ Rep K H d v
  | [], _, _, _, _, h => by simp at h
  | d :: ds, vs, 0, _, h, e => by
    obtain ⟨v, r, rfl, h1, h2⟩ := h
    simp at e; subst e
    exact ⟨v, rfl, h1⟩
  | _ :: _, _, i + 1, _, h, e => by
    obtain ⟨v, r, rfl, h1, h2⟩ := h
    obtain ⟨u, a, b⟩ := Reps.get (i := i) h2 (by simpa using e)
    exact ⟨u, by simpa using a, b⟩
theorem Reps.append : ∀ {ds es : List D} {vs us : List V}, Reps K H ds vs → Reps K H es us → Reps K H (ds ++ es) (vs ++ us)
  | [], _, _, _, h, k => by rw [show _ = ([] : List V) from h]; exact k
  | _ :: _, _, _, _, h, k => by
    obtain ⟨v, r, rfl, h1, h2⟩ := h
    exact ⟨v, _, rfl, h1, Reps.append h2 k⟩
theorem Reps.drop : ∀ {ds : List D} {vs : List V} (n : Nat), Reps K H ds vs → Reps K H (ds.drop n) (vs.drop n)
  | _, _, 0, h => h
  | [], _, n + 1, h => by rw [show _ = ([] : List V) from h]; exact rfl
  | _ :: _, _, n + 1, h => by
    obtain ⟨v, r, rfl, h1, h2⟩ := h
    exact Reps.drop n h2
theorem Reps.take : ∀ {ds : List D} {vs : List V} (n : Nat), Reps K H ds vs → Reps K H (ds.take n) (vs.take n)
  | _, _, 0, h => rfl
  | [], _, n + 1, h => by rw [show _ = ([] : List V) from h]; exact rfl
  | _ :: _, _, n + 1, h => by
    obtain ⟨v, r, rfl, h1, h2⟩ := h
    exact ⟨v, _, rfl, h1, Reps.take n h2⟩
theorem Reps.set : ∀ {ds : List D} {vs : List V} (n : Nat) {d : D} {v : V}, Reps K H ds vs → Rep K H d v → Reps K H (ds.set n d) (vs.set n v)
  | [], _, _, _, _, h, _ => by rw [show _ = ([] : List V) from h]; exact rfl
  | _ :: _, _, 0, _, _, h, k => by
    obtain ⟨v, r, rfl, h1, h2⟩ := h
    exact ⟨_, r, rfl, k, h2⟩
  | _ :: _, _, n + 1, _, _, h, k => by
    obtain ⟨v, r, rfl, h1, h2⟩ := h
    exact ⟨v, _, rfl, h1, Reps.set n h2 k⟩
theorem Reps.one {d : D} {v : V} (h : Rep K H d v) : Reps K H [d] [v] := ⟨v, [], rfl, h, rfl⟩
theorem Reps.ints : ∀ {ns : List Int} {vs : List V}, Reps K H (ns.map D.int) vs → vs = ns.map V.int
  | [], _, h => h
  | _ :: _, _, h => by
    obtain ⟨v, r, rfl, h1, h2⟩ := h
    rw [show v = V.int _ from h1, Reps.ints h2]; rfl
theorem Reps.of_ints : ∀ {ns : List Int}, Reps K H (ns.map D.int) (ns.map V.int)
  | [] => rfl
  | _ :: _ => ⟨_, _, rfl, rfl, Reps.of_ints⟩

/-! ### worlds made -/
theorem upd_none {H : Hp} {p a : Addr} {u : HO} (h : upd H p u a = none) : H a = none := by
  unfold upd at h
  split at h
  · cases h
  · exact h
theorem Go.new (w : Wd K H S) {p : Addr} {u : HO} (h : H p = none) : Go K S H S (upd H p u) := by
  have e : Ext S H (upd H p u) := fun a o h1 _ => by rw [upd_ne (ne_of_none h1 h)]; exact h1
  refine ⟨e, Out.refl S H, fun q o hq => ?_, fun _ h => upd_none h⟩
  obtain ⟨ho, h1, r⟩ := w q o hq
  exact ⟨ho, by rw [upd_ne (ne_of_none h1 h)]; exact h1, r.im (w.im e)⟩
theorem Wd.free (w : Wd K H S) {p : Addr} (h : H p = none) : S p = none := by
  cases e : S p with
  | none => rfl
  | some o => obtain ⟨ho, e1, _⟩ := w p o e; rw [h] at e1; cases e1
/-- a new object of S -/
theorem Go.newS (w : Wd K H S) {p : Addr} {u : HO} {o : MO} (h : H p = none) (r : RepO K (upd H p u) o u) : Go K S H (su S p o) (upd H p u) := by
  have g := Go.new (u := u) w h
  refine ⟨g.ext, fun a x h1 h2 => ?_, fun q x hq => ?_, fun _ h => upd_none h⟩
  · rw [su_ne (ne_of_none h1 h)]; exact h2
  · by_cases e : q = p
    · subst e
      rw [su_same] at hq; cases hq
      exact ⟨u, upd_same, r⟩
    · rw [su_ne e] at hq
      exact g.wd q x hq
/-- an object of S is changed -/
theorem Go.wr (w : Wd K H S) {p : Addr} {u : HO} {o o' : MO} (h : S p = some o) (r : ∀ H', Im K H H' → RepO K H' o' u) : Go K S H (su S p o') (upd H p u) := by
  have e : Ext S H (upd H p u) := fun a x h1 h2 => by rw [upd_ne (fun z => by rw [z, h] at h2; cases h2)]; exact h1
  refine ⟨e, fun a x h1 h2 => ?_, fun q x hq => ?_, fun _ h => upd_none h⟩
  · rw [su_ne (fun z => by rw [z, h] at h2; cases h2)]; exact h2
  · by_cases z : q = p
    · subst z
      rw [su_same] at hq; cases hq
      exact ⟨u, upd_same, r _ (w.im e)⟩
    · rw [su_ne z] at hq
      obtain ⟨ho, h1, r'⟩ := w q x hq
      exact ⟨ho, by rw [upd_ne z]; exact h1, r'.im (w.im e)⟩
end

/-! ### the places -/
abbrev Sl := List (Option D)
def SlOk (K : PySem.W.Frag) (H : Hp) (σ : L2.St) (δ : Sl) : Prop := σ.length = δ.length ∧ ∀ (i : Nat) (d : D), δ[i]? = some (some d) → ∃ v, σ[i]? = some (some v) ∧ Rep K H d v
theorem SlOk.im {K : PySem.W.Frag} {H H' : Hp} {σ : L2.St} {δ : Sl} (m : Im K H H') (h : SlOk K H σ δ) : SlOk K H' σ δ := ⟨h.1, fun i d e => by
  obtain ⟨v, a, b⟩ := h.2 i d e
  exact ⟨v, a, b.im m⟩⟩
theorem SlOk.set {K : PySem.W.Frag} {H : Hp} {σ : L2.St} {δ : Sl} (h : SlOk K H σ δ) (i : Nat) {d : D} {v : V} (r : Rep K H d v) : SlOk K H (σ.set i (some v)) (δ.set i (some d)) := by
  refine ⟨by rw [List.length_set, List.length_set]; exact h.1, fun j e q => ?_⟩
  by_cases z : i = j
  · subst z
    rw [List.getElem?_set_self'] at q ⊢
    cases hq : δ[i]? with
    | none => rw [hq] at q; cases q
    | some x =>
      rw [hq] at q
      have hi : i < σ.length := by rw [h.1]; exact (List.getElem?_eq_some_iff.mp hq).1
      rw [List.getElem?_eq_getElem hi]
      cases q
      exact ⟨v, rfl, r⟩
  · rw [List.getElem?_set_ne z] at q ⊢
    exact h.2 j e q

abbrev QD := D → Sh → Prop
abbrev ED := Sl → Sh → QD → Prop
abbrev TD := Sl → Sh → (Bool → Sh → Prop) → Prop
abbrev AD := Sl → Sh → (List D → Sh → Prop) → Prop
structure EndsD where
  nx : Sl → Sh → Prop
  rt : QD
  bk : Sl → Sh → Prop := fun _ _ => False
  ct : Sl → Sh → Prop := fun _ _ => False
abbrev SD := EndsD → Sl → Sh → Prop
abbrev GD := D → Sl → Sh → (Sl → Sh → Prop) → Prop
abbrev GsD := List D → Sl → Sh → (Sl → Sh → Prop) → Prop
abbrev ID := Sl → Sh → (List D → (Sh → Prop) → Sh → Prop) → Prop
abbrev R2D := D → D → Sh → QD → Prop
abbrev CD := List D → Sh → QD → Prop

def SimE (K : PySem.W.Frag) (t : TE) (τ : ED) : Prop := ∀ σ H δ S, Wd K H S → SlOk K H σ δ → ∀ (Q : QD) (R : VK), (∀ v H' d S', Go K S H S' H' → Rep K H' d v → Q d S' → R v H') → τ δ S Q → t σ H R
def SimT (K : PySem.W.Frag) (t : TT) (τ : TD) : Prop := ∀ σ H δ S, Wd K H S → SlOk K H σ δ → ∀ (Q : Bool → Sh → Prop) (R : Bool → Hp → Prop), (∀ b H' S', Go K S H S' H' → Q b S' → R b H') → τ δ S Q → t σ H R
def SimA (K : PySem.W.Frag) (t : TA) (τ : AD) : Prop := ∀ σ H δ S, Wd K H S → SlOk K H σ δ → ∀ (Q : List D → Sh → Prop) (R : List V → Hp → Prop), (∀ vs H' ds S', Go K S H S' H' → Reps K H' ds vs → Q ds S' → R vs H') → τ δ S Q → t σ H R
/-- a list that need not be an object of S -/
def SimL (K : PySem.W.Frag) (t : TE) (τ : AD) : Prop := ∀ σ H δ S, Wd K H S → SlOk K H σ δ → ∀ (Q : List D → Sh → Prop) (R : VK), (∀ a H' vs ds S', Go K S H S' H' → SqL K H' a vs → Reps K H' ds vs → Q ds S' → R (.ref a) H') → τ δ S Q → t σ H R
/-- a new list that is no object of S -/
def SimN (K : PySem.W.Frag) (t : TE) (τ : AD) : Prop := ∀ σ H δ S, Wd K H S → SlOk K H σ δ → ∀ (Q : List D → Sh → Prop) (R : VK), (∀ a H' vs ds S', Go K S H S' H' → H a = none → H' a = some (.lst vs) → S' a = none → Reps K H' ds vs → Q ds S' → R (.ref a) H') → τ δ S Q → t σ H R
def SimS (K : PySem.W.Frag) (t : TS) (τ : SD) : Prop := ∀ σ H δ S, Wd K H S → SlOk K H σ δ → ∀ (F : EndsD) (G : Ends),
  (∀ σ' H' δ' S', Go K S H S' H' → SlOk K H' σ' δ' → F.nx δ' S' → G.nx σ' H') → (∀ v H' d S', Go K S H S' H' → Rep K H' d v → F.rt d S' → G.rt v H') →
  (∀ σ' H' δ' S', Go K S H S' H' → SlOk K H' σ' δ' → F.bk δ' S' → G.bk σ' H') → (∀ σ' H' δ' S', Go K S H S' H' → SlOk K H' σ' δ' → F.ct δ' S' → G.ct σ' H') → τ F δ S → t G σ H
def SimG (K : PySem.W.Frag) (t : TG) (τ : GD) : Prop := ∀ σ H δ S v d, Wd K H S → SlOk K H σ δ → Rep K H d v → ∀ (Q : Sl → Sh → Prop) (R : L2.St → Hp → Prop), (∀ σ' H' δ' S', Go K S H S' H' → SlOk K H' σ' δ' → Q δ' S' → R σ' H') → τ d δ S Q → t v σ H R
def SimGs (K : PySem.W.Frag) (t : TGs) (τ : GsD) : Prop := ∀ σ H δ S vs ds, Wd K H S → SlOk K H σ δ → Reps K H ds vs → ∀ (Q : Sl → Sh → Prop) (R : L2.St → Hp → Prop), (∀ σ' H' δ' S', Go K S H S' H' → SlOk K H' σ' δ' → Q δ' S' → R σ' H') → τ ds δ S Q → t vs σ H R
/-- what a walk needs to stand between its turns; fr: the addresses that came to be with what is walked -/
structure Kp (K : PySem.W.Frag) (fr : Addr → Prop) (S0 : Sh) (H0 : Hp) (S : Sh) (H : Hp) : Prop where
  wd : Wd K H S
  im : Im K H0 H
  ex : ∀ a o, fr a → H0 a = some o → S0 a = none → H a = some o
theorem Go.kp {K : PySem.W.Frag} {fr : Addr → Prop} {S0 S : Sh} {H0 H : Hp} (g : Go K S0 H0 S H) (w : Wd K H0 S0) : Kp K fr S0 H0 S H := ⟨g.wd, g.im w, fun a o _ h1 h2 => g.ext a o h1 h2⟩
def SimJ (K : PySem.W.Frag) (Hb : Hp) (S0 : Sh) (H0 : Hp) (J : It) (xs : List D) (ck : Sh → Prop) : Prop := ∀ S H, Kp K (fun a => Hb a = none) S0 H0 S H → ck S → ∀ i : Nat,
  (∀ d, xs[i]? = some d → J.go i H ∧ ∀ x H', J.yld i H x H' → Go K S H S H' ∧ Rep K H' d x) ∧ (xs.length ≤ i → J.stop i H)
def SimI (K : PySem.W.Frag) (t : TI) (τ : ID) : Prop := ∀ σ H δ S, Wd K H S → SlOk K H σ δ → ∀ (Q : List D → (Sh → Prop) → Sh → Prop) (R : It → Hp → Prop), (∀ J H' S' xs ck, Go K S H S' H' → SimJ K H S' H' J xs ck → ck S' → Q xs ck S' → R J H') → τ δ S Q → t σ H R
def SimR2 (K : PySem.W.Frag) (r : R2) (ρ : R2D) : Prop := ∀ H S x y dx dy, Wd K H S → Rep K H dx x → Rep K H dy y → ∀ (Q : QD) (R : VK), (∀ v H' d S', Go K S H S' H' → Rep K H' d v → Q d S' → R v H') → ρ dx dy S Q → r x y H R
def SimC (K : PySem.W.Frag) (r : List V → Hp → VK → Prop) (ρ : CD) : Prop := ∀ H S vs ds, Wd K H S → Reps K H ds vs → ∀ (Q : QD) (R : VK), (∀ v H' d S', Go K S H S' H' → Rep K H' d v → Q d S' → R v H') → ρ ds S Q → r vs H R

def E (X : Cx) (e : Expr) (τ : ED) : Prop := ∃ t, PE X e t ∧ SimE X.K t τ
def T (X : Cx) (e : Expr) (τ : TD) : Prop := ∃ t, PT X e t ∧ SimT X.K t τ
def W (X : Cx) (e : Expr) (τ : TD) : Prop := ∃ t, PW X e t ∧ SimT X.K t τ
def A (X : Cx) (es : List Expr) (τ : AD) : Prop := ∃ t, PA X es t ∧ SimA X.K t τ
def L (X : Cx) (e : Expr) (τ : AD) : Prop := ∃ t, PE X e t ∧ SimL X.K t τ
def N (X : Cx) (e : Expr) (τ : AD) : Prop := ∃ t, PE X e t ∧ SimN X.K t τ
def S1 (X : Cx) (st : Stmt) (τ : SD) : Prop := ∃ t, PS X st t ∧ SimS X.K t τ
def B (X : Cx) (st : List Stmt) (τ : SD) : Prop := ∃ t, PSs X st t ∧ SimS X.K t τ
def G (X : Cx) (e : Expr) (τ : GD) : Prop := ∃ t, PG X e t ∧ SimG X.K t τ
def Gs (X : Cx) (es : List Expr) (τ : GsD) : Prop := ∃ t, PGs X es t ∧ SimGs X.K t τ
def I (X : Cx) (tg e : Expr) (τ : ID) : Prop := ∃ t, PI X tg e t ∧ SimI X.K t τ
def O (X : Cx) (f : Value → Value → Sem Value) (ρ : R2D) : Prop := ∃ r, OpR X f r ∧ SimR2 X.K r ρ
def C (X : Cx) (f : Value) (ρ : CD) : Prop := ∃ r, CallR X f r ∧ SimC X.K r ρ
end DL

set_option Elab.async false
set_option linter.all false
set_option maxRecDepth 100000
namespace DL
open PySem PySem.Spec L2

/-! ### expressions -/
def dVar (i : Nat) : ED := fun δ S Q => match δ[i]? with | some (some d) => Q d S | _ => False
def dC (d : D) : ED := fun _ S Q => Q d S
def dOp (ρ : R2D) (a b : ED) : ED := fun δ S Q => a δ S fun x S1 => b δ S1 fun y S2 => ρ x y S2 Q
def dUn (ρ : D → Sh → QD → Prop) (a : ED) : ED := fun δ S Q => a δ S fun x S1 => ρ x S1 Q
section
variable {K : PySem.W.Frag}
theorem sim_var {i : Nat} : SimE K (tVar i) (dVar i) := fun σ H δ S w sl Q R k h => by
  unfold dVar at h
  cases e : δ[i]? with
  | none => rw [e] at h; exact h.elim
  | some o =>
    cases o with
    | none => rw [e] at h; exact h.elim
    | some d =>
      rw [e] at h
      obtain ⟨v, a, b⟩ := sl.2 i d e
      exact ⟨v, a, k v H d S (Go.refl w) b h⟩
theorem sim_c {d : D} {v : V} (h : ∀ H, Rep K H d v) : SimE K (tC v) (dC d) := fun _ H _ S w _ _ _ k q => k v H d S (Go.refl w) (h H) q
theorem sim_op {r : R2} {ρ : R2D} {ta tb : TE} {τa τb : ED} (hr : SimR2 K r ρ) (ha : SimE K ta τa) (hb : SimE K tb τb) : SimE K (tOp r ta tb) (dOp ρ τa τb) := fun σ H δ S w sl Q R k h => by
  refine ha σ H δ S w sl _ _ (fun x H1 dx S1 g1 r1 q1 => ?_) h
  refine hb σ H1 δ S1 g1.wd (sl.im (g1.im w)) _ _ (fun y H2 dy S2 g2 r2 q2 => ?_) q1
  exact hr H2 S2 x y dx dy g2.wd (r1.im (g2.im g1.wd)) r2 Q R (fun v H3 d S3 g3 r3 q3 => k v H3 d S3 ((g1.trans g2).trans g3) r3 q3) q2
end
def canE (K : PySem.W.Frag) (τ : ED) : TE := fun σ H R => ∃ δ S Q, Wd K H S ∧ SlOk K H σ δ ∧ (∀ v H' d S', Go K S H S' H' → Rep K H' d v → Q d S' → R v H') ∧ τ δ S Q
theorem sim_can {K : PySem.W.Frag} {τ : ED} : SimE K (canE K τ) τ := fun σ H δ S w sl Q R k h => ⟨δ, S, Q, w, sl, k, h⟩
theorem E.can {X : Cx} {e : Expr} {τ : ED} (h : E X e τ) : PE X e (canE X.K τ) := by
  obtain ⟨t, h1, h2⟩ := h
  exact ⟨fun {p s σ H R} k0 I ⟨δ, S, Q, w, sl, k, q⟩ => h1.run k0 I (h2 σ H δ S w sl Q R k q)⟩
def canT (K : PySem.W.Frag) (τ : TD) : TT := fun σ H R => ∃ δ S Q, Wd K H S ∧ SlOk K H σ δ ∧ (∀ b H' S', Go K S H S' H' → Q b S' → R b H') ∧ τ δ S Q
theorem sim_canT {K : PySem.W.Frag} {τ : TD} : SimT K (canT K τ) τ := fun σ H δ S w sl Q R k h => ⟨δ, S, Q, w, sl, k, h⟩
theorem T.can {X : Cx} {e : Expr} {τ : TD} (h : T X e τ) : PT X e (canT X.K τ) := by
  obtain ⟨t, h1, h2⟩ := h
  exact ⟨fun {p s σ H R} k0 I ⟨δ, S, Q, w, sl, k, q⟩ => h1.run k0 I (h2 σ H δ S w sl Q R k q)⟩
section
variable {X : Cx} {a b c e : Expr} {pos : Pos} {τa τb τc τ : ED}
theorem e_var (i : Nat) {x : Str} {pos : Pos} (hN : X.N[i]? = some x := by rfl) (hv : Vis X.env.scope x := by first | exact Or.inl rfl | exact Or.inr (Or.inl rfl) | exact Or.inr (Or.inr rfl)) (hd : (x == ("__debug__" : Str)) = false := by decide)
    (hcd : (x == ("__classdict__" : Str)) = false := by decide) : E X (.Name x pos) (dVar i) := ⟨_, pe_var hN hv hd hcd, sim_var⟩
theorem e_int {i : Int} {j pos} : E X (.Constant (.int i) j pos) (dC (.int i)) := ⟨_, pe_int, sim_c fun _ => rfl⟩
theorem e_bl {b : Bool} {j pos} : E X (.Constant (.bool b) j pos) (dC (.bl b)) := ⟨_, pe_bl, sim_c fun _ => rfl⟩
theorem e_non {j pos} : E X (.Constant .none j pos) (dC .non) := ⟨_, pe_non, sim_c fun _ => rfl⟩
theorem e_str {x : Str} {j pos} (s : List Nat) (h : x = ⟨s.toArray⟩ := by decide +kernel) : E X (.Constant (.str x) j pos) (dC (.str s)) := ⟨_, pe_str, sim_c fun _ => by rw [h]; rfl⟩
theorem e_op {op : Operator} {ρ : R2D} (ho : O X (binaryOp op) ρ) (ha : E X a τa) (hb : E X b τb) : E X (.BinOp a op b pos) (dOp ρ τa τb) := by
  obtain ⟨r, h1, h2⟩ := ho
  obtain ⟨ta, a1, a2⟩ := ha
  obtain ⟨tb, b1, b2⟩ := hb
  exact ⟨_, pe_op h1 a1 b1, sim_op h2 a2 b2⟩
theorem e_cmp {op : CmpOp} {ρ : R2D} (ho : O X (compareOp op) ρ) (ha : E X a τa) (hb : E X b τb) (hm : behindInMarks op b = false := by first | exact nomark _ | rfl) : E X (.Compare a [op] [b] pos) (dOp ρ τa τb) := by
  obtain ⟨r, h1, h2⟩ := ho
  obtain ⟨ta, a1, a2⟩ := ha
  obtain ⟨tb, b1, b2⟩ := hb
  exact ⟨_, pe_cmpR h1 a1 b1 hm, sim_op h2 a2 b2⟩
theorem O.or {f : Value → Value → Sem Value} {ρ ρ' : R2D} (h : O X f ρ) (h' : O X f ρ') : O X f (fun x y S Q => ρ x y S Q ∨ ρ' x y S Q) := by
  obtain ⟨r, a1, a2⟩ := h
  obtain ⟨r', b1, b2⟩ := h'
  refine ⟨_, a1.or b1, fun H S x y dx dy w rx ry Q R k q => ?_⟩
  rcases q with q | q
  · exact .inl (a2 H S x y dx dy w rx ry Q R k q)
  · exact .inr (b2 H S x y dx dy w rx ry Q R k q)
theorem O.imp {f : Value → Value → Sem Value} {ρ ρ' : R2D} (h : O X f ρ) (hi : ∀ x y S Q, ρ' x y S Q → ρ x y S Q) : O X f ρ' := by
  obtain ⟨r, a1, a2⟩ := h
  exact ⟨r, a1, fun H S x y dx dy w rx ry Q R k q => a2 H S x y dx dy w rx ry Q R k (hi _ _ _ _ q)⟩
theorem C.or {f : Value} {ρ ρ' : CD} (h : C X f ρ) (h' : C X f ρ') : C X f (fun xs S Q => ρ xs S Q ∨ ρ' xs S Q) := by
  obtain ⟨r, a1, a2⟩ := h
  obtain ⟨r', b1, b2⟩ := h'
  refine ⟨_, CallR.or a1 b1, fun H S vs ds w r Q R k q => ?_⟩
  rcases q with q | q
  · exact .inl (a2 H S vs ds w r Q R k q)
  · exact .inr (b2 H S vs ds w r Q R k q)
theorem C.imp {f : Value} {ρ ρ' : CD} (h : C X f ρ) (hi : ∀ xs S Q, ρ' xs S Q → ρ xs S Q) : C X f ρ' := by
  obtain ⟨r, a1, a2⟩ := h
  exact ⟨r, a1, fun H S vs ds w r Q R k q => a2 H S vs ds w r Q R k (hi _ _ _ q)⟩

/-! ### operators -/
def rII (g : Int → Int → D) : R2D := fun x y S Q => match x, y with | .int i, .int j => Q (g i j) S | _, _ => False
def rIIc (c : Int → Int → Prop) (g : Int → Int → D) : R2D := fun x y S Q => match x, y with | .int i, .int j => c i j ∧ Q (g i j) S | _, _ => False
theorem o_II {f : Value → Value → Sem Value} {g : Int → Int → V} {g' : Int → Int → D} (h : OpR X f (rI0 g)) (hg : ∀ K H i j, Rep K H (g' i j) (g i j)) : O X f (rII g') := by
  refine ⟨_, h, fun H S x y dx dy w rx ry Q R k q => ?_⟩
  cases dx <;> cases dy <;> first | exact False.elim q | skip
  rename_i i j
  exact ⟨i, j, rx, ry, k _ H _ S (Go.refl w) (hg _ _ _ _) q⟩
theorem o_IIc {f : Value → Value → Sem Value} {c : Int → Int → Prop} {g : Int → Int → V} {g' : Int → Int → D} (h : OpR X f (rI c g)) (hg : ∀ K H i j, Rep K H (g' i j) (g i j)) : O X f (rIIc c g') := by
  refine ⟨_, h, fun H S x y dx dy w rx ry Q R k q => ?_⟩
  cases dx <;> cases dy <;> first | exact False.elim q | skip
  rename_i i j
  exact ⟨i, j, rx, ry, q.1, k _ H _ S (Go.refl w) (hg _ _ _ _) q.2⟩
def dAddS : R2D := fun x y S Q => match x, y with | .str a, .str b => a.length + b.length ≤ sizeLine ∧ Q (.str (a ++ b)) S | _, _ => False
theorem str_len (s : List Nat) : (⟨s.toArray⟩ : Str).length = s.length := by show s.toArray.size = _; simp
theorem str_app (a b : List Nat) : (⟨a.toArray⟩ : Str) ++ ⟨b.toArray⟩ = ⟨(a ++ b).toArray⟩ := by show (⟨a.toArray ++ b.toArray⟩ : Str) = _; simp
theorem o_addS : O X (binaryOp .Add) dAddS := by
  refine ⟨_, op_add_str, fun H S x y dx dy w rx ry Q R k q => ?_⟩
  cases dx <;> cases dy <;> first | exact False.elim q | skip
  rename_i s t
  exact ⟨_, _, rx, ry, by rw [str_len, str_len]; exact q.1, by rw [str_app]; exact k _ H (.str (s ++ t)) S (Go.refl w) rfl q.2⟩
def dAddT : R2D := fun x y S Q => match x, y with | .tup a, .tup b => a.length + b.length ≤ sizeLine ∧ Q (.tup (a ++ b)) S | _, _ => False
theorem o_addT : O X (binaryOp .Add) dAddT := by
  refine ⟨_, op_catA, fun H S x y dx dy w rx ry Q R k q => ?_⟩
  cases dx <;> cases dy <;> first | exact False.elim q | skip
  rename_i s t
  obtain ⟨a, vs, rfl, ha, ra⟩ := rx
  obtain ⟨b, us, rfl, hb, rb⟩ := ry
  refine ⟨a, b, vs, us, rfl, rfl, ha, hb, by rw [← ra.length, ← rb.length]; exact q.1, fun e => ?_, fun _ e => ?_, fun _ _ p hp => ?_⟩
  · have : s = [] := List.eq_nil_of_length_eq_zero (by rw [ra.length, e]; rfl)
    subst this
    exact k _ H (.tup ([] ++ t)) S (Go.refl w) ⟨b, us, rfl, hb, rb⟩ q.2
  · have : t = [] := List.eq_nil_of_length_eq_zero (by rw [rb.length, e]; rfl)
    subst this
    refine k _ H (.tup (s ++ [])) S (Go.refl w) ⟨a, vs, rfl, ha, ?_⟩ q.2
    rw [List.append_nil]; exact ra
  · have g := Go.new (u := .tup (vs ++ us)) w hp
    exact k _ _ (.tup (s ++ t)) S g ⟨p, vs ++ us, rfl, SqT.of upd_same, (ra.append rb).im (g.im w)⟩ q.2
/-- + of two ints, texts, tuples -/
def dAdd : R2D := fun x y S Q => match x, y with
  | .int i, .int j => Q (.int (i + j)) S
  | .str a, .str b => a.length + b.length ≤ sizeLine ∧ Q (.str (a ++ b)) S
  | .tup a, .tup b => a.length + b.length ≤ sizeLine ∧ Q (.tup (a ++ b)) S
  | _, _ => False
theorem o_add : O X (binaryOp .Add) dAdd := by
  refine O.imp ((o_II (g' := fun i j => .int (i + j)) op_add fun _ _ _ _ => rfl).or (o_addS.or o_addT)) fun x y S Q q => ?_
  cases x <;> cases y <;> first | exact False.elim q | exact .inl q | exact .inr (.inl q) | exact .inr (.inr q)
def dSub : R2D := rII fun i j => .int (i - j)
def dMul : R2D := rIIc CMul fun i j => .int (i * j)
def dMod : R2D := rIIc (fun _ j => 0 < j) fun i j => .int (i % j)
def dFdiv : R2D := rIIc CDiv fun i j => .int (i / j)
def dPow : R2D := rIIc CPow fun i j => .int (i ^ j.toNat)
theorem o_sub : O X (binaryOp .Sub) dSub := o_II op_sub fun _ _ _ _ => rfl
theorem o_mul : O X (binaryOp .Mult) dMul := o_IIc op_mul fun _ _ _ _ => rfl
theorem o_mod : O X (binaryOp .Mod) dMod := o_IIc op_mod fun _ _ _ _ => rfl
theorem o_fdiv : O X (binaryOp .FloorDiv) dFdiv := o_IIc op_fdiv fun _ _ _ _ => rfl
theorem o_pow : O X (binaryOp .Pow) dPow := o_IIc op_pow fun _ _ _ _ => rfl
def dLt : R2D := rII fun i j => .bl (decide (i < j))
def dLe : R2D := rII fun i j => .bl (decide (i ≤ j))
def dGt : R2D := rII fun i j => .bl (decide (j < i))
def dGe : R2D := rII fun i j => .bl (decide (j ≤ i))
theorem o_lt : O X (compareOp .Lt) dLt := o_II op_lt fun _ _ _ _ => rfl
theorem o_le : O X (compareOp .LtE) dLe := o_II op_le fun _ _ _ _ => rfl
theorem o_gt : O X (compareOp .Gt) dGt := o_II op_gt fun _ _ _ _ => rfl
theorem o_ge : O X (compareOp .GtE) dGe := o_II op_ge fun _ _ _ _ => rfl
theorem str_inj {a b : List Nat} : ((⟨a.toArray⟩ : Str) = ⟨b.toArray⟩) ↔ a = b := by
  constructor
  · intro h; injection h with h; simpa using h
  · rintro rfl; rfl
/-- == of scalars -/
def scd : D → D → Option Bool
  | .int i, .int j => some (decide (i = j))
  | .str i, .str j => some (decide (i = j))
  | .bl i, .bl j => some (decide (i = j))
  | .non, .non => some true
  | .non, .int _ => some false | .int _, .non => some false | .non, .bl _ => some false | .bl _, .non => some false | .non, .str _ => some false | .str _, .non => some false
  | .int _, .str _ => some false | .str _, .int _ => some false | .bl _, .str _ => some false | .str _, .bl _ => some false
  | _, _ => none
theorem scd_ok {K : PySem.W.Frag} {H : Hp} {dx dy : D} {x y : V} (rx : Rep K H dx x) (ry : Rep K H dy y) {b : Bool} (h : scd dx dy = some b) : scal x y = true ∧ decide (x = y) = b := by
  cases dx <;> cases dy <;> simp only [scd, reduceCtorEq, Option.some.injEq] at h
  all_goals (obtain rfl := rx; obtain rfl := ry; subst h; refine ⟨rfl, ?_⟩; simp [str_inj])
def dEq : R2D := fun x y S Q => match scd x y with | some b => Q (.bl b) S | none => False
def dNe : R2D := fun x y S Q => match scd x y with | some b => Q (.bl (!b)) S | none => False
theorem o_eq : O X (compareOp .Eq) dEq := by
  refine ⟨_, op_eq, fun H S x y dx dy w rx ry Q R k q => ?_⟩
  unfold dEq at q
  cases e : scd dx dy with
  | none => rw [e] at q; exact q.elim
  | some b =>
    rw [e] at q
    obtain ⟨h1, h2⟩ := scd_ok rx ry e
    exact ⟨h1, k _ H (.bl b) S (Go.refl w) (by rw [h2]; rfl) q⟩
theorem o_ne : O X (compareOp .NotEq) dNe := by
  refine ⟨_, op_ne, fun H S x y dx dy w rx ry Q R k q => ?_⟩
  unfold dNe at q
  cases e : scd dx dy with
  | none => rw [e] at q; exact q.elim
  | some b =>
    rw [e] at q
    obtain ⟨h1, h2⟩ := scd_ok rx ry e
    exact ⟨h1, k _ H (.bl (!b)) S (Go.refl w) (by rw [h2]; rfl) q⟩
/-- is None -/
def dIsN : R2D := fun x y S Q => match y with | .non => Q (.bl (match x with | .non => true | _ => false)) S | _ => False
def dNotN : R2D := fun x y S Q => match y with | .non => Q (.bl (match x with | .non => false | _ => true)) S | _ => False
theorem o_isN : O X (compareOp .Is) dIsN := by
  refine ⟨_, op_isN, fun H S x y dx dy w rx ry Q R k q => ?_⟩
  cases dy <;> first | exact False.elim q | skip
  obtain rfl := ry
  refine ⟨rfl, k _ H _ S (Go.refl w) ?_ q⟩
  cases dx <;> first | (obtain rfl := rx; rfl) | (obtain ⟨_, _, rfl, _⟩ := rx; rfl)
theorem o_notN : O X (compareOp .IsNot) dNotN := by
  refine ⟨_, op_notN, fun H S x y dx dy w rx ry Q R k q => ?_⟩
  cases dy <;> first | exact False.elim q | skip
  obtain rfl := ry
  refine ⟨rfl, k _ H _ S (Go.refl w) ?_ q⟩
  cases dx <;> first | (obtain rfl := rx; rfl) | (obtain ⟨_, _, rfl, _⟩ := rx; rfl)
def dNeg : D → Sh → QD → Prop := fun x S Q => match x with | .int i => Q (.int (-i)) S | _ => False
theorem e_neg (ha : E X a τa) : E X (.UnaryOp .USub a pos) (dUn dNeg τa) := by
  obtain ⟨ta, a1, a2⟩ := ha
  refine ⟨_, pe_un un_neg a1, fun σ H δ S w sl Q R k h => ?_⟩
  refine a2 σ H δ S w sl _ _ (fun x H1 dx S1 g1 r1 q1 => ?_) h
  cases dx <;> first | exact False.elim q1 | skip
  rename_i i
  exact ⟨_, r1, k _ H1 (.int (-i)) S1 g1 rfl q1⟩

/-! ### tests -/
def dTruS (S : Sh) : D → Option Bool
  | .non => some false
  | .bl b => some b
  | .int i => some (decide (i ≠ 0))
  | .str s => if s.length ≤ sizeLine then some (!s.isEmpty) else none
  | .tup ds => some (!ds.isEmpty)
  | .frz ds => some (!ds.isEmpty)
  | .rf p => match S p with | some (.lst ds) => some (!ds.isEmpty) | _ => none
  | .ty _ => none
  | .kst _ _ => none
theorem tru_rep {K : PySem.W.Frag} {H : Hp} {S : Sh} {d : D} {v : V} {b : Bool} (w : Wd K H S) (r : Rep K H d v) (h : dTruS S d = some b) : TruV K v H b := by
  cases d with
  | non => obtain rfl := r; cases h; rfl
  | bl c => obtain rfl := r; cases h; rfl
  | int i => obtain rfl := r; cases h; show _ = _; rw [Bool.eq_iff_iff]; simp
  | str s =>
    obtain rfl := r
    simp only [dTruS] at h
    split at h
    · rename_i hl
      cases h
      refine ⟨by rw [str_len]; exact hl, ?_⟩
      rw [str_len]
      cases s <;> simp <;> omega
    · cases h
  | tup ds =>
    obtain ⟨a, vs, rfl, q, rs⟩ := r
    cases h
    refine .inr (.inl ⟨vs, q, ?_⟩)
    have := rs.length
    cases ds <;> cases vs <;> simp at this ⊢
  | frz ds =>
    obtain ⟨a, vs, rfl, q, rs⟩ := r
    cases h
    refine .inl ⟨vs, q.l, ?_⟩
    have := rs.length
    cases ds <;> cases vs <;> simp at this ⊢
  | rf p =>
    obtain rfl := r
    simp only [dTruS] at h
    split at h
    · rename_i ds e
      cases h
      obtain ⟨ho, e1, vs, rfl, rs⟩ := w _ _ e
      refine .inl ⟨vs, SqL.of e1, ?_⟩
      have := rs.length
      cases ds <;> cases vs <;> simp at this ⊢
    · cases h
  | ty n => cases h
  | kst w xs => cases h
def dTru (a : ED) : TD := fun δ S Q => a δ S fun x S1 => match dTruS S1 x with | some b => Q b S1 | none => False
def dTB (a : ED) : TD := fun δ S Q => a δ S fun x S1 => match x with | .bl b => Q b S1 | _ => False
theorem t_cmp {op : CmpOp} {ρ : R2D} (ho : O X (compareOp op) ρ) (ha : E X a τa) (hb : E X b τb) (hm : behindInMarks op b = false := by first | exact nomark _ | rfl) : T X (.Compare a [op] [b] pos) (dTB (dOp ρ τa τb)) := by
  obtain ⟨r, h1, h2⟩ := ho
  obtain ⟨ta, a1, a2⟩ := ha
  obtain ⟨tb, b1, b2⟩ := hb
  refine ⟨_, pt_cmpR h1 a1 b1 hm, fun σ H δ S w sl Q R k h => ?_⟩
  refine sim_op h2 a2 b2 σ H δ S w sl _ _ (fun v H' d S' g r' q => ?_) h
  cases d <;> first | exact False.elim q | skip
  exact ⟨_, r', k _ H' S' g q⟩
theorem t_tru (ha : E X a τa) (he : ∀ whole, isTrue a X.env whole = (do let v ← whole; standAt a.pos; holding [v] (truthy v)) := by intro _; rfl) : T X a (dTru τa) := by
  obtain ⟨ta, a1, a2⟩ := ha
  refine ⟨_, pt_truth a1 he, fun σ H δ S w sl Q R k h => ?_⟩
  refine a2 σ H δ S w sl _ _ (fun v H' d S' g r' q => ?_) h
  cases e : dTruS S' d with
  | none => rw [e] at q; exact q.elim
  | some b =>
    rw [e] at q
    exact ⟨b, tru_rep g.wd r' e, k _ H' S' g q⟩
theorem T.w {τ : TD} (h : W X e τ) : T X e τ := by
  obtain ⟨t, h1, h2⟩ := h
  exact ⟨t, h1.pt, h2⟩
def dAnd (a b : TD) : TD := fun δ S Q => a δ S fun c S1 => if c = true then b δ S1 Q else Q false S1
def dOr (a b : TD) : TD := fun δ S Q => a δ S fun c S1 => if c = true then Q true S1 else b δ S1 Q
def dNot (a : TD) : TD := fun δ S Q => a δ S fun c S1 => Q (!c) S1
variable {κa κb : TD} {es rest : List Expr}
theorem w_and1 (ha : T X a κa) : W X (.BoolOp .And [a] pos) κa := by
  obtain ⟨t, h1, h2⟩ := ha
  exact ⟨t, pw_and1 h1, h2⟩
theorem w_or1 (ha : T X a κa) : W X (.BoolOp .Or [a] pos) κa := by
  obtain ⟨t, h1, h2⟩ := ha
  exact ⟨t, pw_or1 h1, h2⟩
theorem w_and (ha : T X a κa) (hb : W X (.BoolOp .And (b :: rest) pos) κb) : W X (.BoolOp .And (a :: b :: rest) pos) (dAnd κa κb) := by
  obtain ⟨ta, a1, a2⟩ := ha
  obtain ⟨tb, b1, b2⟩ := hb
  refine ⟨_, pw_and a1 b1, fun σ H δ S w sl Q R k h => ?_⟩
  refine a2 σ H δ S w sl _ _ (fun c H' S' g q => ?_) h
  cases c with
  | true => exact b2 σ H' δ S' g.wd (sl.im (g.im w)) Q R (fun b H2 S2 g2 q2 => k b H2 S2 (g.trans g2) q2) q
  | false => exact k _ H' S' g q
theorem w_or (ha : T X a κa) (hb : W X (.BoolOp .Or (b :: rest) pos) κb) : W X (.BoolOp .Or (a :: b :: rest) pos) (dOr κa κb) := by
  obtain ⟨ta, a1, a2⟩ := ha
  obtain ⟨tb, b1, b2⟩ := hb
  refine ⟨_, pw_or a1 b1, fun σ H δ S w sl Q R k h => ?_⟩
  refine a2 σ H δ S w sl _ _ (fun c H' S' g q => ?_) h
  cases c with
  | false => exact b2 σ H' δ S' g.wd (sl.im (g.im w)) Q R (fun b H2 S2 g2 q2 => k b H2 S2 (g.trans g2) q2) q
  | true => exact k _ H' S' g q
theorem t_not (ha : T X a κa) : T X (.UnaryOp .Not a pos) (dNot κa) := by
  obtain ⟨ta, a1, a2⟩ := ha
  exact ⟨_, pt_not a1, fun σ H δ S w sl Q R k h => a2 σ H δ S w sl _ _ (fun c H' S' g q => k _ H' S' g q) h⟩
/-- not, and, or as values -/
def dNotV (a : ED) : ED := fun δ S Q => dTru a δ S fun c S1 => Q (.bl (!c)) S1
def dAndV (a b : ED) : ED := fun δ S Q => a δ S fun x S1 => match dTruS S1 x with | some c => if c = true then b δ S1 Q else Q x S1 | none => False
def dOrV (a b : ED) : ED := fun δ S Q => a δ S fun x S1 => match dTruS S1 x with | some c => if c = true then Q x S1 else b δ S1 Q | none => False
theorem e_not (ha : E X a τa) : E X (.UnaryOp .Not a pos) (dNotV τa) := by
  obtain ⟨ta, a1, a2⟩ := ha
  refine ⟨_, pe_notT a1, fun σ H δ S w sl Q R k h => ?_⟩
  refine a2 σ H δ S w sl _ _ (fun v H' d S' g r' q => ?_) h
  cases e : dTruS S' d with
  | none => rw [e] at q; exact q.elim
  | some b =>
    rw [e] at q
    exact ⟨b, tru_rep g.wd r' e, k _ H' (.bl (!b)) S' g rfl q⟩
theorem e_one {op} (ha : E X a τa) : E X (.BoolOp op [a] pos) τa := by
  obtain ⟨ta, a1, a2⟩ := ha
  exact ⟨_, pe_one a1, a2⟩
theorem e_and (ha : E X a τa) (hb : E X (.BoolOp .And (b :: rest) pos) τb) : E X (.BoolOp .And (a :: b :: rest) pos) (dAndV τa τb) := by
  obtain ⟨ta, a1, a2⟩ := ha
  obtain ⟨tb, b1, b2⟩ := hb
  refine ⟨_, pe_andT a1 b1, fun σ H δ S w sl Q R k h => ?_⟩
  refine a2 σ H δ S w sl _ _ (fun v H' d S' g r' q => ?_) h
  cases e : dTruS S' d with
  | none => rw [e] at q; exact q.elim
  | some c =>
    rw [e] at q
    refine ⟨c, tru_rep g.wd r' e, ?_⟩
    cases c with
    | true => exact b2 σ H' δ S' g.wd (sl.im (g.im w)) Q R (fun v H2 d S2 g2 r2 q2 => k v H2 d S2 (g.trans g2) r2 q2) q
    | false => exact k _ H' _ S' g r' q
theorem e_or (ha : E X a τa) (hb : E X (.BoolOp .Or (b :: rest) pos) τb) : E X (.BoolOp .Or (a :: b :: rest) pos) (dOrV τa τb) := by
  obtain ⟨ta, a1, a2⟩ := ha
  obtain ⟨tb, b1, b2⟩ := hb
  refine ⟨_, pe_orT a1 b1, fun σ H δ S w sl Q R k h => ?_⟩
  refine a2 σ H δ S w sl _ _ (fun v H' d S' g r' q => ?_) h
  cases e : dTruS S' d with
  | none => rw [e] at q; exact q.elim
  | some c =>
    rw [e] at q
    refine ⟨c, tru_rep g.wd r' e, ?_⟩
    cases c with
    | false => exact b2 σ H' δ S' g.wd (sl.im (g.im w)) Q R (fun v H2 d S2 g2 r2 q2 => k v H2 d S2 (g.trans g2) r2 q2) q
    | true => exact k _ H' _ S' g r' q
def dIfE (c : TD) (a b : ED) : ED := fun δ S Q => c δ S fun t S1 => if t = true then a δ S1 Q else b δ S1 Q
theorem e_if (hc : T X c κa) (ha : E X a τa) (hb : E X b τb) : E X (.IfExp c a b pos) (dIfE κa τa τb) := by
  obtain ⟨tc, c1, c2⟩ := hc
  obtain ⟨ta, a1, a2⟩ := ha
  obtain ⟨tb, b1, b2⟩ := hb
  refine ⟨_, pe_ifExp c1 a1 b1, fun σ H δ S w sl Q R k h => ?_⟩
  refine c2 σ H δ S w sl _ _ (fun t H' S' g q => ?_) h
  cases t with
  | true => exact a2 σ H' δ S' g.wd (sl.im (g.im w)) Q R (fun v H2 d S2 g2 r2 q2 => k v H2 d S2 (g.trans g2) r2 q2) q
  | false => exact b2 σ H' δ S' g.wd (sl.im (g.im w)) Q R (fun v H2 d S2 g2 r2 q2 => k v H2 d S2 (g.trans g2) r2 q2) q

/-! ### argument lists, displays, calls -/
def dNil : AD := fun _ S Q => Q [] S
def dCons (a : ED) (r : AD) : AD := fun δ S Q => a δ S fun x S1 => r δ S1 fun xs S2 => Q (x :: xs) S2
variable {α : AD}
theorem a_nil : A X [] dNil := ⟨_, pa_nil, fun σ H δ S w sl Q R k h => k [] H [] S (Go.refl w) rfl h⟩
theorem a_cons (ha : E X e τ) (hr : A X es α) (hs : starEach (e :: es) X.env = (false, eval e X.env) :: starEach es X.env := by rfl) : A X (e :: es) (dCons τ α) := by
  obtain ⟨t, a1, a2⟩ := ha
  obtain ⟨tr, b1, b2⟩ := hr
  refine ⟨_, pa_cons a1 b1 hs, fun σ H δ S w sl Q R k h => ?_⟩
  refine a2 σ H δ S w sl _ _ (fun v H' d S' g r' q => ?_) h
  refine b2 σ H' δ S' g.wd (sl.im (g.im w)) _ _ (fun vs H2 ds S2 g2 r2 q2 => ?_) q
  exact k (v :: vs) H2 (d :: ds) S2 (g.trans g2) ⟨v, vs, rfl, r'.im (g2.im g.wd), r2⟩ q2
def dTup (a : AD) : ED := fun δ S Q => a δ S fun ds S1 => ds.length ≤ sizeLine ∧ Q (.tup ds) S1
theorem e_tup {x1} (h : A X es α) : E X (.Tuple es x1 pos) (dTup α) := by
  obtain ⟨t, a1, a2⟩ := h
  refine ⟨_, pe_tup a1, fun σ H δ S w sl Q R k h => ?_⟩
  refine a2 σ H δ S w sl _ _ (fun vs H' ds S' g r' q => ?_) h
  refine ⟨by rw [← r'.length]; exact q.1, fun p hp => ?_⟩
  have g2 := Go.new (u := .tup vs) g.wd hp
  exact k _ _ (.tup ds) S' (g.trans g2) ⟨p, vs, rfl, SqT.of upd_same, r'.im (g2.im g.wd)⟩ q.2
/-- a new list: as an object; read on the spot -/
def dNew (a : AD) : ED := fun δ S Q => a δ S fun ds S1 => ∀ p, S1 p = none → Q (.rf p) (su S1 p (.lst ds))
theorem Go.own {K : PySem.W.Frag} {S S1 : Sh} {H H1 : Hp} (g : Go K S H S1 H1) {p : Addr} {vs : List V} {ds : List D} (h0 : H p = none) (h : H1 p = some (.lst vs)) (hs : S1 p = none) (r : Reps K H1 ds vs) : Go K S H (su S1 p (.lst ds)) H1 := by
  refine ⟨g.ext, fun a o h1 h2 => ?_, fun q x hq => ?_, g.th⟩
  · rw [su_ne (ne_of_none h1 h0)]
    exact g.out a o h1 h2
  · by_cases e : q = p
    · subst e
      rw [su_same] at hq; cases hq
      exact ⟨_, h, vs, rfl, r⟩
    · rw [su_ne e] at hq
      exact g.wd q x hq
theorem e_new {ν : AD} (h : N X e ν) : E X e (dNew ν) := by
  obtain ⟨t, a1, a2⟩ := h
  refine ⟨_, a1, fun σ H δ S w sl Q R k h => ?_⟩
  refine a2 σ H δ S w sl _ _ (fun p H' vs ds S' g h0 hp hs r' q => ?_) h
  exact k _ H' (.rf p) _ (g.own h0 hp hs r') rfl (q p hs)
theorem l_new {ν : AD} (h : N X e ν) : L X e ν := by
  obtain ⟨t, a1, a2⟩ := h
  refine ⟨_, a1, fun σ H δ S w sl Q R k h => ?_⟩
  exact a2 σ H δ S w sl _ _ (fun p H2 vs ds S2 g h0 hp hs r2 q => k p H2 vs ds S2 g (SqL.of hp) r2 q) h
def dLst (a : AD) : AD := fun δ S Q => a δ S fun ds S1 => ds.length ≤ sizeLine ∧ Q ds S1
theorem n_lst (h : A X es α) : N X (.List es pos) (dLst α) := by
  obtain ⟨t, a1, a2⟩ := h
  refine ⟨_, pe_lst a1, fun σ H δ S w sl Q R k h => ?_⟩
  refine a2 σ H δ S w sl _ _ (fun vs H' ds S' g r' q => ?_) h
  refine ⟨by rw [← r'.length]; exact q.1, fun p hp => ?_⟩
  have g1 := Go.new (u := .lst vs) g.wd hp
  exact k p _ vs ds S' (g.trans g1) (g.th p hp) upd_same (g.wd.free hp) (r'.im (g1.im g.wd)) q.2
/-- a list at a name -/
def dAsL (a : ED) : AD := fun δ S Q => a δ S fun x S1 => match x with
  | .rf p => (match S1 p with | some (.lst ds) => Q ds S1 | _ => False)
  | .frz ds => Q ds S1
  | _ => False
theorem l_of (h : E X e τ) : L X e (dAsL τ) := by
  obtain ⟨t, a1, a2⟩ := h
  refine ⟨_, a1, fun σ H δ S w sl Q R k h => ?_⟩
  refine a2 σ H δ S w sl _ _ (fun v H' d S' g r' q => ?_) h
  cases d <;> first | exact False.elim q | skip
  · obtain ⟨a, vs, rfl, hf, rs⟩ := r'
    exact k a H' vs _ S' g hf.l rs q
  · rename_i p
    obtain rfl := r'
    simp only at q
    cases e : S' p with
    | none => rw [e] at q; exact q.elim
    | some o =>
      cases o with
      | ins _ _ => rw [e] at q; exact q.elim
      | dic _ => rw [e] at q; exact q.elim
      | exn _ => rw [e] at q; exact q.elim
      | lst ds =>
        rw [e] at q
        obtain ⟨ho, e1, vs, rfl, rs⟩ := g.wd _ _ e
        exact k p H' vs ds S' g (SqL.of e1) rs q
/-- a list made, as an object -/
def dCB (ρ : CD) (a : AD) : ED := fun δ S Q => a δ S fun ds S1 => ρ ds S1 Q
theorem sim_cb {K : PySem.W.Frag} {r : List V → Hp → VK → Prop} {ρ : CD} {ta : TA} {α : AD} (hr : SimC K r ρ) (ha : SimA K ta α) : SimE K (tCB r ta) (dCB ρ α) := fun σ H δ S w sl Q R k h =>
  ha σ H δ S w sl _ _ (fun vs H1 ds S1 g1 r1 q1 => hr H1 S1 vs ds g1.wd r1 Q R (fun v H2 d S2 g2 r2 q2 => k v H2 d S2 (g1.trans g2) r2 q2) q1) h
theorem e_callB {id : String} {x : Str} {p : Pos} {ρ : CD} (hc : C X (.builtin id) ρ) (hm : X.mg x = none) (ha : A X (e :: es) α) (hg : Gl X x := by rfl) (hv : bootBuiltins x = some (.builtin id) := by decide +kernel) (hn : x ≠ "__name__" := by decide) (hdb : (x == ("__debug__" : Str)) = false := by decide)
    (he : starEach (e :: es) X.env = (false, eval e X.env) :: starEach es X.env := by rfl) (hpl : (backTo pos (starEach es X.env)).any (·.1) = false := by rfl) : E X (.Call (.Name x p) (e :: es) [] pos) (dCB ρ α) := by
  obtain ⟨r, h1, h2⟩ := hc
  obtain ⟨ta, a1, a2⟩ := ha
  exact ⟨_, pe_callB h1 hg hm hv a1 hn hdb he hpl, sim_cb h2 a2⟩
theorem e_callTy {ty : String} {x : Str} {p : Pos} {ρ : CD} (hc : C X (.type ty) ρ) (hm : X.mg x = none) (ha : A X (e :: es) α) (hg : Gl X x := by rfl) (hv : bootBuiltins x = some (.type ty) := by decide +kernel) (hn : x ≠ "__name__" := by decide) (hdb : (x == ("__debug__" : Str)) = false := by decide)
    (he : starEach (e :: es) X.env = (false, eval e X.env) :: starEach es X.env := by rfl) (hpl : (backTo pos (starEach es X.env)).any (·.1) = false := by rfl) : E X (.Call (.Name x p) (e :: es) [] pos) (dCB ρ α) := by
  obtain ⟨r, h1, h2⟩ := hc
  obtain ⟨ta, a1, a2⟩ := ha
  exact ⟨_, pe_callTy h1 hg hm hv a1 hn hdb he hpl, sim_cb h2 a2⟩
/-- a def's promise over data -/
abbrev SpD := List D → Sh → QD → Prop
def lift (K : PySem.W.Frag) (n : Nat) (sp : SpD) : Sp := fun vs H Q _ => ∃ S ds, Wd K H S ∧ Reps K H ds vs ∧ ds.length = n ∧ ∃ Qd : QD, (∀ v H' d S', Go K S H S' H' → Rep K H' d v → Qd d S' → Q v H') ∧ sp ds S Qd
def dCall (n : Nat) (sp : SpD) (dv : List D) (a : AD) : ED := fun δ S Q => a δ S fun ds S1 => (ds ++ dv).length = n ∧ sp (ds ++ dv) S1 Q
theorem sim_call {K : PySem.W.Frag} {n : Nat} {sp : SpD} {ta : TA} {α : AD} {dv : List D} {dvs : List V} (hd : ∀ H, Reps K H dv dvs) (ha : SimA K ta α) : SimE K (tCall (lift K n sp) dvs E0 ta) (dCall n sp dv α) := fun σ H δ S w sl Q R k h =>
  ha σ H δ S w sl _ _ (fun vs H1 ds S1 g1 r1 q1 => ⟨S1, ds ++ dv, g1.wd, r1.append (hd H1), q1.1, Q, fun v H2 d S2 g2 r2 q2 => k v H2 d S2 (g1.trans g2) r2 q2, q1.2⟩) h
theorem e_call {n k : Nat} {sp : SpD} {f : Addr} {fd : FuncData} {ps : List Str} {x : Str} {p : Pos} (F : FnOk X.prog X.w X.K X.mg X.base CX0 k f fd ps (lift X.K n sp)) (hr : Room k X.A) (hm : X.mg x = some (.ref f)) (hk : PySem.W.keepIn X.K (.ref f) = true) (hb : Binds X.K fd ps [])
    (ha : A X (e :: es) α) (hg : Gl X x := by rfl) (hdb : (x == ("__debug__" : Str)) = false := by decide) (he : starEach (e :: es) X.env = (false, eval e X.env) :: starEach es X.env := by rfl) (hpl : (backTo pos (starEach es X.env)).any (·.1) = false := by rfl) :
    E X (.Call (.Name x p) (e :: es) [] pos) (dCall n sp [] α) := by
  obtain ⟨ta, a1, a2⟩ := ha
  exact ⟨_, pe_call F hr hg hm hk hb .nil pass0 a1 hdb he hpl, sim_call (fun _ => rfl) a2⟩
theorem e_call0 {k : Nat} {sp : SpD} {f : Addr} {fd : FuncData} {ps : List Str} {x : Str} {p : Pos} (F : FnOk X.prog X.w X.K X.mg X.base CX0 k f fd ps (lift X.K 0 sp)) (hr : Room k X.A) (hm : X.mg x = some (.ref f)) (hk : PySem.W.keepIn X.K (.ref f) = true) (hb : Binds X.K fd ps [])
    (hg : Gl X x := by rfl) (hdb : (x == ("__debug__" : Str)) = false := by decide) : E X (.Call (.Name x p) [] [] pos) (dCall 0 sp [] dNil) :=
  ⟨_, pe_call0 F hr hg hm hk hb .nil pass0 hdb, sim_call (fun _ => rfl) fun σ H δ S w sl Q R k h => k [] H [] S (Go.refl w) rfl h⟩

/-! ### statements -/
def dNext : SD := fun F δ S => F.nx δ S
def dSeq (t u : SD) : SD := fun F δ S => t { F with nx := u F } δ S
def dBreak : SD := fun F δ S => F.bk δ S
def dCont : SD := fun F δ S => F.ct δ S
def dDrop (a : ED) : SD := fun F δ S => a δ S fun _ S1 => F.nx δ S1
def dRet (a : ED) : SD := fun F δ S => a δ S F.rt
def dRetN : SD := fun F _ S => F.rt .non S
def dIfS (c : TD) (t u : SD) : SD := fun F δ S => c δ S fun b S1 => if b = true then t F δ S1 else u F δ S1
def dNever : SD := fun _ _ _ => False
variable {st : Stmt} {sts : List Stmt} {ξ υ : SD}
theorem b_nil : B X [] dNext := ⟨_, pss_nil, fun σ H δ S w sl F G hn hr hb hc h => hn σ H δ S (Go.refl w) sl h⟩
theorem b_cons (h1 : S1 X st ξ) (h2 : B X sts υ) : B X (st :: sts) (dSeq ξ υ) := by
  obtain ⟨t, a1, a2⟩ := h1
  obtain ⟨u, b1, b2⟩ := h2
  refine ⟨_, pss_cons a1 b1, fun σ H δ S w sl F G hn hr hb hc h => ?_⟩
  refine a2 σ H δ S w sl { F with nx := υ F } { G with nx := u G } (fun σ' H' δ' S' g sl' q => ?_) hr hb hc h
  exact b2 σ' H' δ' S' g.wd sl' F G (fun σ2 H2 δ2 S2 g2 => hn σ2 H2 δ2 S2 (g.trans g2)) (fun v H2 d S2 g2 => hr v H2 d S2 (g.trans g2)) (fun σ2 H2 δ2 S2 g2 => hb σ2 H2 δ2 S2 (g.trans g2)) (fun σ2 H2 δ2 S2 g2 => hc σ2 H2 δ2 S2 (g.trans g2)) q
theorem b_one (h1 : S1 X st ξ) : B X [st] ξ := by
  obtain ⟨t, a1, a2⟩ := h1
  exact ⟨_, pss_one a1, a2⟩
theorem s_pass : S1 X (.Pass pos) dNext := ⟨_, ps_pass, fun σ H δ S w sl F G hn hr hb hc h => hn σ H δ S (Go.refl w) sl h⟩
theorem s_break : S1 X (.Break pos) dBreak := ⟨_, ps_break, fun σ H δ S w sl F G hn hr hb hc h => hb σ H δ S (Go.refl w) sl h⟩
theorem s_cont : S1 X (.Continue pos) dCont := ⟨_, ps_continue, fun σ H δ S w sl F G hn hr hb hc h => hc σ H δ S (Go.refl w) sl h⟩
theorem s_expr (he : E X e τ) (hs : swapsWith e none pos.line X.env = pure false := by rfl) : S1 X (.Expr e pos) (dDrop τ) := by
  obtain ⟨t, a1, a2⟩ := he
  exact ⟨_, ps_expr a1 hs, fun σ H δ S w sl F G hn hr hb hc h => a2 σ H δ S w sl _ _ (fun v H' d S' g r' q => hn σ H' δ S' g (sl.im (g.im w)) q) h⟩
theorem s_ret (he : E X e τ) : S1 X (.Return (some e) pos) (dRet τ) := by
  obtain ⟨t, a1, a2⟩ := he
  exact ⟨_, ps_ret a1, fun σ H δ S w sl F G hn hr hb hc h => a2 σ H δ S w sl _ _ (fun v H' d S' g r' q => hr v H' d S' g r' q) h⟩
theorem s_retN : S1 X (.Return none pos) dRetN := ⟨_, ps_retN, fun σ H δ S w sl F G hn hr hb hc h => hr .non H .non S (Go.refl w) rfl h⟩
theorem s_if {κ : TD} {yes no : List Stmt} (hc : T X c κ) (ha : B X yes ξ) (hb : B X no υ) : S1 X (.If c yes no pos) (dIfS κ ξ υ) := by
  obtain ⟨tc, c1, c2⟩ := hc
  obtain ⟨ta, a1, a2⟩ := ha
  obtain ⟨tb, b1, b2⟩ := hb
  refine ⟨_, ps_if c1 a1 b1, fun σ H δ S w sl F G hn hr hb hc h => ?_⟩
  refine c2 σ H δ S w sl _ _ (fun t H' S' g q => ?_) h
  cases t with
  | true => exact a2 σ H' δ S' g.wd (sl.im (g.im w)) F G (fun σ2 H2 δ2 S2 g2 => hn σ2 H2 δ2 S2 (g.trans g2)) (fun v H2 d S2 g2 => hr v H2 d S2 (g.trans g2)) (fun σ2 H2 δ2 S2 g2 => hb σ2 H2 δ2 S2 (g.trans g2)) (fun σ2 H2 δ2 S2 g2 => hc σ2 H2 δ2 S2 (g.trans g2)) q
  | false => exact b2 σ H' δ S' g.wd (sl.im (g.im w)) F G (fun σ2 H2 δ2 S2 g2 => hn σ2 H2 δ2 S2 (g.trans g2)) (fun v H2 d S2 g2 => hr v H2 d S2 (g.trans g2)) (fun σ2 H2 δ2 S2 g2 => hb σ2 H2 δ2 S2 (g.trans g2)) (fun σ2 H2 δ2 S2 g2 => hc σ2 H2 δ2 S2 (g.trans g2)) q
theorem s_never : S1 X st dNever := ⟨_, ps_never, fun _ _ _ _ _ _ _ _ _ _ _ _ h => h.elim⟩
def dAsg (a : ED) (g : GD) : SD := fun F δ S => a δ S fun x S1 => g x δ S1 F.nx
def dName (i : Nat) : GD := fun d δ S Q => Q (δ.set i (some d)) S
theorem g_name (i : Nat) {x : Str} (hN : X.N.Nodup) (hi : X.N[i]? = some x := by rfl) (hx : Loc X.env.scope x := by first | exact Or.inl rfl | exact Or.inr rfl) (hf : X.fn x = true ∨ X.env.scope.names.lookup x = some .local := by first | exact .inl rfl | exact .inr rfl | assumption) : G X (.Name x pos) (dName i) :=
  ⟨_, pg_name hN hi hx hf, fun σ H δ S v d w sl r Q R k h => k _ H _ S (Go.refl w) (sl.set i r) h⟩
theorem s_asg {tg e : Expr} {γ : GD} (he : E X e τ) (hg : G X tg γ) (hs : swapsWithSole [tg] e pos.line X.env = pure false := by rfl) (hw : swappedStores [tg] e X.env = pure none := by rfl)
    (h1 : (assignEach [tg] X.env).map (·.2) = [assign tg X.env] := by rfl) : S1 X (.Assign [tg] e pos) (dAsg τ γ) := by
  obtain ⟨t, a1, a2⟩ := he
  obtain ⟨tg', g1, g2⟩ := hg
  refine ⟨_, ps_asg a1 g1 hs hw h1, fun σ H δ S w sl F G hn hr hb hc h => ?_⟩
  refine a2 σ H δ S w sl _ _ (fun v H' d S' g r' q => ?_) h
  exact g2 σ H' δ S' v d g.wd (sl.im (g.im w)) r' _ _ (fun σ2 H2 δ2 S2 g' sl2 q2 => hn σ2 H2 δ2 S2 (g.trans g') sl2 q2) q
end
end DL

set_option Elab.async false
set_option linter.all false
set_option maxRecDepth 100000
namespace DL
open PySem PySem.Spec L2 DK

/-! ### loops -/
def dLoop (γ : GD) (τ : SD) (F : EndsD) (ck : Sh → Prop) : List D → Sl → Sh → Prop
  | [], δ, S => F.nx δ S
  | x :: xs, δ, S => γ x δ S fun δ1 S1 => τ { F with nx := fun δ2 S2 => ck S2 ∧ dLoop γ τ F ck xs δ2 S2, ct := fun δ2 S2 => ck S2 ∧ dLoop γ τ F ck xs δ2 S2, bk := F.nx } δ1 S1
def dFor (ι : ID) (γ : GD) (τ : SD) : SD := fun F δ S => ι δ S fun xs ck S1 => dLoop γ τ F ck xs δ S1
/-- while: within so many turns -/
def dWh (κ : TD) (τ : SD) (F : EndsD) : Nat → Sl → Sh → Prop
  | 0, _, _ => False
  | n + 1, δ, S => κ δ S fun b S1 => if b = true then τ { F with nx := dWh κ τ F n, ct := dWh κ τ F n, bk := F.nx } δ S1 else F.nx δ S1
def dWhile (κ : TD) (τ : SD) : SD := fun F δ S => ∃ n, dWh κ τ F n δ S
theorem drop_cons {α : Type} {xs : List α} {i : Nat} (h : i < xs.length) : xs.drop i = xs[i] :: xs.drop (i + 1) := List.drop_eq_getElem_cons h
section
variable {K : PySem.W.Frag}
theorem sim_for {wi : TI} {g : TG} {tb : TS} {ι : ID} {γ : GD} {τ : SD} (hi : SimI K wi ι) (hg : SimG K g γ) (hb : SimS K tb τ) : SimS K (tFor wi g tb) (dFor ι γ τ) := by
  intro σ H δ S w sl F G hn hr hbk hct h
  refine hi σ H δ S w sl _ _ (fun J H1 S1 xs ck g1 hJ hck q => ?_) h
  refine ⟨fun i m σ' H' => ∃ δ' S', Go K S1 H1 S' H' ∧ SlOk K H' σ' δ' ∧ ck S' ∧ i ≤ xs.length ∧ m = xs.length - i ∧ dLoop γ τ F ck (xs.drop i) δ' S', ⟨xs.length, δ, S1, Go.refl g1.wd, sl.im (g1.im w), hck, Nat.zero_le _, rfl, by simpa using q⟩, ?_⟩
  rintro i m σ' H' ⟨δ', S', g', sl', ck', hi', rfl, q'⟩
  obtain ⟨j1, j2⟩ := hJ S' H' (g'.kp g1.wd) ck' i
  by_cases hlt : i < xs.length
  · obtain ⟨go, yl⟩ := j1 xs[i] (by simp [hlt])
    rw [drop_cons hlt] at q'
    refine .inr ⟨go, fun σ2 H2 => ∃ δ2 S2, Go K S1 H1 S2 H2 ∧ SlOk K H2 σ2 δ2 ∧ ck S2 ∧ dLoop γ τ F ck (xs.drop (i + 1)) δ2 S2, fun σ2 H2 ⟨δ2, S2, g2, sl2, ck2, q2⟩ => ⟨xs.length - (i + 1), by omega, δ2, S2, g2, sl2, ck2, hlt, rfl, q2⟩, fun x H2 y => ?_⟩
    obtain ⟨g2, rx⟩ := yl x H2 y
    refine hg σ' H2 δ' S' x xs[i] g2.wd (sl'.im (g2.im g'.wd)) rx _ _ (fun σ3 H3 δ3 S3 g3 sl3 q3 => ?_) q'
    have g13 : Go K S1 H1 S3 H3 := (g'.trans g2).trans g3
    refine hb σ3 H3 δ3 S3 g3.wd sl3 _ _ (fun σ4 H4 δ4 S4 g4 sl4 q4 => ?_) (fun v H4 d S4 g4 r4 q4 => ?_) (fun σ4 H4 δ4 S4 g4 sl4 q4 => ?_) (fun σ4 H4 δ4 S4 g4 sl4 q4 => ?_) q3
    · exact ⟨δ4, S4, g13.trans g4, sl4, q4.1, q4.2⟩
    · exact hr v H4 d S4 (g1.trans (g13.trans g4)) r4 q4
    · exact hn σ4 H4 δ4 S4 (g1.trans (g13.trans g4)) sl4 q4
    · exact ⟨δ4, S4, g13.trans g4, sl4, q4.1, q4.2⟩
  · have e : xs.drop i = [] := List.drop_eq_nil_of_le (by omega)
    rw [e] at q'
    exact .inl ⟨j2 (by omega), hn σ' H' δ' S' (g1.trans g') sl' q'⟩
theorem sim_while {tc : TT} {tb : TS} {κ : TD} {τ : SD} (hc : SimT K tc κ) (hb : SimS K tb τ) : SimS K (tWhile tc tb) (dWhile κ τ) := by
  intro σ H δ S w sl F G hn hr hbk hct h
  obtain ⟨n, h⟩ := h
  refine ⟨fun m σ' H' => ∃ δ' S', Go K S H S' H' ∧ SlOk K H' σ' δ' ∧ dWh κ τ F m δ' S', ⟨n, δ, S, Go.refl w, sl, h⟩, ?_⟩
  rintro m σ' H' ⟨δ', S', g', sl', q'⟩
  cases m with
  | zero => exact False.elim q'
  | succ m =>
    refine hc σ' H' δ' S' g'.wd sl' _ _ (fun b H2 S2 g2 q2 => ?_) q'
    cases b with
    | true =>
      rw [if_pos rfl] at q2 ⊢
      refine ⟨fun σ3 H3 => ∃ δ3 S3, Go K S H S3 H3 ∧ SlOk K H3 σ3 δ3 ∧ dWh κ τ F m δ3 S3, fun σ3 H3 q3 => ⟨m, Nat.lt_succ_self m, q3⟩, ?_⟩
      have gg := g'.trans g2
      refine hb σ' H2 δ' S2 g2.wd (sl'.im (g2.im g'.wd)) _ _ (fun σ4 H4 δ4 S4 g4 sl4 q4 => ?_) (fun v H4 d S4 g4 r4 q4 => ?_) (fun σ4 H4 δ4 S4 g4 sl4 q4 => ?_) (fun σ4 H4 δ4 S4 g4 sl4 q4 => ?_) q2
      · exact ⟨δ4, S4, gg.trans g4, sl4, q4⟩
      · exact hr v H4 d S4 (gg.trans g4) r4 q4
      · exact hn σ4 H4 δ4 S4 (gg.trans g4) sl4 q4
      · exact ⟨δ4, S4, gg.trans g4, sl4, q4⟩
    | false =>
      rw [if_neg Bool.false_ne_true] at q2 ⊢
      exact hn σ' H2 δ' S2 (g'.trans g2) (sl'.im (g2.im g'.wd)) q2
end

/-! ### comprehensions -/
def dWipe (δ : Sl) : List Nat → Sl
  | [] => δ
  | v :: vs => (dWipe δ vs).set v none
theorem SlOk.wiped {K : PySem.W.Frag} {H : Hp} {σ : L2.St} {δ : Sl} (h : SlOk K H σ δ) : ∀ vs : List Nat, SlOk K H (wipe σ vs) (dWipe δ vs)
  | [] => h
  | v :: vs => by
    have ih := SlOk.wiped h vs
    refine ⟨by unfold wipe dWipe; rw [List.length_set, List.length_set]; exact ih.1, fun i d e => ?_⟩
    unfold dWipe at e
    unfold wipe
    by_cases z : v = i
    · subst z
      rw [List.getElem?_set_self'] at e
      cases hq : (dWipe δ vs)[v]? with
      | none => rw [hq] at e; cases e
      | some x => rw [hq] at e; cases e
    · rw [List.getElem?_set_ne z] at e ⊢
      exact ih.2 i d e
/-- the turns of a comprehension: what is made so far, what is left -/
def dComp (γ : GD) (κ : TD) (τ : ED) (δ : Sl) (ck : Sh → Prop) (Q : List D → Sh → Prop) : List D → List D → Sh → Prop
  | [], acc, S => Q acc S
  | x :: xs, acc, S => γ x δ S fun δ1 S1 => κ δ1 S1 fun b S2 => if b = true then τ δ1 S2 fun d S3 => acc.length < sizeLine ∧ ck S3 ∧ dComp γ κ τ δ ck Q xs (acc ++ [d]) S3 else ck S2 ∧ dComp γ κ τ δ ck Q xs acc S2
def dLc (ι : ID) (γ : GD) (κ : TD) (τ : ED) (vs : List Nat) : AD := fun δ S Q => ι δ S fun xs ck S1 => dComp γ κ τ (dWipe δ vs) ck Q xs [] S1
/-- a comprehension's target: it stores in own places alone -/
def SimGw (K : PySem.W.Frag) (vs : List Nat) (t : TG) (τ : GD) : Prop := ∀ σ H δ S v d, Wd K H S → SlOk K H (wipe σ vs) δ → Rep K H d v → ∀ (Q : Sl → Sh → Prop) (R : L2.St → Hp → Prop), (∀ σ' H' δ' S', wipe σ' vs = wipe σ vs → Go K S H S' H' → SlOk K H' σ' δ' → Q δ' S' → R σ' H') → τ d δ S Q → t v (wipe σ vs) H R
theorem sim_lc {K : PySem.W.Frag} {wi : TI} {g : TG} {tt : TT} {te : TE} {ι : ID} {γ : GD} {κ : TD} {τ : ED} {vs : List Nat} (hi : SimI K wi ι) (hg : SimGw K vs g γ) (ht : SimT K tt κ) (he : SimE K te τ) : SimN K (tLc wi g tt te vs) (dLc ι γ κ τ vs) := by
  intro σ H δ S w sl Q R k h
  refine hi σ H δ S w sl _ _ (fun J H1 S1 xs ck g1 hJ hck q => ?_) h
  intro p hp
  have hS1 : S1 p = none := g1.wd.free hp
  refine ⟨fun i m H' => ∃ S' acc vacc, Go K S1 H1 S' H' ∧ ck S' ∧ i ≤ xs.length ∧ m = xs.length - i ∧ H' p = some (.lst vacc) ∧ S' p = none ∧ Reps K H' acc vacc ∧ dComp γ κ τ (dWipe δ vs) ck Q (xs.drop i) acc S', ⟨xs.length, S1, [], [], Go.new g1.wd hp, hck, Nat.zero_le _, rfl, upd_same, hS1, rfl, by simpa using q⟩, ?_⟩
  rintro i m H' ⟨S', acc, vacc, g', ck', hi', rfl, hp', hs', ra, q'⟩
  have slw : SlOk K H' (wipe σ vs) (dWipe δ vs) := (((sl.im (g1.im w)).im (g'.im g1.wd)).wiped vs)
  obtain ⟨j1, j2⟩ := hJ S' H' (g'.kp g1.wd) ck' i
  by_cases hlt : i < xs.length
  · obtain ⟨go, yl⟩ := j1 xs[i] (by simp [hlt])
    rw [drop_cons hlt] at q'
    refine .inr ⟨go, fun H2 => ∃ S2 acc2 vacc2, Go K S1 H1 S2 H2 ∧ ck S2 ∧ H2 p = some (.lst vacc2) ∧ S2 p = none ∧ Reps K H2 acc2 vacc2 ∧ dComp γ κ τ (dWipe δ vs) ck Q (xs.drop (i + 1)) acc2 S2, fun H2 ⟨S2, acc2, vacc2, g2, ck2, a2, b2, c2, q2⟩ => ⟨xs.length - (i + 1), by omega, S2, acc2, vacc2, g2, ck2, hlt, rfl, a2, b2, c2, q2⟩, fun x H2 y => ?_⟩
    obtain ⟨g2, rx⟩ := yl x H2 y
    refine hg σ H2 _ S' x xs[i] g2.wd (slw.im (g2.im g'.wd)) rx _ _ (fun σ3 H3 δ3 S3 hw g3 sl3 q3 => ⟨hw, ?_⟩) q'
    refine ht σ3 H3 δ3 S3 g3.wd sl3 _ _ (fun b H4 S4 g4 q4 => ?_) q3
    have g24 : Go K S' H' S4 H4 := (g2.trans g3).trans g4
    cases b with
    | true =>
      rw [if_pos rfl] at q4 ⊢
      refine he σ3 H4 δ3 S4 g4.wd (sl3.im (g4.im g3.wd)) _ _ (fun v H5 d S5 g5 r5 q5 => ?_) q4
      have g25 := g24.trans g5
      have hp5 : H5 p = some (.lst vacc) := g25.ext p _ hp' hs'
      have hs5 : S5 p = none := g25.out p _ hp' hs'
      have ra5 := ra.im (g25.im g'.wd)
      refine ⟨vacc, hp5, by rw [← ra.length]; exact q5.1, S5, acc ++ [d], vacc ++ [v], ?_, q5.2.1, upd_same, hs5, ?_, q5.2.2⟩
      · have g15 := g'.trans g25
        refine ⟨fun a o h1 h2 => ?_, g15.out, fun a o h1 => ?_, fun a h1 => g15.th a (upd_none h1)⟩
        · rw [upd_ne (ne_of_none h1 hp)]
          exact g15.ext a o h1 h2
        · have na : a ≠ p := fun z => by rw [z, hs5] at h1; cases h1
          obtain ⟨ho, e1, r1⟩ := g15.wd a o h1
          refine ⟨ho, by rw [upd_ne na]; exact e1, r1.im ?_⟩
          exact ⟨fun b ys r => by
            rcases r with (r | ⟨o, r⟩) | r
            · exact .inl (.inl (by rw [upd_ne (ne_of r hp5 (by intro z; cases z))]; exact r))
            · exact .inl (.inr ⟨o, by rw [upd_ne (ne_of r hp5 (by intro z; cases z))]; exact r⟩)
            · exact .inr r, fun b ys r => by
            rcases r with ⟨o, r⟩ | r
            · exact .inl ⟨o, by rw [upd_ne (ne_of r hp5 (by intro z; cases z))]; exact r⟩
            · exact .inr r, fun b _ _ _ r => by rw [upd_ne (ne_of r hp5 (by intro z; unfold SetM at z; cases z))]; exact r⟩
      · have im5 : Im K H5 (upd H5 p (.lst (vacc ++ [v]))) := ⟨fun b ys r => by
            rcases r with (r | ⟨o, r⟩) | r
            · exact .inl (.inl (by rw [upd_ne (ne_of r hp5 (by intro z; cases z))]; exact r))
            · exact .inl (.inr ⟨o, by rw [upd_ne (ne_of r hp5 (by intro z; cases z))]; exact r⟩)
            · exact .inr r, fun b ys r => by
            rcases r with ⟨o, r⟩ | r
            · exact .inl ⟨o, by rw [upd_ne (ne_of r hp5 (by intro z; cases z))]; exact r⟩
            · exact .inr r, fun b _ _ _ r => by rw [upd_ne (ne_of r hp5 (by intro z; unfold SetM at z; cases z))]; exact r⟩
        exact (ra5.append (Reps.one r5)).im im5
    | false =>
      rw [if_neg Bool.false_ne_true] at q4 ⊢
      exact ⟨S4, acc, vacc, g'.trans g24, q4.1, g24.ext p _ hp' hs', g24.out p _ hp' hs', ra.im (g24.im g'.wd), q4.2⟩
  · have e : xs.drop i = [] := List.drop_eq_nil_of_le (by omega)
    rw [e] at q'
    exact .inl ⟨j2 (by omega), k p H' vacc acc S' (g1.trans g') (g1.th p hp) hp' hs' ra q'⟩

/-! ### the rules -/
section
variable {X : Cx} {a b c e : Expr} {pos : Pos} {τ : ED} {ι : ID} {γ : GD} {κ : TD} {ξ : SD} {tg iter : Expr} {body : List Stmt}
theorem s_for (hi : I X tg iter ι) (hg : G X tg γ) (hb : B X body ξ) (hp : PassesOwn (model X.prog X.w) X.A X.env X.xe := by exact PassesOwn.never) (hc : X.calm = true := by rfl) (hs : ∀ x, foldedSetIterable iter X.env x = pure x := by intro _; rfl) :
    S1 X (.For tg iter body [] pos) (dFor ι γ ξ) := by
  obtain ⟨ti, i1, i2⟩ := hi
  obtain ⟨g', g1, g2⟩ := hg
  obtain ⟨tb, b1, b2⟩ := hb
  exact ⟨_, ps_for hp hc i1 g1 b1 hs, sim_for i2 g2 b2⟩
theorem s_while {c : Expr} (hc : T X c κ) (hb : B X body ξ) (hp : PassesOwn (model X.prog X.w) X.A X.env X.xe := by exact PassesOwn.never) : S1 X (.While c body [] pos) (dWhile κ ξ) := by
  obtain ⟨tc, c1, c2⟩ := hc
  obtain ⟨tb, b1, b2⟩ := hb
  exact ⟨_, ps_while hp c1 b1, sim_while c2 b2⟩
/-- a comprehension's target, by the model's rules in any block of it -/
def Gw (X : Cx) (scope : Scope) (vs : List Nat) (tg : Expr) (γ : GD) : Prop := ∃ g, (∀ (s : Shared) (H : Hp) (C : Addr) (cl : List (Str × Addr)) (fp : List Addr), PG (X.blk s H scope (compEnvC scope cl C X.env) fp) tg g) ∧ SimGw X.K vs g γ
def Tw (X : Cx) (scope : Scope) (ifs : List Expr) (κ : TD) : Prop := ∃ t, (∀ (s : Shared) (H : Hp) (C : Addr) (cl : List (Str × Addr)) (fp : List Addr), PTs (X.blk s H scope (compEnvC scope cl C X.env) fp) ifs t) ∧ SimT X.K t κ
theorem wipe_set_own {σ : L2.St} {x : V} : ∀ {vs : List Nat} {i : Nat}, i ∈ vs → wipe ((wipe σ vs).set i (some x)) vs = wipe σ vs := by
  have key : ∀ (vs : List Nat) (τ : L2.St) (j : Nat), (wipe τ vs)[j]? = if j ∈ vs then (if j < τ.length then some none else none) else τ[j]? := by
    intro vs
    induction vs with
    | nil => intro τ j; simp [wipe]
    | cons v vs ih =>
      intro τ j
      unfold wipe
      by_cases h : v = j
      · subst h
        rw [List.getElem?_set_self', ih]
        by_cases h2 : v ∈ vs
        · simp [h2]
        · simp [h2]
          by_cases h3 : v < τ.length
          · simp [h3]
          · simp [h3]
      · rw [List.getElem?_set_ne h, ih]
        have : j ≠ v := fun z => h z.symm
        simp [this]
  intro vs i hi
  apply List.ext_getElem?
  intro j
  rw [key, key]
  by_cases h : j ∈ vs
  · simp only [h, if_true, List.length_set, wipe_length]
  · simp only [h, if_false]
    have : i ≠ j := fun z => h (z ▸ hi)
    rw [List.getElem?_set_ne this, key]
    simp [h]
theorem gw_name (i : Nat) {x : Str} {scope : Scope} {vs : List Nat} (hN : X.N.Nodup) (hi : X.N[i]? = some x := by rfl) (hm : i ∈ vs := by decide)
    (hx : ∀ (s : Shared) (H : Hp) (C : Addr) (cl : List (Str × Addr)) (fp : List Addr), Loc (X.blk s H scope (compEnvC scope cl C X.env) fp).env.scope x := by intro _ _ _ _ _; first | exact Or.inl rfl | exact Or.inr rfl) 
    (hf : ∀ (s : Shared) (H : Hp) (C : Addr) (cl : List (Str × Addr)) (fp : List Addr), (X.blk s H scope (compEnvC scope cl C X.env) fp).fn x = true ∨ (X.blk s H scope (compEnvC scope cl C X.env) fp).env.scope.names.lookup x = some .local := by intro _ _ _ _ _; first | exact .inr rfl | exact .inl rfl) : Gw X scope vs (.Name x pos) (dName i) :=
  ⟨gName i, fun s H C cl fp => pg_name hN hi (hx s H C cl fp) (hf s H C cl fp), fun σ H δ S v d w sl r Q R k h => k _ H _ S (wipe_set_own hm) (Go.refl w) (sl.set i r) h⟩
def dYes : TD := fun _ S Q => Q true S
theorem tw_nil {scope : Scope} : Tw X scope [] dYes := ⟨tYes, fun _ _ _ _ _ => pts_nil, fun σ H δ S w sl Q R k h => k true H S (Go.refl w) h⟩
theorem tw_one {scope : Scope} {c : Expr} (h : ∀ (s : Shared) (H : Hp) (C : Addr) (cl : List (Str × Addr)) (fp : List Addr), T (X.blk s H scope (compEnvC scope cl C X.env) fp) c κ) : Tw X scope [c] κ :=
  ⟨canT X.K κ, fun s H C cl fp => pts_one (h s H C cl fp).can, sim_canT⟩
theorem n_lc {elt : Expr} {ifs : List Expr} {scope : Scope} {own : List (Str × Nat)} (hN : X.N.Nodup) (hi : I X tg iter ι) (ok : blkC X.N X.env.scope scope own = true)
    (hg : Gw X scope (own.map (·.2)) tg γ) (ht : Tw X scope ifs κ) (he : ∀ (s : Shared) (H : Hp) (C : Addr) (cl : List (Str × Addr)) (fp : List Addr), E (X.blk s H scope (compEnvC scope cl C X.env) fp) elt τ)
    (hc : X.calm = true := by rfl) (hs : ∀ x, foldedSetIterable iter X.env x = pure x := by intro _; rfl) : N X (.ListComp elt [⟨tg, iter, ifs, 0⟩] scope pos) (dLc ι γ κ τ (own.map (·.2))) := by
  obtain ⟨ti, i1, i2⟩ := hi
  obtain ⟨g, g1, g2⟩ := hg
  obtain ⟨t, t1, t2⟩ := ht
  exact ⟨_, pe_lc hc hN i1 (blkOk_by ok) g1 t1 (fun s H C cl fp => (he s H C cl fp).can) hs, sim_lc i2 g2 t2 sim_can⟩
end
end DL

set_option Elab.async false
set_option linter.all false
set_option maxRecDepth 100000
namespace DL
open PySem PySem.Spec L2
section
variable {X : Cx} {a b c e o : Expr} {es : List Expr} {pos p2 : Pos} {τ τa τb τc : ED} {α ν ν' : AD} {ι : ID} {γ : GD} {κ : TD} {ξ : SD} {tg iter : Expr}

/-! ### is of bools, with anything on the left -/
def dIsB : R2D := fun x y S Q => match y with | .bl b => Q (.bl (match x with | .bl a => decide (a = b) | _ => false)) S | _ => False
def dNotB : R2D := fun x y S Q => match y with | .bl b => Q (.bl (match x with | .bl a => !decide (a = b) | _ => true)) S | _ => False
def rIsBV : R2 := fun x y H Q => ∃ b : Bool, y = .bl b ∧ Q (.bl (match x with | .bl a => decide (a = b) | _ => false)) H
def rNotBV : R2 := fun x y H Q => ∃ b : Bool, y = .bl b ∧ Q (.bl (match x with | .bl a => !decide (a = b) | _ => true)) H
theorem plain_bool (v : Value) (b : Bool) (x : V) (r : RelV x v) : plainIs v (.bool b) = true := by
  cases x <;> first | (obtain rfl := r; rfl) | (obtain ⟨t, rfl⟩ := r; rfl)
theorem op_isBV : OpR X (compareOp .Is) rIsBV := by
  intro pins s σ H x y v u Q I rx ry h
  obtain ⟨b, rfl, q⟩ := h
  cases (show u = Value.bool b from ry)
  refine wpAny_is_plain (plain_bool v b x rx) ⟨_, H, I, ?_, q⟩
  cases x <;> first | (obtain rfl := rx; rfl) | (obtain ⟨t, rfl⟩ := rx; rfl) | skip
  rename_i c
  obtain rfl := rx
  show Value.bool _ = Value.bool _
  congr 1
  cases c <;> cases b <;> rfl
theorem op_notBV : OpR X (compareOp .IsNot) rNotBV := by
  intro pins s σ H x y v u Q I rx ry h
  obtain ⟨b, rfl, q⟩ := h
  cases (show u = Value.bool b from ry)
  refine wpAny_isNot_plain (plain_bool v b x rx) ⟨_, H, I, ?_, q⟩
  cases x <;> first | (obtain rfl := rx; rfl) | (obtain ⟨t, rfl⟩ := rx; rfl) | skip
  rename_i c
  obtain rfl := rx
  show Value.bool _ = Value.bool _
  congr 1
  cases c <;> cases b <;> rfl
theorem o_isB : O X (compareOp .Is) dIsB := by
  refine ⟨_, op_isBV, fun H S x y dx dy w rx ry Q R k q => ?_⟩
  cases dy <;> first | exact False.elim q | skip
  obtain rfl := ry
  refine ⟨_, rfl, k _ H _ S (Go.refl w) ?_ q⟩
  cases dx <;> first | (obtain rfl := rx; rfl) | (obtain ⟨_, _, rfl, _⟩ := rx; rfl)
theorem o_notB : O X (compareOp .IsNot) dNotB := by
  refine ⟨_, op_notBV, fun H S x y dx dy w rx ry Q R k q => ?_⟩
  cases dy <;> first | exact False.elim q | skip
  obtain rfl := ry
  refine ⟨_, rfl, k _ H _ S (Go.refl w) ?_ q⟩
  cases dx <;> first | (obtain rfl := rx; rfl) | (obtain ⟨_, _, rfl, _⟩ := rx; rfl)

/-! ### subscripts -/
/-- what is to be subscripted at S -/
def dAt (x : D) (i : Int) (S : Sh) (Q : QD) : Prop := match x with
  | .tup ds => (match atI ds i with | some d => Q d S | none => False)
  | .frz ds => (match atI ds i with | some d => Q d S | none => False)
  | .str s => s.length ≤ sizeLine ∧ (match atI s i with | some c => Q (.str [c]) S | none => False)
  | .rf p => (match S p with | some (.lst ds) => (match atI ds i with | some d => Q d S | none => False) | _ => False)
  | _ => False
def dIx : R2D := fun x y S Q => match y with | .int i => dAt x i S Q | _ => False
theorem atI_rep {K : PySem.W.Frag} {H : Hp} {ds : List D} {vs : List V} {i : Int} {d : D} (r : Reps K H ds vs) (h : atI ds i = some d) : ∃ v, atI vs i = some v ∧ Rep K H d v := by
  unfold atI at h ⊢
  rw [r.length] at h
  cases e : ixN vs.length i with
  | none => rw [e] at h; cases h
  | some j =>
    rw [e] at h
    exact r.get (i := j) h
theorem e_ix (ha : E X a τa) (hb : E X b τb) (hs : PlainIx b := by exact fun _ _ => rfl) : E X (.Subscript a b pos) (dOp dIx τa τb) := by
  obtain ⟨ta, a1, a2⟩ := ha
  obtain ⟨tb, b1, b2⟩ := hb
  refine ⟨_, pe_ix ix_seq a1 b1 hs, sim_op (fun H S x y dx dy w rx ry Q R k q => ?_) a2 b2⟩
  cases dy <;> first | exact False.elim q | skip
  rename_i i
  obtain rfl := ry
  cases dx <;> first | exact False.elim q | skip
  · rename_i s
    obtain rfl := rx
    obtain ⟨q0, q⟩ := q
    refine .inr (.inr ?_)
    cases e : atI s i with
    | none => rw [e] at q; exact q.elim
    | some c =>
      rw [e] at q
      exact ⟨_, i, c, rfl, rfl, by rw [str_len]; exact q0, by simpa using e, k _ H (.str [c]) S (Go.refl w) rfl q⟩
  · rename_i ds
    obtain ⟨p, vs, rfl, hp, rs⟩ := rx
    unfold dIx dAt at q
    simp only at q
    cases e : atI ds i with
    | none => rw [e] at q; exact q.elim
    | some d =>
      rw [e] at q
      obtain ⟨v, e1, r1⟩ := atI_rep rs e
      exact .inr (.inl ⟨p, vs, i, v, rfl, rfl, hp, e1, k v H d S (Go.refl w) r1 q⟩)
  · rename_i ds
    obtain ⟨p, vs, rfl, hp, rs⟩ := rx
    unfold dIx dAt at q
    simp only at q
    cases e : atI ds i with
    | none => rw [e] at q; exact q.elim
    | some d =>
      rw [e] at q
      obtain ⟨v, e1, r1⟩ := atI_rep rs e
      exact .inl ⟨p, vs, i, v, rfl, rfl, hp.l, e1, k v H d S (Go.refl w) r1 q⟩
  · rename_i p
    obtain rfl := rx
    unfold dIx dAt at q
    simp only at q
    split at q
    · rename_i ds es
      cases e : atI ds i with
      | none => rw [e] at q; exact q.elim
      | some d =>
        rw [e] at q
        obtain ⟨ho, e0, vs, rfl, rs⟩ := w _ _ es
        obtain ⟨v, e1, r1⟩ := atI_rep rs e
        exact .inl ⟨p, vs, i, v, rfl, rfl, SqL.of e0, e1, k v H d S (Go.refl w) r1 q⟩
    · exact q.elim
/-- an item of a list on the spot -/
def dIxL (l : AD) (i : ED) : ED := fun δ S Q => l δ S fun ds S1 => i δ S1 fun y S2 => match y with | .int i => (match atI ds i with | some d => Q d S2 | none => False) | _ => False
theorem e_ixN (ha : N X a ν) (hb : E X b τb) (hs : PlainIx b := by exact fun _ _ => rfl) : E X (.Subscript a b pos) (dIxL ν τb) := by
  obtain ⟨ta, a1, a2⟩ := ha
  obtain ⟨tb, b1, b2⟩ := hb
  refine ⟨_, pe_ix ix_list a1 b1 hs, fun σ H δ S w sl Q R k h => ?_⟩
  refine a2 σ H δ S w sl _ _ (fun p H1 vs ds S1 g1 h0 hp hs1 rs q => ?_) h
  refine b2 σ H1 δ S1 g1.wd (sl.im (g1.im w)) _ _ (fun y H2 dy S2 g2 ry q2 => ?_) q
  cases dy <;> first | exact False.elim q2 | skip
  rename_i i
  obtain rfl := ry
  simp only at q2
  cases e : atI ds i with
  | none => rw [e] at q2; exact q2.elim
  | some d =>
    rw [e] at q2
    have rs2 := rs.im (g2.im g1.wd)
    obtain ⟨v, e1, r1⟩ := atI_rep rs2 e
    exact ⟨p, vs, i, v, rfl, rfl, SqL.of (g2.ext p _ hp hs1), e1, k v H2 d S2 (g1.trans g2) r1 q2⟩
/-! ### slices -/
def cutD {β : Type} (xs : List β) (lo hi : Option Int) : List β := (xs.drop (HT.sIx xs.length 0 lo)).take (HT.sIx xs.length xs.length hi - HT.sIx xs.length 0 lo)
abbrev OD := Sl → Sh → (Option Int → Sh → Prop) → Prop
def SimO (K : PySem.W.Frag) (t : TO) (τ : OD) : Prop := ∀ σ H δ S, Wd K H S → SlOk K H σ δ → ∀ (Q : Option Int → Sh → Prop) (R : Option Int → Hp → Prop), (∀ o H' S', Go K S H S' H' → Q o S' → R o H') → τ δ S Q → t σ H R
def Po (X : Cx) (e : Option Expr) (τ : OD) : Prop := ∃ t, PO X e t ∧ SimO X.K t τ
def dNoP : OD := fun _ S Q => Q none S
def dPart (a : ED) : OD := fun δ S Q => a δ S fun x S1 => match x with | .int i => Q (some i) S1 | _ => False
theorem p_none : Po X none dNoP := ⟨_, po_none, fun σ H δ S w sl Q R k h => k none H S (Go.refl w) h⟩
theorem p_some (h : E X e τ) : Po X (some e) (dPart τ) := by
  obtain ⟨t, a1, a2⟩ := h
  refine ⟨_, po_some a1, fun σ H δ S w sl Q R k h => a2 σ H δ S w sl _ _ (fun v H' d S' g r q => ?_) h⟩
  cases d <;> first | exact False.elim q | skip
  exact ⟨_, r, k _ H' S' g q⟩
def dCut (x : D) (l u : Option Int) (S : Sh) (Q : QD) : Prop := match x with
  | .tup ds => Q (.tup (cutD ds l u)) S
  | .str s => s.length ≤ sizeLine ∧ Q (.str (cutD s l u)) S
  | _ => False
def dSlice (a : ED) (l u : OD) : ED := fun δ S Q => a δ S fun x S1 => l δ S1 fun l S2 => u δ S2 fun u S3 => dCut x l u S3 Q
theorem cutV_rep {K : PySem.W.Frag} {H : Hp} {ds : List D} {vs : List V} (r : Reps K H ds vs) (l u : Option Int) : Reps K H (cutD ds l u) (cutV vs l u) := by
  unfold cutD cutV
  rw [r.length]
  exact (r.drop _).take _
variable {lo hi : Option Expr} {ol oh : OD}
theorem e_slice (he : E X e τ) (hl : Po X lo ol) (hu : Po X hi oh) : E X (.Subscript e (.Slice lo hi none p2) pos) (dSlice τ ol oh) := by
  obtain ⟨t, a1, a2⟩ := he
  obtain ⟨tl, l1, l2⟩ := hl
  obtain ⟨tu, u1, u2⟩ := hu
  refine ⟨_, pe_slice (sl_tupA.or sl_str) a1 l1 u1, fun σ H δ S w sl Q R k h => ?_⟩
  refine a2 σ H δ S w sl _ _ (fun v H1 d S1 g1 r1 q => ?_) h
  have sl1 := sl.im (g1.im w)
  refine l2 σ H1 δ S1 g1.wd sl1 _ _ (fun l H2 S2 g2 q => ?_) q
  refine u2 σ H2 δ S2 g2.wd (sl1.im (g2.im g1.wd)) _ _ (fun u H3 S3 g3 q => ?_) q
  have g13 := (g1.trans g2).trans g3
  have r3 : Rep X.K H3 d v := (r1.im (g2.im g1.wd)).im (g3.im g2.wd)
  cases d with
  | str s =>
    obtain rfl := r3
    obtain ⟨q0, q⟩ := q
    refine .inr ⟨_, rfl, by rw [str_len]; exact q0, ?_⟩
    have e : cutS ⟨s.toArray⟩ l u = ⟨(cutD s l u).toArray⟩ := by unfold cutS cutD; rw [str_len]
    rw [e]
    exact k _ H3 (.str (cutD s l u)) S3 g13 rfl q
  | tup ds =>
    obtain ⟨p, vs, rfl, hp, rs⟩ := r3
    refine .inl ⟨p, vs, rfl, hp, fun z => ?_, fun z q' hq => ?_⟩
    · have e : cutD ds l u = ds := by
        unfold cutD
        rw [rs.length, z.1, z.2]
        simp [← rs.length]
      have q : Q (.tup (cutD ds l u)) S3 := q
      rw [e] at q
      exact k _ H3 (.tup ds) S3 g13 ⟨p, vs, rfl, hp, rs⟩ q
    · have g := Go.new (u := .tup (cutV vs l u)) g13.wd hq
      exact k _ _ (.tup (cutD ds l u)) S3 (g13.trans g) ⟨q', _, rfl, SqT.of upd_same, (cutV_rep rs l u).im (g.im g13.wd)⟩ q
  | _ => exact False.elim q
def dSliceL (a : AD) (l u : OD) : AD := fun δ S Q => a δ S fun ds S1 => l δ S1 fun l S2 => u δ S2 fun u S3 => Q (cutD ds l u) S3
/-- a slice of a list at a name: a new list -/
def dSliceE (a : ED) (l u : OD) : AD := fun δ S Q => a δ S fun x S1 => l δ S1 fun l S2 => u δ S2 fun u S3 => match x with
  | .rf p => (match S3 p with | some (.lst ds) => Q (cutD ds l u) S3 | _ => False)
  | .frz ds => Q (cutD ds l u) S3
  | _ => False
theorem n_slice (he : E X e τ) (hl : Po X lo ol) (hu : Po X hi oh) : N X (.Subscript e (.Slice lo hi none p2) pos) (dSliceE τ ol oh) := by
  obtain ⟨t, a1, a2⟩ := he
  obtain ⟨tl, l1, l2⟩ := hl
  obtain ⟨tu, u1, u2⟩ := hu
  refine ⟨_, pe_slice sl_list a1 l1 u1, fun σ H δ S w sl Q R k h => ?_⟩
  refine a2 σ H δ S w sl _ _ (fun v H1 d S1 g1 r1 q => ?_) h
  have sl1 := sl.im (g1.im w)
  refine l2 σ H1 δ S1 g1.wd sl1 _ _ (fun l H2 S2 g2 q => ?_) q
  refine u2 σ H2 δ S2 g2.wd (sl1.im (g2.im g1.wd)) _ _ (fun u H3 S3 g3 q => ?_) q
  have g13 := (g1.trans g2).trans g3
  have r3 : Rep X.K H3 d v := (r1.im (g2.im g1.wd)).im (g3.im g2.wd)
  have fin : ∀ {p : Addr} {ds : List D} {vs : List V}, SqL X.K H3 p vs → Reps X.K H3 ds vs → Q (cutD ds l u) S3 → rSlL X.K (.ref p) l u H3 R := fun {p ds vs} hp rs q =>
    ⟨p, vs, rfl, hp, fun q' hq => by
      have g := Go.new (u := .lst (cutV vs l u)) g13.wd hq
      exact k q' _ _ (cutD ds l u) S3 (g13.trans g) (g13.th _ hq) upd_same (g13.wd.free hq) ((cutV_rep rs l u).im (g.im g13.wd)) q⟩
  cases d <;> first | exact False.elim q | skip
  · obtain ⟨p, vs, rfl, hp, rs⟩ := r3
    exact fin hp.l rs q
  · rename_i p
    obtain rfl := r3
    simp only at q
    split at q
    · rename_i ds es
      obtain ⟨ho, e0, vs, rfl, rs⟩ := g13.wd _ _ es
      exact fin (SqL.of e0) rs q
    · exact q.elim
/-! ### a chain of two comparisons -/
def dChain (ρ ρ' : R2D) (a b c : ED) : ED := fun δ S Q => a δ S fun x S1 => b δ S1 fun y S2 => ρ x y S2 fun z S3 => match z with | .bl k => (if k = true then c δ S3 fun w S4 => ρ' y w S4 Q else Q (.bl false) S3) | _ => False
theorem e_chain {op op' : CmpOp} {ρ ρ' : R2D} (ho : O X (compareOp op) ρ) (ho' : O X (compareOp op') ρ') (ha : E X a τa) (hb : E X b τb) (hc : E X c τc)
    (hm : lastMarks [op, op'] [b, c] = false := by with_unfolding_all rfl) : E X (.Compare a [op, op'] [b, c] pos) (dChain ρ ρ' τa τb τc) := by
  obtain ⟨r, h1, h2⟩ := ho
  obtain ⟨r', h1', h2'⟩ := ho'
  obtain ⟨ta, a1, a2⟩ := ha
  obtain ⟨tb, b1, b2⟩ := hb
  obtain ⟨tc, c1, c2⟩ := hc
  refine ⟨_, pe_chain h1 h1' a1 b1 c1 hm, fun σ H δ S w sl Q R k h => ?_⟩
  refine a2 σ H δ S w sl _ _ (fun x H1 dx S1 g1 rx q => ?_) h
  have sl1 := sl.im (g1.im w)
  refine b2 σ H1 δ S1 g1.wd sl1 _ _ (fun y H2 dy S2 g2 ry q => ?_) q
  have sl2 := sl1.im (g2.im g1.wd)
  refine h2 H2 S2 x y dx dy g2.wd (rx.im (g2.im g1.wd)) ry _ _ (fun z H3 dz S3 g3 rz q => ?_) q
  have g13 := (g1.trans g2).trans g3
  cases dz <;> first | exact False.elim q | skip
  rename_i kk
  refine ⟨kk, rz, ?_⟩
  cases kk with
  | true =>
    refine c2 σ H3 δ S3 g3.wd (sl2.im (g3.im g2.wd)) _ _ (fun w' H4 dw S4 g4 rw q => ?_) q
    exact h2' H4 S4 y w' dy dw g4.wd ((ry.im (g3.im g2.wd)).im (g4.im g3.wd)) rw Q R (fun v H5 d S5 g5 r5 q5 => k v H5 d S5 ((g13.trans g4).trans g5) r5 q5) q
  | false => exact k _ H3 (.bl false) S3 g13 rfl q
theorem t_val (he : E X e τ) (hs : ∀ whole, isTrue e X.env whole = (do let v ← whole; standAt e.pos; holding [v] (truthy v)) := by intro _; rfl) : T X e (dTB τ) := by
  obtain ⟨t, a1, a2⟩ := he
  refine ⟨_, pt_val a1 hs, fun σ H δ S w sl Q R k h => a2 σ H δ S w sl _ _ (fun v H' d S' g r q => ?_) h⟩
  cases d <;> first | exact False.elim q | skip
  exact ⟨_, r, k _ H' S' g q⟩
theorem t_chain {op op' : CmpOp} {ρ ρ' : R2D} (ho : O X (compareOp op) ρ) (ho' : O X (compareOp op') ρ') (ha : E X a τa) (hb : E X b τb) (hc : E X c τc)
    (hm : lastMarks [op, op'] [b, c] = false := by with_unfolding_all rfl) : T X (.Compare a [op, op'] [b, c] pos) (dTB (dChain ρ ρ' τa τb τc)) := by
  obtain ⟨r, h1, h2⟩ := ho
  obtain ⟨r', h1', h2'⟩ := ho'
  obtain ⟨ta, a1, a2⟩ := ha
  obtain ⟨tb, b1, b2⟩ := hb
  obtain ⟨tc, c1, c2⟩ := hc
  refine ⟨_, pt_chain h1 h1' a1 b1 c1 hm, fun σ H δ S w sl Q R k h => ?_⟩
  refine a2 σ H δ S w sl _ _ (fun x H1 dx S1 g1 rx q => ?_) h
  have sl1 := sl.im (g1.im w)
  refine b2 σ H1 δ S1 g1.wd sl1 _ _ (fun y H2 dy S2 g2 ry q => ?_) q
  have sl2 := sl1.im (g2.im g1.wd)
  refine h2 H2 S2 x y dx dy g2.wd (rx.im (g2.im g1.wd)) ry _ _ (fun z H3 dz S3 g3 rz q => ?_) q
  have g13 := (g1.trans g2).trans g3
  cases dz <;> first | exact False.elim q | skip
  rename_i kk
  refine ⟨kk, rz, ?_⟩
  cases kk with
  | true =>
    refine c2 σ H3 δ S3 g3.wd (sl2.im (g3.im g2.wd)) _ _ (fun w' H4 dw S4 g4 rw q => ?_) q
    refine h2' H4 S4 y w' dy dw g4.wd ((ry.im (g3.im g2.wd)).im (g4.im g3.wd)) rw _ _ (fun v H5 d S5 g5 r5 q5 => ?_) q
    cases d <;> first | exact False.elim q5 | skip
    exact ⟨_, r5, k _ H5 S5 ((g13.trans g4).trans g5) q5⟩
  | false => exact ⟨_, rfl, k _ H3 S3 g13 q⟩
end
end DL

set_option Elab.async false
set_option linter.all false
set_option maxRecDepth 100000
namespace DL
open PySem PySem.Spec L2
section
variable {X : Cx} {a b c e o : Expr} {es : List Expr} {pos p2 p q apos cpos : Pos} {τ τa τb τc : ED} {α ν ν' : AD} {ι : ID} {γ : GD} {κ : TD} {ξ : SD} {tg iter : Expr} {x : Str}

/-! ### calls of built-ins with a list -/
def SimCL (K : PySem.W.Frag) (r : List V → Hp → VK → Prop) (ρ : CD) : Prop := ∀ H S a vs ds, Wd K H S → SqL K H a vs → Reps K H ds vs → ∀ (Q : QD) (R : VK), (∀ v H' d S', Go K S H S' H' → Rep K H' d v → Q d S' → R v H') → ρ ds S Q → r [.ref a] H R
abbrev ND := List D → Sh → (List D → Sh → Prop) → Prop
def SimCN (K : PySem.W.Frag) (r : List V → Hp → VK → Prop) (ρ : ND) : Prop := ∀ H S a vs ds, Wd K H S → SqL K H a vs → Reps K H ds vs → ∀ (Q : List D → Sh → Prop) (R : VK), (∀ b H' us es S', Go K S H S' H' → H b = none → H' b = some (.lst us) → S' b = none → Reps K H' es us → Q es S' → R (.ref b) H') → ρ ds S Q → r [.ref a] H R
def CL (X : Cx) (f : Value) (ρ : CD) : Prop := ∃ r, CallR X f r ∧ SimCL X.K r ρ
def CN (X : Cx) (f : Value) (ρ : ND) : Prop := ∃ r, CallR X f r ∧ SimCN X.K r ρ
def dOnL (ρ : CD) (l : AD) : ED := fun δ S Q => l δ S fun ds S1 => ρ ds S1 Q
def dOnN (ρ : ND) (l : AD) : AD := fun δ S Q => l δ S fun ds S1 => ρ ds S1 Q
theorem e_callBL {id : String} {ρ : CD} (hc : CL X (.builtin id) ρ) (hm : X.mg x = none) (ha : L X e ν) (hg : Gl X x := by rfl) (hv : bootBuiltins x = some (.builtin id) := by decide +kernel) (hn : x ≠ "__name__" := by decide) (hdb : (x == ("__debug__" : Str)) = false := by decide)
    (he : starEach (e :: []) X.env = (false, eval e X.env) :: starEach [] X.env := by rfl) (hpl : (backTo pos (starEach [] X.env)).any (·.1) = false := by rfl) : E X (.Call (.Name x p) [e] [] pos) (dOnL ρ ν) := by
  obtain ⟨r, h1, h2⟩ := hc
  obtain ⟨ta, a1, a2⟩ := ha
  refine ⟨_, pe_callB h1 hg hm hv (pa_cons a1 pa_nil he) hn hdb he hpl, fun σ H δ S w sl Q R k h => ?_⟩
  exact a2 σ H δ S w sl _ _ (fun a H1 vs ds S1 g1 hs rs q => h2 H1 S1 a vs ds g1.wd hs rs Q R (fun v H2 d S2 g2 => k v H2 d S2 (g1.trans g2)) q) h
theorem e_callTyL {id : String} {ρ : CD} (hc : CL X (.type id) ρ) (hm : X.mg x = none) (ha : L X e ν) (hg : Gl X x := by rfl) (hv : bootBuiltins x = some (.type id) := by decide +kernel) (hn : x ≠ "__name__" := by decide) (hdb : (x == ("__debug__" : Str)) = false := by decide)
    (he : starEach (e :: []) X.env = (false, eval e X.env) :: starEach [] X.env := by rfl) (hpl : (backTo pos (starEach [] X.env)).any (·.1) = false := by rfl) : E X (.Call (.Name x p) [e] [] pos) (dOnL ρ ν) := by
  obtain ⟨r, h1, h2⟩ := hc
  obtain ⟨ta, a1, a2⟩ := ha
  refine ⟨_, pe_callTy h1 hg hm hv (pa_cons a1 pa_nil he) hn hdb he hpl, fun σ H δ S w sl Q R k h => ?_⟩
  exact a2 σ H δ S w sl _ _ (fun a H1 vs ds S1 g1 hs rs q => h2 H1 S1 a vs ds g1.wd hs rs Q R (fun v H2 d S2 g2 => k v H2 d S2 (g1.trans g2)) q) h
theorem n_callBL {id : String} {ρ : ND} (hc : CN X (.builtin id) ρ) (hm : X.mg x = none) (ha : L X e ν) (hg : Gl X x := by rfl) (hv : bootBuiltins x = some (.builtin id) := by decide +kernel) (hn : x ≠ "__name__" := by decide) (hdb : (x == ("__debug__" : Str)) = false := by decide)
    (he : starEach (e :: []) X.env = (false, eval e X.env) :: starEach [] X.env := by rfl) (hpl : (backTo pos (starEach [] X.env)).any (·.1) = false := by rfl) : N X (.Call (.Name x p) [e] [] pos) (dOnN ρ ν) := by
  obtain ⟨r, h1, h2⟩ := hc
  obtain ⟨ta, a1, a2⟩ := ha
  refine ⟨_, pe_callB h1 hg hm hv (pa_cons a1 pa_nil he) hn hdb he hpl, fun σ H δ S w sl Q R k h => ?_⟩
  exact a2 σ H δ S w sl _ _ (fun a H1 vs ds S1 g1 hs rs q => h2 H1 S1 a vs ds g1.wd hs rs Q R (fun b H2 us es S2 g2 hb => k b H2 us es S2 (g1.trans g2) (g1.th b hb)) q) h
theorem n_callTyL {id : String} {ρ : ND} (hc : CN X (.type id) ρ) (hm : X.mg x = none) (ha : L X e ν) (hg : Gl X x := by rfl) (hv : bootBuiltins x = some (.type id) := by decide +kernel) (hn : x ≠ "__name__" := by decide) (hdb : (x == ("__debug__" : Str)) = false := by decide)
    (he : starEach (e :: []) X.env = (false, eval e X.env) :: starEach [] X.env := by rfl) (hpl : (backTo pos (starEach [] X.env)).any (·.1) = false := by rfl) : N X (.Call (.Name x p) [e] [] pos) (dOnN ρ ν) := by
  obtain ⟨r, h1, h2⟩ := hc
  obtain ⟨ta, a1, a2⟩ := ha
  refine ⟨_, pe_callTy h1 hg hm hv (pa_cons a1 pa_nil he) hn hdb he hpl, fun σ H δ S w sl Q R k h => ?_⟩
  exact a2 σ H δ S w sl _ _ (fun a H1 vs ds S1 g1 hs rs q => h2 H1 S1 a vs ds g1.wd hs rs Q R (fun b H2 us es S2 g2 hb => k b H2 us es S2 (g1.trans g2) (g1.th b hb)) q) h
/-- tuple(l), len(l), list(l), sorted(l) of ints -/
theorem cl_tuple : CL X (.type "tuple") (fun ds S Q => Q (.tup ds) S) := by
  refine ⟨_, call_tuple_of, fun H S a vs ds w hs rs Q R k q => ⟨a, vs, rfl, .inl ⟨hs, fun l hl => ?_⟩⟩⟩
  have g := Go.new (u := .tup vs) w hl
  exact k _ _ (.tup ds) S g ⟨l, vs, rfl, SqT.of upd_same, rs.im (g.im w)⟩ q
theorem cl_len : CL X (.builtin "len") (fun ds S Q => Q (.int ds.length) S) := by
  refine ⟨_, call_len_seq, fun H S a vs ds w hs rs Q R k q => ⟨a, vs, rfl, .inl hs, ?_⟩⟩
  exact k _ H (.int ds.length) S (Go.refl w) (by rw [rs.length]; rfl) q
theorem cn_list : CN X (.type "list") (fun ds S Q => Q ds S) := by
  refine ⟨_, call_list_of, fun H S a vs ds w hs rs Q R k q => ⟨a, vs, rfl, .inl hs, fun l hl => ?_⟩⟩
  have g := Go.new (u := .lst vs) w hl
  exact k l _ _ ds S g hl upd_same (w.free hl) (rs.im (g.im w)) q
def intsOf : List D → Option (List Int)
  | [] => some []
  | .int i :: r => (intsOf r).map (i :: ·)
  | _ :: _ => none
theorem intsOf_map : ∀ ns : List Int, intsOf (ns.map D.int) = some ns
  | [] => rfl
  | n :: ns => by rw [List.map_cons, intsOf, intsOf_map ns]; rfl
theorem of_intsOf : ∀ {ds : List D} {ns : List Int}, intsOf ds = some ns → ds = ns.map D.int
  | [], ns, h => by cases h; rfl
  | .int i :: r, ns, h => by
    unfold intsOf at h
    cases e : intsOf r with
    | none => rw [e] at h; cases h
    | some m => rw [e] at h; cases h; rw [of_intsOf e]; rfl
  | .non :: _, _, h => by cases h
  | .bl _ :: _, _, h => by cases h
  | .str _ :: _, _, h => by cases h
  | .ty _ :: _, _, h => by cases h
  | .tup _ :: _, _, h => by cases h
  | .frz _ :: _, _, h => by cases h
  | .rf _ :: _, _, h => by cases h
  | .kst _ _ :: _, _, h => by cases h
/-- sorted of ints: the one rising list -/
theorem perm_sorted_eq {xs ys : List Int} (h : xs.Perm ys) (hx : xs.Pairwise (· ≤ ·)) (hy : ys.Pairwise (· ≤ ·)) : xs = ys :=
  List.Perm.eq_of_pairwise (fun a b _ _ h1 h2 => Int.le_antisymm h1 h2) hx hy h
def dSortI (ds : List D) (S : Sh) (Q : List D → Sh → Prop) : Prop := match intsOf ds with | some ns => ∀ ms : List Int, ms.Perm ns → ms.Pairwise (· ≤ ·) → Q (ms.map D.int) S | none => False
theorem cn_sortedI : CN X (.builtin "sorted") dSortI := by
  refine ⟨_, cr_sortedI, fun H S a vs ds w hs rs Q R k q => ?_⟩
  unfold dSortI at q
  cases e : intsOf ds with
  | none => rw [e] at q; exact q.elim
  | some ns =>
    rw [e] at q
    obtain rfl := of_intsOf e
    obtain rfl := Reps.ints rs
    refine ⟨a, ns, rfl, hs, fun ms l h1 h2 hl => ?_⟩
    have g := Go.new (u := .lst (ms.map V.int)) w hl
    exact k l _ _ (ms.map D.int) S g hl upd_same (w.free hl) Reps.of_ints (q ms h1 h2)

/-! ### len, int, str, min, max of values -/
def dLen : CD := fun ds S Q => match ds with
  | [.str s] => s.length ≤ sizeLine ∧ Q (.int s.length) S
  | [.tup xs] => Q (.int xs.length) S
  | [.frz xs] => Q (.int xs.length) S
  | [.rf p] => (match S p with | some (.lst xs) => Q (.int xs.length) S | _ => False)
  | _ => False
theorem c_len : C X (.builtin "len") dLen := by
  refine ⟨_, call_len, fun H S vs ds w rs Q R k q => ?_⟩
  rcases ds with _ | ⟨d, _ | ⟨d2, ds⟩⟩
  · exact False.elim q
  · obtain ⟨v, r, rfl, rv, rfl⟩ := rs
    cases d with
    | str s =>
      obtain rfl := rv
      exact ⟨_, s.length, rfl, ⟨by rw [str_len]; exact q.1, by rw [str_len]⟩, k _ H (.int s.length) S (Go.refl w) rfl q.2⟩
    | tup xs =>
      obtain ⟨p, us, rfl, hp, ru⟩ := rv
      exact ⟨_, xs.length, rfl, .inr ⟨us, hp, ru.length⟩, k _ H (.int xs.length) S (Go.refl w) rfl q⟩
    | frz xs =>
      obtain ⟨p, us, rfl, hp, ru⟩ := rv
      exact ⟨_, xs.length, rfl, .inl ⟨us, hp.l, ru.length⟩, k _ H (.int xs.length) S (Go.refl w) rfl q⟩
    | rf p =>
      obtain rfl := rv
      simp only [dLen] at q
      split at q
      · rename_i xs es
        obtain ⟨ho, e0, us, rfl, ru⟩ := w _ _ es
        exact ⟨_, xs.length, rfl, .inl ⟨us, SqL.of e0, ru.length⟩, k _ H (.int xs.length) S (Go.refl w) rfl q⟩
      · exact q.elim
    | _ => exact False.elim q
  · cases d <;> exact False.elim q
def dInt : CD := fun ds S Q => match ds with | [.int i] => Q (.int i) S | [.bl b] => Q (.int (if b then 1 else 0)) S | _ => False
theorem c_int : C X (.type "int") dInt := by
  refine ⟨_, call_int1, fun H S vs ds w rs Q R k q => ?_⟩
  rcases ds with _ | ⟨d, _ | ⟨d2, ds⟩⟩
  · exact False.elim q
  · obtain ⟨v, r, rfl, rv, rfl⟩ := rs
    cases d with
    | int i =>
      obtain rfl := rv
      exact .inl ⟨i, rfl, k _ H (.int i) S (Go.refl w) rfl q⟩
    | bl i =>
      obtain rfl := rv
      exact .inr ⟨i, rfl, k _ H (.int _) S (Go.refl w) rfl q⟩
    | _ => exact False.elim q
  · cases d <;> exact False.elim q
def dIntS : CD := fun ds S Q => match ds with | [.str s] => s.length ≤ 640 ∧ ∃ n, PySem.intText? ⟨s.toArray⟩ = some n ∧ Q (.int n) S | _ => False
theorem c_intS : C X (.type "int") dIntS := by
  refine ⟨_, call_int_str, fun H S vs ds w rs Q R k q => ?_⟩
  rcases ds with _ | ⟨d, _ | ⟨d2, ds⟩⟩
  · exact False.elim q
  · obtain ⟨v, r, rfl, rv, rfl⟩ := rs
    cases d with
    | str s =>
      obtain rfl := rv
      obtain ⟨q1, n, q2, q3⟩ := q
      exact ⟨_, n, rfl, q2, by rw [str_len]; exact q1, k _ H (.int n) S (Go.refl w) rfl q3⟩
    | _ => exact False.elim q
  · cases d <;> exact False.elim q
/-- the digits of an int -/
def decs (i : Int) : List Nat := (Str.ofString (toString i)).cps.toList
def dStr : CD := fun ds S Q => match ds with | [.int i] => i.natAbs.log2 < 1920 ∧ Q (.str (decs i)) S | _ => False
theorem c_str : C X (.type "str") dStr := by
  refine ⟨_, call_str_int, fun H S vs ds w rs Q R k q => ?_⟩
  rcases ds with _ | ⟨d, _ | ⟨d2, ds⟩⟩
  · exact False.elim q
  · obtain ⟨v, r, rfl, rv, rfl⟩ := rs
    cases d with
    | int i =>
      obtain rfl := rv
      exact ⟨i, rfl, q.1, k _ H (.str (decs i)) S (Go.refl w) (by show V.str _ = V.str ⟨(decs i).toArray⟩; unfold decs; rw [Array.toArray_toList]) q.2⟩
    | _ => exact False.elim q
  · cases d <;> exact False.elim q
def dII (f : Int → Int → D) : CD := fun ds S Q => match ds with | [.int i, .int j] => Q (f i j) S | _ => False
theorem c_II {f : Value} {r : List V → Hp → VK → Prop} {g : Int → Int → D} {g' : Int → Int → V} (h : CallR X f r) (hr : ∀ i j H R, R (g' i j) H → r [.int i, .int j] H R) (hg : ∀ K H i j, Rep K H (g i j) (g' i j)) : C X f (dII g) := by
  refine ⟨_, h, fun H S vs ds w rs Q R k q => ?_⟩
  rcases ds with _ | ⟨d, _ | ⟨d2, _ | ⟨d3, ds⟩⟩⟩
  · exact False.elim q
  · cases d <;> exact False.elim q
  · obtain ⟨v, r, rfl, rv, u, r2, rfl, ru, rfl⟩ := rs
    cases d with
    | int i =>
      cases d2 with
      | int j =>
        obtain rfl := rv
        obtain rfl := ru
        exact hr i j H R (k _ H _ S (Go.refl w) (hg _ _ _ _) q)
      | _ => exact False.elim q
    | _ => exact False.elim q
  · cases d with
    | int i => cases d2 <;> exact False.elim q
    | _ => exact False.elim q
def dMax : CD := dII fun i j => .int (if j > i then j else i)
def dMin : CD := dII fun i j => .int (if j < i then j else i)
theorem c_max (hc : X.calm = true := by rfl) : C X (.builtin "max") dMax := c_II (call_max2 hc) (fun i j H R h => ⟨i, j, rfl, h⟩) fun _ _ _ _ => rfl
theorem c_min (hc : X.calm = true := by rfl) : C X (.builtin "min") dMin := c_II (call_min2 hc) (fun i j H R h => ⟨i, j, rfl, h⟩) fun _ _ _ _ => rfl
/-! ### isinstance(e, T) -/
inductive TyN where
  | tNone | tBool | tInt | tStr | tTuple | tList
def TyN.s : TyN → String
  | .tNone => "NoneType" | .tBool => "bool" | .tInt => "int" | .tStr => "str" | .tTuple => "tuple" | .tList => "list"
def tyName (S : Sh) : D → Option TyN
  | .non => some .tNone | .bl _ => some .tBool | .int _ => some .tInt | .str _ => some .tStr | .tup _ => some .tTuple | .frz _ => some .tList
  | .rf p => (match S p with | some (.lst _) => some .tList | _ => none)
  | .ty _ => none
  | .kst _ _ => none
theorem tyx {K : PySem.W.Frag} {H : Hp} {S : Sh} {d : D} {v : V} {n : TyN} (w : Wd K H S) (r : Rep K H d v) (h : tyName S d = some n) : TyX K H v (.type n.s) := by
  cases d with
  | non => obtain rfl := r; cases h; exact .base .non
  | bl b => obtain rfl := r; cases h; exact .base (.bl b)
  | int i => obtain rfl := r; cases h; exact .base (.int i)
  | str s => obtain rfl := r; cases h; exact .base (.str _)
  | tup ds =>
    obtain ⟨p, vs, rfl, hp, _⟩ := r
    cases h
    rcases hp with (hp | ⟨ob, hp⟩) | ⟨ob, its, m, hk, hc, _⟩
    · exact .base (.tup hp)
    · exact .fTuple hp
    · exact .kTuple hk hc
  | frz ds =>
    obtain ⟨p, vs, rfl, hp, _⟩ := r
    cases h
    rcases hp with ⟨ob, hp⟩ | ⟨ob, its, m, hk, hc, _⟩
    · exact .base (.frz hp)
    · exact .kList hk hc
  | rf p =>
    obtain rfl := r
    simp only [tyName] at h
    split at h
    · rename_i ds es
      cases h
      obtain ⟨ho, e0, us, rfl, ru⟩ := w _ _ es
      exact .base (.lst e0)
    · cases h
  | ty _ => cases h
  | kst _ _ => cases h
/-- what isinstance says of the names of types -/
def isT : TyN → TyN → Bool
  | .tNone, .tNone => true | .tBool, .tBool => true | .tBool, .tInt => true | .tInt, .tInt => true | .tStr, .tStr => true | .tTuple, .tTuple => true | .tList, .tList => true
  | _, _ => false
def dIsi (t : TyN) (a : ED) : ED := fun δ S Q => a δ S fun x S1 => match tyName S1 x with | some n => Q (.bl (isT n t)) S1 | none => False
theorem kit_isT (n t : TyN) : kitB n.s t.s = some (isT n t) := by
  cases n <;> cases t <;> decide +kernel
theorem e_isi (t : TyN) {y : Str} (ha : E X a τ) (hm : X.mg "isinstance" = none) (hmt : X.mg y = none)
    (hv : bootBuiltins y = some (.type t.s) := by decide +kernel) (hg : Gl X "isinstance" := by rfl) (hgt : Gl X y := by rfl) (hn : y ≠ "__name__" := by decide) (hdb : (y == ("__debug__" : Str)) = false := by decide)
    (he : starEach (a :: [.Name y q]) X.env = (false, eval a X.env) :: starEach [.Name y q] X.env := by rfl) (he2 : starEach (.Name y q :: []) X.env = (false, eval (.Name y q) X.env) :: starEach [] X.env := by rfl) (hpl : (backTo pos (starEach [.Name y q] X.env)).any (·.1) = false := by rfl) :
    E X (.Call (.Name "isinstance" p) [a, .Name y q] [] pos) (dIsi t τ) := by
  obtain ⟨ta, a1, a2⟩ := ha
  have rt : RelV (.ty t.s) (Value.type t.s) := rfl
  refine ⟨_, pe_callB call_isi hg hm (by decide +kernel) (pa_cons a1 (pa_cons (pe_bltn hgt hmt hv rt hn hdb) pa_nil he2) he) (by decide) (by decide) he hpl, fun σ H δ S w sl Q R k h => ?_⟩
  refine a2 σ H δ S w sl _ _ (fun v H1 d S1 g1 rv q => ?_) h
  cases e : tyName S1 d with
  | none => rw [e] at q; exact q.elim
  | some n =>
    rw [e] at q
    exact ⟨v, .ty t.s, .type n.s, .type t.s, _, rfl, .ty t.s, tyx g1.wd rv e, kit_ty (kit_isT n t), k _ H1 (.bl _) S1 g1 rfl q⟩
end
end DL

set_option Elab.async false
set_option linter.all false
set_option maxRecDepth 100000
namespace DL
open PySem PySem.Spec L2
section
variable {X : Cx} {a b c e o value : Expr} {es : List Expr} {pos p2 p q apos cpos pos' : Pos} {τ τa τb τc : ED} {α ν ν' : AD} {ι : ID} {γ : GD} {κ : TD} {ξ : SD} {tg iter : Expr} {x : Str}

/-! ### what is walked -/
theorem simj_list {K : PySem.W.Frag} {Hb : Hp} {S : Sh} {H : Hp} {a : Addr} {ds : List D} {ck : Sh → Prop} (hl : ∀ S' H', Kp K (fun a => Hb a = none) S H S' H' → ck S' → ∃ vs, SqL K H' a vs ∧ Reps K H' ds vs) : SimJ K Hb S H (Itl K a) ds ck := fun S' H' g hck i => by
  obtain ⟨vs, h1, r1⟩ := hl S' H' g hck
  refine ⟨fun d hd => ?_, fun hi => ⟨vs, h1, by rw [← r1.length]; exact hi⟩⟩
  obtain ⟨v, hv, rv⟩ := r1.get hd
  refine ⟨⟨vs, v, h1, hv⟩, fun x H2 ⟨e, y⟩ => ?_⟩
  subst e
  have := y vs h1
  rw [hv] at this
  cases this
  exact ⟨Go.refl g.wd, rv⟩
theorem i_new (h : N X iter ν) : I X tg iter (fun δ S Q => ν δ S fun ds S1 => Q ds (fun _ => True) S1) := by
  obtain ⟨t, a1, a2⟩ := h
  refine ⟨_, pi_list a1, fun σ H δ S w sl Q R k h => ?_⟩
  refine a2 σ H δ S w sl _ _ (fun a H1 vs ds S1 g1 h0 hp hs rs q => ?_) h
  refine ⟨a, rfl, ⟨vs, SqL.of hp⟩, k _ H1 S1 ds (fun _ => True) g1 (simj_list fun S' H' g _ => ⟨vs, SqL.of (g.ex a _ h0 hp hs), rs.im g.im⟩) trivial q⟩
def dItN (l : AD) : ID := fun δ S Q => l δ S fun ds S1 => Q ds (fun _ => True) S1
theorem i_newD (h : N X iter ν) : I X tg iter (dItN ν) := i_new h
def dIt (a : ED) : ID := fun δ S Q => a δ S fun x S1 => match x with
  | .tup ds => Q ds (fun _ => True) S1
  | .frz ds => Q ds (fun _ => True) S1
  | .str s => Q (s.map fun c => .str [c]) (fun _ => True) S1
  | .rf p => (match S1 p with | some (.lst ds) => Q ds (fun S => S p = some (.lst ds)) S1 | _ => False)
  | _ => False
def iAny (K : PySem.W.Frag) (te : TE) : TI := fun σ H R => te σ H fun x H1 => (∃ a xs, x = .ref a ∧ SqL K H1 a xs ∧ R (Itl K a) H1) ∨ (∃ a xs, x = .ref a ∧ SqT K H1 a xs ∧ R (Itt K a) H1) ∨ (∃ z, x = .str z ∧ R (Its z) H1)
open PyProof.Rows in
theorem pi_any {X : Cx} {tg e : Expr} {te : TE} (he : PE X e te) : PI X tg e (iAny X.K te) :=
  ⟨fun {p s σ H R} k0 I h => tn k0 (he.run k0 I h) fun v s1 _ ⟨y, H1, I1, r1, q1⟩ => by
    rcases q1 with ⟨a, xs, ex, hq, q⟩ | ⟨a, xs, ex, hq, q⟩ | ⟨z, ex, q⟩
    · subst ex; cases r1
      obtain ⟨its, rv, p, hz⟩ := I1.list hq
      exact wpAny_pyIter_list p.isList (pi_one (tk := s1.toks) I1 _ (turn_list a _) ⟨_, Heap.get?_push_size _ rfl, rfl, rfl⟩ q)
    · subst ex; cases r1
      obtain ⟨its, rv, p, hz⟩ := I1.tuple hq
      exact wpAny_pyIter_tuple (show s1.heap.IsTuple a its.toArray from p) (pi_one (tk := s1.toks) I1 _ (turn_tuple a _) ⟨_, Heap.get?_push_size _ rfl, rfl, rfl⟩ q)
    · subst ex
      obtain ⟨t, rfl⟩ := r1
      cases ha : z.cps.all (· < 128)
      · exact wpAny_pyIter_wide ha (pi_one (tk := s1.toks) I1 _ (turn_str _ z t "str_iterator" (.inr rfl)) ⟨_, Heap.get?_push_size _ rfl, rfl, rfl⟩ q)
      · exact wpAny_pyIter_ascii ha (pi_one (tk := s1.toks) I1 _ (turn_str _ z t "str_ascii_iterator" (.inl rfl)) ⟨_, Heap.get?_push_size _ rfl, rfl, rfl⟩ q)⟩
theorem simj_tup {K : PySem.W.Frag} {Hb : Hp} {S : Sh} {H : Hp} {a : Addr} {vs : List V} {ds : List D} (rs : Reps K H ds vs) (w : Wd K H S) (hl : SqT K H a vs) : SimJ K Hb S H (Itt K a) ds (fun _ => True) := fun S' H' g _ i => by
  have im := g.im
  have h1 := im.t _ _ hl
  have r1 := rs.im im
  refine ⟨fun d hd => ?_, fun hi => ⟨vs, h1, by rw [← rs.length]; exact hi⟩⟩
  obtain ⟨v, hv, rv⟩ := r1.get hd
  refine ⟨⟨vs, v, h1, hv⟩, fun x H2 ⟨e, y⟩ => ?_⟩
  subst e
  have := y vs h1
  rw [hv] at this
  cases this
  exact ⟨Go.refl g.wd, rv⟩
theorem simj_str {K : PySem.W.Frag} {Hb : Hp} {S : Sh} {H : Hp} {s : List Nat} : SimJ K Hb S H (Its ⟨s.toArray⟩) (s.map fun c => .str [c]) (fun _ => True) := fun S' H' g _ i => by
  refine ⟨fun d hd => ?_, fun hi => ?_⟩
  · rw [List.getElem?_map] at hd
    cases e : s[i]? with
    | none => rw [e] at hd; cases hd
    | some c =>
      rw [e] at hd
      cases hd
      refine ⟨by show i < s.toArray.size; simpa using (List.getElem?_eq_some_iff.mp e).1, fun x H2 ⟨e1, c', e2, e3⟩ => ?_⟩
      subst e1
      have : c' = c := by
        have q : s.toArray[i]? = some c' := e2
        rw [List.getElem?_toArray, e] at q
        exact (Option.some.inj q).symm
      subst this
      subst e3
      exact ⟨Go.refl g.wd, rfl⟩
  · show s.toArray.size ≤ i
    simpa using hi
theorem i_of (h : E X iter τ) : I X tg iter (dIt τ) := by
  obtain ⟨t, a1, a2⟩ := h
  refine ⟨_, pi_any a1, fun σ H δ S w sl Q R k h => ?_⟩
  refine a2 σ H δ S w sl _ _ (fun v H1 d S1 g1 r1 q => ?_) h
  cases d with
  | tup ds =>
    obtain ⟨a, vs, rfl, hq, rs⟩ := r1
    exact .inr (.inl ⟨a, vs, rfl, hq, k _ H1 S1 ds _ g1 (simj_tup rs g1.wd hq) trivial q⟩)
  | frz ds =>
    obtain ⟨a, vs, rfl, hq, rs⟩ := r1
    exact .inl ⟨a, vs, rfl, hq.l, k _ H1 S1 ds (fun _ => True) g1 (simj_list fun S' H' g _ => ⟨vs, (g.im.f _ _ hq).l, rs.im g.im⟩) trivial q⟩
  | str s =>
    obtain rfl := r1
    exact .inr (.inr ⟨_, rfl, k _ H1 S1 _ _ g1 simj_str trivial q⟩)
  | rf p =>
    obtain rfl := r1
    simp only at q
    split at q
    · rename_i ds es
      obtain ⟨ho, e0, vs, rfl, rs⟩ := g1.wd _ _ es
      refine .inl ⟨p, vs, rfl, SqL.of e0, k _ H1 S1 ds (fun S => S p = some (.lst ds)) g1 (simj_list fun S' H' g hck => ?_) es q⟩
      obtain ⟨ho2, e2, vs2, rfl, rs2⟩ := g.wd _ _ hck
      exact ⟨vs2, SqL.of e2, rs2⟩
    · exact q.elim
  | _ => exact False.elim q

/-! ### range -/
def rng (lo : Int) (n : Nat) : List D := (List.range n).map fun i : Nat => .int (lo + i)
theorem simj_rng {K : PySem.W.Frag} {Hb : Hp} {S : Sh} {H : Hp} {lo : Int} {n : Nat} : SimJ K Hb S H (Itr lo n) (rng lo n) (fun _ => True) := fun S' H' g _ i => by
  refine ⟨fun d hd => ?_, fun hi => ?_⟩
  · unfold rng at hd
    rw [List.getElem?_map] at hd
    have hl : i < n := by
      cases e : (List.range n)[i]? with
      | none => rw [e] at hd; cases hd
      | some j => have := (List.getElem?_eq_some_iff.mp e).1; simpa using this
    rw [List.getElem?_range hl] at hd
    cases hd
    exact ⟨hl, fun x H2 ⟨e1, e2⟩ => by subst e1; subst e2; exact ⟨Go.refl g.wd, rfl⟩⟩
  · show n ≤ i
    simpa [rng] using hi
def dRng1 (a : AD) : ID := fun δ S Q => a δ S fun ds S1 => match ds with | [.int j] => -(2 ^ 62) ≤ j ∧ j < 2 ^ 62 ∧ Q (rng 0 j.toNat) (fun _ => True) S1 | _ => False
def dRng2 (a : AD) : ID := fun δ S Q => a δ S fun ds S1 => match ds with | [.int i, .int j] => (-(2 ^ 62) ≤ i ∧ i < 2 ^ 62 ∧ -(2 ^ 62) ≤ j ∧ j < 2 ^ 62) ∧ Q (rng i (j - i).toNat) (fun _ => True) S1 | _ => False
theorem i_rng1 (hm : X.mg "range" = none) (ha : A X [a] α) (hg : Gl X "range" := by rfl) (hs : starEach [a] X.env = [(false, eval a X.env)] := by rfl) : I X tg (.Call (.Name "range" p) [a] [] pos) (dRng1 α) := by
  obtain ⟨t, a1, a2⟩ := ha
  refine ⟨_, pi_range1 hg hm a1 hs, fun σ H δ S w sl Q R k h => ?_⟩
  refine a2 σ H δ S w sl _ _ (fun vs H1 ds S1 g1 rs q => ?_) h
  rcases ds with _ | ⟨d, _ | ⟨d2, ds⟩⟩
  · exact False.elim q
  · obtain ⟨v, r, rfl, rv, rfl⟩ := rs
    cases d with
    | int j =>
      obtain rfl := rv
      exact ⟨j, rfl, q.1, q.2.1, k _ H1 S1 _ _ g1 simj_rng trivial q.2.2⟩
    | _ => exact False.elim q
  · cases d <;> exact False.elim q
theorem i_rng2 (hm : X.mg "range" = none) (ha : A X [a, b] α) (hg : Gl X "range" := by rfl) (hs : starEach [a, b] X.env = [(false, eval a X.env), (false, eval b X.env)] := by rfl) (hs2 : starEach [b] X.env = [(false, eval b X.env)] := by rfl) : I X tg (.Call (.Name "range" p) [a, b] [] pos) (dRng2 α) := by
  obtain ⟨t, a1, a2⟩ := ha
  refine ⟨_, pi_range2 hg hm a1 hs hs2, fun σ H δ S w sl Q R k h => ?_⟩
  refine a2 σ H δ S w sl _ _ (fun vs H1 ds S1 g1 rs q => ?_) h
  rcases ds with _ | ⟨d, _ | ⟨d2, _ | ⟨d3, ds⟩⟩⟩
  · exact False.elim q
  · cases d <;> exact False.elim q
  · obtain ⟨v, r, rfl, rv, u, r2, rfl, ru, rfl⟩ := rs
    cases d with
    | int i =>
      cases d2 with
      | int j =>
        obtain rfl := rv
        obtain rfl := ru
        exact ⟨i, j, rfl, q.1, k _ H1 S1 _ _ g1 simj_rng trivial q.2⟩
      | _ => exact False.elim q
    | _ => exact False.elim q
  · cases d with
    | int i => cases d2 <;> exact False.elim q
    | _ => exact False.elim q

/-! ### methods of built-in types -/
def tyD (ty : String) (S : Sh) (x : D) : Prop := match x with
  | .str _ => ty = "str"
  | .frz _ => ty = "list"
  | .rf p => ty = "list" ∧ ∃ ds, S p = some (.lst ds)
  | _ => False
theorem ty_ok {K : PySem.W.Frag} {H : Hp} {S : Sh} {ty : String} {d : D} {v : V} (w : Wd K H S) (r : Rep K H d v) (h : tyD ty S d) : tyV K ty v H := by
  cases d with
  | str s => obtain rfl := r; exact h
  | frz ds =>
    obtain ⟨a, vs, rfl, hf, _⟩ := r
    exact .inl ⟨h, vs, hf.l⟩
  | rf p =>
    obtain rfl := r
    obtain ⟨h1, ds, es⟩ := h
    obtain ⟨ho, e0, vs, rfl, rs⟩ := w _ _ es
    exact .inl ⟨h1, vs, SqL.of e0⟩
  | _ => exact False.elim h
abbrev MD := D → List D → Sh → QD → Prop
def SimM (K : PySem.W.Frag) (r : V → List V → Hp → VK → Prop) (ρ : MD) : Prop := ∀ H S x dx vs ds, Wd K H S → Rep K H dx x → Reps K H ds vs → ∀ (Q : QD) (R : VK), (∀ v H' d S', Go K S H S' H' → Rep K H' d v → Q d S' → R v H') → ρ dx ds S Q → r x vs H R
def M (X : Cx) (id : String) (ρ : MD) : Prop := ∃ r, MtR X id r ∧ SimM X.K r ρ
def dBM0 (ty : String) (ρ : MD) (a : ED) : ED := fun δ S Q => a δ S fun x S1 => tyD ty S1 x ∧ ρ x [] S1 Q
def dBM (ty : String) (ρ : MD) (a : ED) (l : AD) : ED := fun δ S Q => a δ S fun x S1 => tyD ty S1 x ∧ l δ S1 fun ds S2 => ρ x ds S2 Q
theorem e_bm0 {ty id : String} {name : Str} {ρ : MD} (pa : PlainAttrs ty) (slot : Slot ty name id) (hty : typeOf (.builtin id) = pure (.type "method_descriptor")) (hm : M X id ρ) (ho : E X o τ)
    (hbase : attributeBase o name X.env (eval o X.env) = eval o X.env := by rfl) (hline : (apos.endLine == cpos.line) = true := by rfl) : E X (.Call (.Attribute o name apos) [] [] cpos) (dBM0 ty ρ τ) := by
  obtain ⟨r, m1, m2⟩ := hm
  obtain ⟨t, a1, a2⟩ := ho
  refine ⟨_, pe_bm0 pa slot hty m1 a1 hbase hline, fun σ H δ S w sl Q R k h => ?_⟩
  refine a2 σ H δ S w sl _ _ (fun v H1 d S1 g1 rv q => ⟨ty_ok g1.wd rv q.1, ?_⟩) h
  exact m2 H1 S1 v d [] [] g1.wd rv rfl Q R (fun v' H2 d' S2 g2 => k v' H2 d' S2 (g1.trans g2)) q.2
theorem e_bm {ty id : String} {name : Str} {ρ : MD} (pa : PlainAttrs ty) (slot : Slot ty name id) (hty : typeOf (.builtin id) = pure (.type "method_descriptor")) (hm : M X id ρ) (ho : E X o τ) (ha : A X (e :: es) α)
    (hbase : attributeBase o name X.env (eval o X.env) = eval o X.env := by rfl)
    (hfew : ((backTo cpos (starEach (e :: es) X.env)).all (fun x => !x.1) && (backToKw cpos (keywordEach [] X.env)).all (fun x => x.1.isSome)
      && decide ((e :: es).length + ([] : List Keyword).length + (if ([] : List Keyword).isEmpty then 0 else 1) < 30)) = true := by rfl)
    (hline : (apos.endLine == cpos.line) = true := by rfl) (hs : starEach (e :: es) X.env = (false, eval e X.env) :: starEach es X.env := by rfl) (hplain : (backTo cpos (starEach es X.env)).any (·.1) = false := by rfl) :
    E X (.Call (.Attribute o name apos) (e :: es) [] cpos) (dBM ty ρ τ α) := by
  obtain ⟨r, m1, m2⟩ := hm
  obtain ⟨t, a1, a2⟩ := ho
  obtain ⟨ta, b1, b2⟩ := ha
  refine ⟨_, pe_bm pa slot hty m1 a1 b1 hbase hfew hline hs hplain, fun σ H δ S w sl Q R k h => ?_⟩
  refine a2 σ H δ S w sl _ _ (fun v H1 d S1 g1 rv q => ⟨ty_ok g1.wd rv q.1, ?_⟩) h
  refine b2 σ H1 δ S1 g1.wd (sl.im (g1.im w)) _ _ (fun vs H2 ds S2 g2 rs q2 => ?_) q.2
  exact m2 H2 S2 v d vs ds g2.wd (rv.im (g2.im g1.wd)) rs Q R (fun v' H3 d' S3 g3 => k v' H3 d' S3 ((g1.trans g2).trans g3)) q2
/-- a method whose one argument is a list on the spot -/
def SimML (K : PySem.W.Frag) (r : V → List V → Hp → VK → Prop) (ρ : MD) : Prop := ∀ H S x dx a vs ds, Wd K H S → Rep K H dx x → SqL K H a vs → Reps K H ds vs → ∀ (Q : QD) (R : VK), (∀ v H' d S', Go K S H S' H' → Rep K H' d v → Q d S' → R v H') → ρ dx ds S Q → r x [.ref a] H R
def ML (X : Cx) (id : String) (ρ : MD) : Prop := ∃ r, MtR X id r ∧ SimML X.K r ρ
theorem e_bmL {ty id : String} {name : Str} {ρ : MD} (pa : PlainAttrs ty) (slot : Slot ty name id) (hty : typeOf (.builtin id) = pure (.type "method_descriptor")) (hm : ML X id ρ) (ho : E X o τ) (ha : L X e ν)
    (hbase : attributeBase o name X.env (eval o X.env) = eval o X.env := by rfl)
    (hfew : ((backTo cpos (starEach (e :: []) X.env)).all (fun x => !x.1) && (backToKw cpos (keywordEach [] X.env)).all (fun x => x.1.isSome)
      && decide ((e :: ([] : List Expr)).length + ([] : List Keyword).length + (if ([] : List Keyword).isEmpty then 0 else 1) < 30)) = true := by rfl)
    (hline : (apos.endLine == cpos.line) = true := by rfl) (hs : starEach (e :: []) X.env = (false, eval e X.env) :: starEach [] X.env := by rfl) (hplain : (backTo cpos (starEach [] X.env)).any (·.1) = false := by rfl) :
    E X (.Call (.Attribute o name apos) [e] [] cpos) (dBM ty ρ τ ν) := by
  obtain ⟨r, m1, m2⟩ := hm
  obtain ⟨t, a1, a2⟩ := ho
  obtain ⟨ta, b1, b2⟩ := ha
  refine ⟨_, pe_bm pa slot hty m1 a1 (pa_cons b1 pa_nil hs) hbase hfew hline hs hplain, fun σ H δ S w sl Q R k h => ?_⟩
  refine a2 σ H δ S w sl _ _ (fun v H1 d S1 g1 rv q => ⟨ty_ok g1.wd rv q.1, ?_⟩) h
  refine b2 σ H1 δ S1 g1.wd (sl.im (g1.im w)) _ _ (fun p H2 vs ds S2 g2 hq rs q2 => ?_) q.2
  exact m2 H2 S2 v d p vs ds g2.wd (rv.im (g2.im g1.wd)) hq rs Q R (fun v' H3 d' S3 g3 => k v' H3 d' S3 ((g1.trans g2).trans g3)) q2
/-! texts -/
def mS0 (f : List Nat → D) (ok : List Nat → Prop) : MD := fun x ds S Q => match x, ds with | .str s, [] => ok s ∧ Q (f s) S | _, _ => False
theorem m_S0 {id : String} {r : V → List V → Hp → VK → Prop} {f : List Nat → D} {ok : List Nat → Prop} (h : MtR X id r) (hr : ∀ K H (s : List Nat) R, ok s → (∀ v, Rep K H (f s) v → R v H) → r (.str ⟨s.toArray⟩) [] H R) : M X id (mS0 f ok) := by
  refine ⟨_, h, fun H S x dx vs ds w rx rs Q R k q => ?_⟩
  cases dx with
  | str s =>
    obtain rfl := rx
    cases ds with
    | nil =>
      obtain rfl := rs
      exact hr X.K H s R q.1 fun v rv => k v H (f s) S (Go.refl w) rv q.2
    | cons _ _ => exact False.elim q
  | _ => exact False.elim q
def mS1 (f : List Nat → List Nat → D) (ok : List Nat → List Nat → Prop) : MD := fun x ds S Q => match x, ds with | .str s, [.str t] => ok s t ∧ Q (f s t) S | _, _ => False
theorem m_S1 {id : String} {r : V → List V → Hp → VK → Prop} {f : List Nat → List Nat → D} {ok : List Nat → List Nat → Prop} (h : MtR X id r) (hr : ∀ K H (s t : List Nat) R, ok s t → (∀ v, Rep K H (f s t) v → R v H) → r (.str ⟨s.toArray⟩) [.str ⟨t.toArray⟩] H R) : M X id (mS1 f ok) := by
  refine ⟨_, h, fun H S x dx vs ds w rx rs Q R k q => ?_⟩
  cases dx with
  | str s =>
    obtain rfl := rx
    rcases ds with _ | ⟨d, _ | ⟨d2, ds⟩⟩
    · exact False.elim q
    · obtain ⟨v, r2, rfl, rv, rfl⟩ := rs
      cases d with
      | str t =>
        obtain rfl := rv
        exact hr X.K H s t R q.1 fun v rv => k v H (f s t) S (Go.refl w) rv q.2
      | _ => exact False.elim q
    · cases d <;> exact False.elim q
  | _ => exact False.elim q
end
end DL

set_option Elab.async false
set_option linter.all false
set_option maxRecDepth 100000
namespace DL
open PySem PySem.Spec L2
section
variable {X : Cx} {a b c e o value : Expr} {es : List Expr} {pos p2 p q apos cpos pos' : Pos} {τ τa τb τc : ED} {α ν ν' : AD} {ι : ID} {γ : GD} {κ : TD} {ξ : SD} {tg iter : Expr} {x : Str}
abbrev tx (s : List Nat) : Str := ⟨s.toArray⟩

/-! ### texts' methods -/
def okT (s : List Nat) : Prop := s.length ≤ sizeLine
def okU : List Nat → Prop := fun _ => True
def ok2 : List Nat → List Nat → Prop := fun _ _ => True
def dSta : MD := mS1 (fun s t => .bl (Txt.startswith (tx s) (tx t))) ok2
def dEnd : MD := mS1 (fun s t => .bl (Txt.endswith (tx s) (tx t))) ok2
def dFind : MD := mS1 (fun s t => .int (Txt.find (tx s) (tx t))) ok2
def dIsasc : MD := mS0 (fun s => .bl (Txt.isascii (tx s))) okU
def dIsdig : MD := mS0 (fun s => .bl (Txt.isdigit (tx s))) okU
def dIsalp : MD := mS0 (fun s => .bl (Txt.isalpha (tx s))) okU
def dIsaln : MD := mS0 (fun s => .bl (Txt.isalnum (tx s))) okU
def dIslow : MD := mS0 (fun s => .bl (Txt.islower (tx s))) okU
def dIspri : MD := mS0 (fun s => .bl (Txt.isprintable (tx s))) okU
theorem m_sta : M X "str.startswith" dSta := m_S1 mt_startswith fun K H s t R _ k => ⟨_, _, rfl, rfl, k _ rfl⟩
theorem m_end : M X "str.endswith" dEnd := m_S1 mt_endswith fun K H s t R _ k => ⟨_, _, rfl, rfl, k _ rfl⟩
theorem m_find : M X "str.find" dFind := m_S1 mt_find fun K H s t R _ k => ⟨_, _, rfl, rfl, k _ rfl⟩
theorem m_isasc : M X "str.isascii" dIsasc := m_S0 mt_isascii fun K H s R _ k => ⟨_, rfl, rfl, trivial, k _ rfl⟩
theorem m_isdig : M X "str.isdigit" dIsdig := m_S0 mt_isdigit fun K H s R _ k => ⟨_, rfl, rfl, trivial, k _ rfl⟩
theorem m_isalp : M X "str.isalpha" dIsalp := m_S0 mt_isalpha fun K H s R _ k => ⟨_, rfl, rfl, trivial, k _ rfl⟩
theorem m_isaln : M X "str.isalnum" dIsaln := m_S0 mt_isalnum fun K H s R _ k => ⟨_, rfl, rfl, trivial, k _ rfl⟩
theorem m_islow : M X "str.islower" dIslow := m_S0 mt_islower fun K H s R _ k => ⟨_, rfl, rfl, trivial, k _ rfl⟩
theorem m_ispri : M X "str.isprintable" dIspri := m_S0 mt_isprintable fun K H s R _ k => ⟨_, rfl, rfl, trivial, k _ rfl⟩
/-- find within -/
def dFind4 : MD := fun x ds S Q => match x, ds with | .str s, [.str t, .int i, .int j] => Q (.int (Txt.findIn (tx s) (tx t) i j)) S | _, _ => False
theorem m_find4 : M X "str.find" dFind4 := by
  refine ⟨_, mt_find4, fun H S x dx vs ds w rx rs Q R k q => ?_⟩
  cases dx with
  | str s =>
    obtain rfl := rx
    rcases ds with _ | ⟨d, _ | ⟨d2, _ | ⟨d3, _ | ⟨d4, ds⟩⟩⟩⟩
    · exact False.elim q
    · cases d <;> exact False.elim q
    · cases d <;> first | exact False.elim q | (cases d2 <;> exact False.elim q)
    · obtain ⟨v, r2, rfl, rv, v2, r3, rfl, rv2, v3, r4, rfl, rv3, rfl⟩ := rs
      cases d with
      | str t =>
        cases d2 with
        | int i =>
          cases d3 with
          | int j =>
            obtain rfl := rv
            obtain rfl := rv2
            obtain rfl := rv3
            exact ⟨_, _, _, _, rfl, rfl, k _ H (.int _) S (Go.refl w) rfl q⟩
          | _ => exact False.elim q
        | _ => exact False.elim q
      | _ => exact False.elim q
    · cases d <;> first | exact False.elim q | (cases d2 <;> first | exact False.elim q | (cases d3 <;> exact False.elim q))
  | _ => exact False.elim q
/-- split(sep): a new list -/
theorem Reps.strs {K : PySem.W.Frag} {H : Hp} : ∀ ys : List (List Nat), Reps K H (ys.map D.str) ((ys.map tx).map V.str)
  | [] => rfl
  | _ :: ys => ⟨_, _, rfl, rfl, Reps.strs ys⟩
def dSplit (a b : ED) : AD := fun δ S Q => a δ S fun x S1 => match x with
  | .str s => b δ S1 fun y S2 => (match y with
    | .str t => t ≠ [] ∧ t.all (· < 256) = true ∧ s.length + 2 ≤ sizeLine ∧ Q ((TL.spl t 0 [] s).map D.str) S2
    | _ => False)
  | _ => False
theorem n_split (ho : E X o τ) (ha : E X e τa) (hs : starEach [e] X.env = [(false, eval e X.env)] := by rfl) (hbase : attributeBase o "split" X.env (eval o X.env) = eval o X.env := by rfl) (hline : (apos.endLine == pos.line) = true := by rfl) :
    N X (.Call (.Attribute o "split" apos) [e] [] pos) (dSplit τ τa) := by
  obtain ⟨t, a1, a2⟩ := ho
  obtain ⟨ta, b1, b2⟩ := ha
  refine ⟨_, pe_split a1 b1 hs hbase hline, fun σ H δ S w sl Q R k h => ?_⟩
  refine a2 σ H δ S w sl _ _ (fun v H1 d S1 g1 rv q => ?_) h
  cases d with
  | str s =>
    obtain rfl := rv
    refine ⟨⟨_, rfl⟩, b2 σ H1 δ S1 g1.wd (sl.im (g1.im w)) _ _ (fun u H2 d2 S2 g2 ru q2 => ?_) q⟩
    cases d2 with
    | str t =>
      obtain rfl := ru
      obtain ⟨q1, q2, q3, q4⟩ := q2
      refine ⟨tx s, tx t, rfl, rfl, ?_, by rw [str_len]; exact q3, fun p hp => ?_⟩
      · rw [str_len]
        cases t with
        | nil => exact absurd rfl q1
        | cons _ _ => rfl
      · have e : Txt.split (tx s) (tx t) = (TL.spl t 0 [] s).map tx := SX.split_S q1 q2
        rw [e]
        have g := Go.new (u := .lst (((TL.spl t 0 [] s).map tx).map V.str)) g2.wd hp
        exact k p _ _ _ S2 ((g1.trans g2).trans g) ((g1.trans g2).th _ hp) upd_same (g2.wd.free hp) (Reps.strs _) q4
    | _ => exact False.elim q2
  | _ => exact False.elim q
/-- sep.join(l) -/
def strsOf : List D → Option (List (List Nat))
  | [] => some []
  | .str s :: r => (strsOf r).map (s :: ·)
  | _ :: _ => none
theorem strsOf_map : ∀ ns : List (List Nat), strsOf (ns.map D.str) = some ns
  | [] => rfl
  | n :: ns => by rw [List.map_cons, strsOf, strsOf_map ns]; rfl
theorem of_strsOf : ∀ {ds : List D} {ns : List (List Nat)}, strsOf ds = some ns → ds = ns.map D.str
  | [], ns, h => by cases h; rfl
  | .str i :: r, ns, h => by
    unfold strsOf at h
    cases e : strsOf r with
    | none => rw [e] at h; cases h
    | some m => rw [e] at h; cases h; rw [of_strsOf e]; rfl
  | .non :: _, _, h => by cases h
  | .bl _ :: _, _, h => by cases h
  | .int _ :: _, _, h => by cases h
  | .ty _ :: _, _, h => by cases h
  | .tup _ :: _, _, h => by cases h
  | .frz _ :: _, _, h => by cases h
  | .rf _ :: _, _, h => by cases h
  | .kst _ _ :: _, _, h => by cases h
theorem Reps.of_strs {K : PySem.W.Frag} {H : Hp} : ∀ {ys : List (List Nat)} {vs : List V}, Reps K H (ys.map D.str) vs → vs = (ys.map tx).map V.str
  | [], _, h => h
  | _ :: _, _, h => by
    obtain ⟨v, r, rfl, h1, h2⟩ := h
    rw [show v = V.str _ from h1, Reps.of_strs h2]; rfl
def joinOk (s : List Nat) (ys : List (List Nat)) : Prop := (ys.map (·.length)).sum + ys.length * s.length ≤ 16777216
theorem join_tx (s : List Nat) (ys : List (List Nat)) : Txt.join (tx s) (ys.map tx) = tx (TL.joinL s ys) := SX.join_S s ys
theorem lens_tx (ys : List (List Nat)) : (ys.map tx).map (·.length) = ys.map (·.length) := SX.lens ys
/-- of a list -/
def dJoin : MD := fun x ds S Q => match x, strsOf ds with | .str s, some ys => joinOk s ys ∧ Q (.str (TL.joinL s ys)) S | _, _ => False
theorem m_join : ML X "str.join" dJoin := by
  refine ⟨_, mt_join, fun H S x dx a vs ds w rx hq rs Q R k q => ?_⟩
  cases dx with
  | str s =>
    obtain rfl := rx
    unfold dJoin at q
    cases e : strsOf ds with
    | none => rw [e] at q; exact q.elim
    | some ys =>
      rw [e] at q
      obtain rfl := of_strsOf e
      obtain rfl := rs.of_strs
      refine ⟨_, a, ys.map tx, rfl, rfl, .inl hq, ?_, ?_⟩
      · rw [lens_tx, List.length_map, str_len]; exact q.1
      · rw [join_tx]; exact k _ H (.str _) S (Go.refl w) rfl q.2
  | _ => exact False.elim q
/-- of a tuple -/
def dJoinT : MD := fun x ds S Q => match x, ds with | .str s, [.tup es] => (match strsOf es with | some ys => joinOk s ys ∧ Q (.str (TL.joinL s ys)) S | none => False) | _, _ => False
theorem m_joinT : M X "str.join" dJoinT := by
  refine ⟨_, mt_join, fun H S x dx vs ds w rx rs Q R k q => ?_⟩
  cases dx with
  | str s =>
    obtain rfl := rx
    rcases ds with _ | ⟨d, _ | ⟨d2, ds⟩⟩
    · exact False.elim q
    · obtain ⟨v, r, rfl, rv, rfl⟩ := rs
      cases d with
      | tup es =>
        obtain ⟨a, us, rfl, hq, rs⟩ := rv
        simp only [dJoinT] at q
        cases e : strsOf es with
        | none => rw [e] at q; exact q.elim
        | some ys =>
          rw [e] at q
          obtain rfl := of_strsOf e
          obtain rfl := rs.of_strs
          refine ⟨_, a, ys.map tx, rfl, rfl, .inr hq, ?_, ?_⟩
          · rw [lens_tx, List.length_map, str_len]; exact q.1
          · rw [join_tx]; exact k _ H (.str _) S (Go.refl w) rfl q.2
      | _ => exact False.elim q
    · cases d <;> exact False.elim q
  | _ => exact False.elim q

/-! ### lists changed -/
def dApp : MD := fun x ds S Q => match x, ds with | .rf p, [d] => (match S p with | some (.lst xs) => xs.length < sizeLine ∧ Q .non (su S p (.lst (xs ++ [d]))) | _ => False) | _, _ => False
theorem m_app : M X "list.append" dApp := by
  refine ⟨_, mt_append, fun H S x dx vs ds w rx rs Q R k q => ?_⟩
  cases dx with
  | rf p =>
    obtain rfl := rx
    rcases ds with _ | ⟨d, _ | ⟨d2, ds⟩⟩
    · exact False.elim q
    · obtain ⟨v, r, rfl, rv, rfl⟩ := rs
      simp only [dApp] at q
      split at q
      · rename_i xs es
        obtain ⟨ho, e0, us, rfl, ru⟩ := w _ _ es
        refine ⟨p, us, v, rfl, rfl, e0, by rw [← ru.length]; exact q.1, ?_⟩
        exact k _ _ .non _ (Go.wr (o' := .lst (xs ++ [d])) w es fun H' m => ⟨_, rfl, ((ru.append (Reps.one rv)).im m)⟩) rfl q.2
      · exact q.elim
    · exact False.elim q
  | _ => exact False.elim q
/-- l[i] = v -/
def dSetL (o i : ED) : GD := fun d δ S Q => o δ S fun x S1 => i δ S1 fun y S2 => match x, y with
  | .rf p, .int i => (match S2 p with | some (.lst xs) => (match ixN xs.length i with | some j => Q δ (su S2 p (.lst (xs.set j d))) | none => False) | _ => False)
  | _, _ => False
theorem g_setL {i : Expr} {τo τi : ED} (ho : E X o τo) (hi : E X i τi) (ha : ∀ v, assign (.Subscript o i pos) X.env v = (do
      let ov ← holding [v] (eval o X.env)
      let iv ← holding [v, ov] (eval i X.env)
      standAt pos
      holding [v, ov, iv] (setItem ov iv v)
      release [v, ov, iv] []) := by intro _; rfl) : G X (.Subscript o i pos) (dSetL τo τi) := by
  obtain ⟨t, a1, a2⟩ := ho
  obtain ⟨ti, b1, b2⟩ := hi
  refine ⟨_, pg_sub a1 b1 set_list ha, fun σ H δ S v d w sl rv Q R k h => ?_⟩
  refine a2 σ H δ S w sl _ _ (fun vo H1 dx S1 g1 ro q => ?_) h
  have sl1 := sl.im (g1.im w)
  refine b2 σ H1 δ S1 g1.wd sl1 _ _ (fun vi H2 dy S2 g2 ri q => ?_) q
  cases dx with
  | rf p =>
    obtain rfl := ro
    cases dy with
    | int i =>
      obtain rfl := ri
      simp only at q
      split at q
      · rename_i xs es
        cases e : ixN xs.length i with
        | none => rw [e] at q; exact q.elim
        | some j =>
          rw [e] at q
          obtain ⟨ho, e0, us, rfl, ru⟩ := g2.wd _ _ es
          refine ⟨p, us, i, j, rfl, rfl, e0, by rw [← ru.length]; exact e, ?_⟩
          have g3 := Go.wr (u := .lst (us.set j v)) (o' := .lst (xs.set j d)) g2.wd es fun H' m => ⟨_, rfl, (ru.set j ((rv.im (g1.im w)).im (g2.im g1.wd))).im m⟩
          exact k σ _ δ _ ((g1.trans g2).trans g3) ((sl1.im (g2.im g1.wd)).im (g3.im g2.wd)) q
      · exact q.elim
    | _ => exact False.elim q
  | _ => exact False.elim q
/-- targets in a tuple -/
def dGnil : GsD := fun ds δ S Q => match ds with | [] => Q δ S | _ => False
def dGcons (g : GD) (r : GsD) : GsD := fun ds δ S Q => match ds with | d :: ds => g d δ S fun δ1 S1 => r ds δ1 S1 Q | [] => False
def dGtup (r : GsD) (n : Nat) : GD := fun d δ S Q => match d with | .tup ds => ds.length = n ∧ r ds δ S Q | _ => False
variable {γs : GsD}
theorem gs_nil : Gs X [] dGnil := ⟨_, pgs_nil, fun σ H δ S vs ds w sl r Q R k h => by
  cases ds with
  | nil => exact ⟨r, k σ H δ S (Go.refl w) sl h⟩
  | cons _ _ => exact False.elim h⟩
theorem gs_cons (h1 : G X e γ) (h2 : Gs X es γs) (hs : (assignEach (e :: es) X.env).map (·.2) = assign e X.env :: (assignEach es X.env).map (·.2) := by rfl) : Gs X (e :: es) (dGcons γ γs) := by
  obtain ⟨t, a1, a2⟩ := h1
  obtain ⟨ts, b1, b2⟩ := h2
  refine ⟨_, pgs_cons a1 b1 hs, fun σ H δ S vs ds w sl r Q R k h => ?_⟩
  cases ds with
  | nil => exact False.elim h
  | cons d ds =>
    obtain ⟨v, rr, rfl, rv, rs⟩ := r
    refine ⟨v, rr, rfl, a2 σ H δ S v d w sl rv _ _ (fun σ1 H1 δ1 S1 g1 sl1 q => ?_) h⟩
    exact b2 σ1 H1 δ1 S1 rr ds g1.wd sl1 (rs.im (g1.im w)) Q R (fun σ2 H2 δ2 S2 g2 => k σ2 H2 δ2 S2 (g1.trans g2)) q
theorem g_tup {k : Nat} {n : Nat} (h : Gs X es γs) (hc : X.calm = true := by rfl) (hn : (assignEach es X.env).length = n := by rfl) (hst : (assignEach es X.env).findIdx? (·.1) = none := by rfl) : G X (.Tuple es k pos) (dGtup γs n) := by
  obtain ⟨t, a1, a2⟩ := h
  refine ⟨_, pg_tup hc a1 hn hst, fun σ H δ S v d w sl rv Q R k h => ?_⟩
  cases d with
  | tup ds =>
    obtain ⟨a, vs, rfl, hq, rs⟩ := rv
    exact ⟨a, vs, rfl, hq, by rw [← rs.length]; exact h.1, a2 σ H δ S vs ds w sl rs Q R k h.2⟩
  | _ => exact False.elim h
/-- a, b = e1, e2 with plain local names -/
def dPar (i j : Nat) (l : AD) : SD := fun F δ S => l δ S fun ds S1 => match ds with | [d1, d2] => F.nx ((δ.set i (some d1)).set j (some d2)) S1 | _ => False
theorem s_par (i j : Nat) {x y : Str} {px py pt : Pos} {kt k2 : Nat} {pt2 : Pos} (hN : X.N.Nodup) (ha : A X [a, b] α) (hi : X.N[i]? = some x := by rfl) (hj : X.N[j]? = some y := by rfl) (hij : i ≠ j := by decide)
    (hx : X.env.scope.names.lookup x = some .local := by rfl) (hy : X.env.scope.names.lookup y = some .local := by rfl)
    (hw : swappedStores [.Tuple [.Name x px, .Name y py] kt pt] (.Tuple [a, b] k2 pt2) X.env = pure (some [x, y]) := by rfl) (hc : X.calm = true := by rfl)
    (hs : swapsWithSole [.Tuple [.Name x px, .Name y py] kt pt] (.Tuple [a, b] k2 pt2) pos.line X.env = pure false := by rfl) :
    S1 X (.Assign [.Tuple [.Name x px, .Name y py] kt pt] (.Tuple [a, b] k2 pt2) pos) (dPar i j α) := by
  obtain ⟨t, a1, a2⟩ := ha
  refine ⟨_, ps_par hc hN hi hj hij hx hy a1 hw hs, fun σ H δ S w sl F G hn hr hb hct h => ?_⟩
  refine a2 σ H δ S w sl _ _ (fun vs H1 ds S1 g1 rs q => ?_) h
  rcases ds with _ | ⟨d, _ | ⟨d2, _ | ⟨d3, ds⟩⟩⟩
  · exact False.elim q
  · exact False.elim q
  · obtain ⟨v, r, rfl, rv, u, r2, rfl, ru, rfl⟩ := rs
    exact ⟨v, u, rfl, hn _ H1 _ S1 g1 (((sl.im (g1.im w)).set i rv).set j ru) q⟩
  · exact False.elim q

/-! ### in -/
def flatD : D → Bool
  | .non => true | .bl _ => true | .int _ => true | .str _ => true | _ => false
def eqD : D → D → Bool
  | .non, .non => true
  | .bl a, .bl b => a == b
  | .bl a, .int b => (if a then 1 else 0) == b
  | .int a, .bl b => a == (if b then 1 else 0)
  | .int a, .int b => a == b
  | .str a, .str b => a == b
  | _, _ => false
def inD (x : D) (xs : List D) : Bool := xs.any fun y => eqD y x
theorem flat_rep {K : PySem.W.Frag} {H : Hp} {d : D} {v : V} (r : Rep K H d v) (h : flatD d = true) : flatV v = true := by
  cases d <;> first | (obtain rfl := r; rfl) | cases h
theorem eq_rep {K : PySem.W.Frag} {H : Hp} {d e : D} {v u : V} (r : Rep K H d v) (s : Rep K H e u) (h : flatD d = true) (h' : flatD e = true) : eqV v u = eqD d e := by
  cases d <;> cases h <;> cases e <;> cases h' <;> (obtain rfl := r; obtain rfl := s; try rfl)
  show ((⟨_⟩ : Str) == ⟨_⟩) = _
  rw [Bool.eq_iff_iff]
  simp [str_inj, eqD]
theorem flats_rep {K : PySem.W.Frag} {H : Hp} : ∀ {ds : List D} {vs : List V}, Reps K H ds vs → ds.all flatD = true → vs.all flatV = true
  | [], _, r, _ => by rw [show _ = ([] : List V) from r]; rfl
  | d :: ds, _, r, h => by
    obtain ⟨v, rr, rfl, rv, rs⟩ := r
    rw [List.all_cons, Bool.and_eq_true] at h ⊢
    exact ⟨flat_rep rv h.1, flats_rep rs h.2⟩
theorem in_rep {K : PySem.W.Frag} {H : Hp} {d : D} {v : V} (rv : Rep K H d v) (h : flatD d = true) : ∀ {ds : List D} {vs : List V}, Reps K H ds vs → ds.all flatD = true → inV v vs = inD d ds
  | [], _, r, _ => by rw [show _ = ([] : List V) from r]; rfl
  | e :: ds, _, r, h2 => by
    obtain ⟨u, rr, rfl, ru, rs⟩ := r
    rw [List.all_cons, Bool.and_eq_true] at h2
    show (eqV u v || inV v rr) = (eqD e d || inD d ds)
    rw [eq_rep ru rv h2.1 h, in_rep rv h rs h2.2]
/-- in of a tuple, a list, a text (one sign) -/
def dInS (neg : Bool) (x y : D) (S : Sh) (Q : QD) : Prop := match y with
  | .tup ds => flatD x = true ∧ ds.all flatD = true ∧ Q (.bl (if neg then !inD x ds else inD x ds)) S
  | .frz ds => flatD x = true ∧ ds.all flatD = true ∧ Q (.bl (if neg then !inD x ds else inD x ds)) S
  | .rf p => (match S p with | some (.lst ds) => flatD x = true ∧ ds.all flatD = true ∧ Q (.bl (if neg then !inD x ds else inD x ds)) S | _ => False)
  | .str s => (match x with | .str [c] => Q (.bl (if neg then !decide (c ∈ s) else decide (c ∈ s))) S | _ => False)
  | _ => False
def dIn : R2D := dInS false
def dNotIn : R2D := dInS true
theorem in_ok {K : PySem.W.Frag} {H : Hp} {S : Sh} {neg : Bool} {dx dy : D} {x y : V} {Q : QD} {R : VK} (w : Wd K H S) (rx : Rep K H dx x) (ry : Rep K H dy y) (k : ∀ v H' d S', Go K S H S' H' → Rep K H' d v → Q d S' → R v H') (q : dInS neg dx dy S Q) :
    rIn K neg x y H R ∨ (∃ (c : Nat) (z : Str), x = .str ⟨#[c]⟩ ∧ y = .str z ∧ R (.bl (if neg then !decide (c ∈ z.cps.toList) else decide (c ∈ z.cps.toList))) H) := by
  have fin : ∀ {p : Addr} {vs : List V} {ds : List D}, (SqL K H p vs ∨ SqT K H p vs) → Reps K H ds vs → flatD dx = true ∧ ds.all flatD = true ∧ Q (.bl (if neg then !inD dx ds else inD dx ds)) S → rIn K neg x (.ref p) H R := fun {p vs ds} hq rs ⟨h1, h2, q⟩ =>
    ⟨p, vs, rfl, hq, flat_rep rx h1, flats_rep rs h2, by rw [in_rep rx h1 rs h2]; exact k _ H (.bl _) S (Go.refl w) rfl q⟩
  cases dy with
  | tup ds =>
    obtain ⟨p, vs, rfl, hq, rs⟩ := ry
    exact .inl (fin (.inr hq) rs q)
  | frz ds =>
    obtain ⟨p, vs, rfl, hq, rs⟩ := ry
    exact .inl (fin (.inl hq.l) rs q)
  | rf p =>
    obtain rfl := ry
    simp only [dInS] at q
    split at q
    · rename_i ds es
      obtain ⟨ho, e0, vs, rfl, rs⟩ := w _ _ es
      exact .inl (fin (.inl (SqL.of e0)) rs q)
    · exact q.elim
  | str s =>
    obtain rfl := ry
    simp only [dInS] at q
    split at q
    · rename_i c
      obtain rfl := rx
      exact .inr ⟨c, _, rfl, rfl, k _ H (.bl _) S (Go.refl w) rfl q⟩
    · exact q.elim
  | _ => exact False.elim q
theorem o_in : O X (compareOp .In) dIn := by
  refine ⟨_, op_in_seq.or op_in_sign, fun H S x y dx dy w rx ry Q R k q => ?_⟩
  rcases in_ok w rx ry k q with h | ⟨c, z, e1, e2, h⟩
  · exact .inl h
  · exact .inr ⟨c, z, e1, e2, h⟩
theorem o_notIn : O X (compareOp .NotIn) dNotIn := by
  refine ⟨_, op_notIn_seq.or op_notIn_sign, fun H S x y dx dy w rx ry Q R k q => ?_⟩
  rcases in_ok w rx ry k q with h | ⟨c, z, e1, e2, h⟩
  · exact .inl h
  · exact .inr ⟨c, z, e1, e2, h⟩
end
end DL

set_option Elab.async false
set_option linter.all false
set_option maxRecDepth 100000
namespace DL
open PySem PySem.Spec L2 PyProof.Rows
section
variable {X : Cx} {a b c e o value : Expr} {es : List Expr} {pos p2 p q apos cpos pos' : Pos} {τ τa τb τc τv : ED} {α ν ν' : AD} {ι : ID} {γ : GD} {κ : TD} {ξ : SD} {tg iter : Expr} {x f m : Str} {C : Addr}

/-! ### a text some times -/
theorem foldl_rep (s : Array Nat) : ∀ (k : Nat) (acc : Array Nat), (List.replicate k s).foldl (· ++ ·) acc = acc ++ (List.replicate k s.toList).flatten.toArray
  | 0, acc => by simp
  | k + 1, acc => by
    rw [List.replicate_succ, List.foldl_cons, foldl_rep s k, List.replicate_succ, List.flatten_cons]
    apply Array.ext'
    simp
def repS (s : List Nat) (n : Int) : List Nat := (List.replicate n.toNat s).flatten
def rMulS : R2 := fun x y H Q => ∃ z n, x = .str z ∧ y = .int n ∧ -(2 ^ 63) ≤ n ∧ n < 2 ^ 63 ∧ z.length * n.toNat ≤ 16777216 ∧ Q (.str ⟨(repS z.cps.toList n).toArray⟩) H
theorem op_mulS : OpR X (binaryOp .Mult) rMulS := by
  intro pins s σ H x y v u Q I rx ry h
  obtain ⟨z, n, rfl, rfl, h1, h2, h3, h⟩ := h
  obtain ⟨t, rfl⟩ := rx
  obtain ⟨t', rfl⟩ := ry
  refine PySem.P.mul_str ?_ (fun hn hz => ?_) (fun hn hz => ?_) ?_
  · have e1 : ¬ n < -(2 ^ 63 : Int) := by omega
    have e2 : ¬ n ≥ 2 ^ 63 := by omega
    rw [decide_eq_false e1, decide_eq_false e2]; rfl
  · intro hh
    obtain ⟨m, rfl⟩ := Int.eq_ofNat_of_zero_le (show 0 ≤ n by omega)
    have h3' : z.length * m ≤ 16777216 := h3
    have e : ((z.length : Int) * (m : Int)) ≤ 16777216 := by
      have := Int.ofNat_le.mpr h3'
      rw [Int.natCast_mul] at this
      exact this
    have hp : (0 : Int) < (m : Int) := by omega
    have h4 := (Int.le_ediv_iff_mul_le hp (a := (z.length : Int)) (b := 2 ^ 63 - 1)).mpr (Int.le_trans e (by decide))
    exact absurd hh (Int.not_lt.mpr h4)
  · show decide (_ > sizeLine) = false
    exact decide_eq_false (by rw [sizeLine_eq]; omega)
  · have fin : ∀ {z' : Str} {t : Tok} {k : Nat}, z' = ⟨(repS z.cps.toList n).toArray⟩ → EP X pins σ Q (.str z' t) { s with toks := k } := fun {z' t k} e => by
      subst e
      exact ⟨.str _, H, I.tok _, ⟨t, rfl⟩, h⟩
    by_cases c1 : n < 1
    · rw [if_pos c1]
      refine ⟨by decide, fin ?_⟩
      have : n.toNat = 0 := by omega
      unfold repS; rw [this]; rfl
    · rw [if_neg c1]
      by_cases c2 : (n == 1 || z.length == 0) = true
      · rw [if_pos c2]
        refine fin (k := s.toks) ?_
        rw [Bool.or_eq_true] at c2
        rcases c2 with c2 | c2
        · have : n = 1 := by simpa using c2
          subst this
          simp [repS]
        · have hz : z.cps.size = 0 := by simpa [Str.length] using c2
          have hz' : z.cps = #[] := Array.eq_empty_of_size_eq_zero hz
          cases z
          simp only at hz'
          subst hz'
          simp [repS]
      · rw [if_neg c2]
        have e : (⟨(List.replicate n.toNat z.cps).foldl (· ++ ·) #[]⟩ : Str) = ⟨(repS z.cps.toList n).toArray⟩ := by
          rw [foldl_rep]
          simp [repS]
        refine ⟨?_, fin e⟩
        rw [e, str_len]
        unfold repS
        rw [List.length_flatten, List.map_replicate, List.sum_replicate_nat, sizeLine_eq]
        have : z.cps.toList.length = z.length := by simp [Str.length]
        rw [this, Nat.mul_comm]
        omega
def dMulS : R2D := fun x y S Q => match x, y with
  | .str s, .int n => -(2 ^ 63) ≤ n ∧ n < 2 ^ 63 ∧ s.length * n.toNat ≤ 16777216 ∧ Q (.str (repS s n)) S
  | _, _ => False
theorem o_mulS : O X (binaryOp .Mult) dMulS := by
  refine ⟨_, op_mulS, fun H S x y dx dy w rx ry Q R k q => ?_⟩
  cases dx <;> cases dy <;> first | exact False.elim q | skip
  rename_i s n
  obtain rfl := rx
  obtain rfl := ry
  exact ⟨_, n, rfl, rfl, q.1, q.2.1, by rw [str_len]; exact q.2.2.1, k _ H (.str (repS s n)) S (Go.refl w) rfl q.2.2.2⟩

/-! ### lists on the spot: +, ==, in -/
def dCatL (l r : AD) : AD := fun δ S Q => l δ S fun xs S1 => r δ S1 fun ys S2 => xs.length + ys.length ≤ sizeLine ∧ Q (xs ++ ys) S2
/-- a list whose contents stand still while the right side is reckoned: new, or by a check -/
def dCatE (a : ED) (r : AD) : AD := fun δ S Q => a δ S fun x S1 => r δ S1 fun ys S2 => match x with
  | .rf p => (match S2 p with | some (.lst xs) => xs.length + ys.length ≤ sizeLine ∧ Q (xs ++ ys) S2 | _ => False)
  | _ => False
theorem cat_fin {K : PySem.W.Frag} {H : Hp} {S : Sh} {l b : Addr} {vs us : List V} {xs ys : List D} {Q : List D → Sh → Prop} {R : VK} (w : Wd K H S) (hl : H l = some (.lst vs)) (hb : H b = some (.lst us)) (r1 : Reps K H xs vs) (r2 : Reps K H ys us)
    (k : ∀ a H' vs ds S', Go K S H S' H' → H a = none → H' a = some (.lst vs) → S' a = none → Reps K H' ds vs → Q ds S' → R (.ref a) H') (q : xs.length + ys.length ≤ sizeLine ∧ Q (xs ++ ys) S) : rCat (.ref l) (.ref b) H R :=
  ⟨l, b, vs, us, rfl, rfl, hl, hb, by rw [← r1.length, ← r2.length]; exact q.1, fun p hp => by
    have g := Go.new (u := .lst (vs ++ us)) w hp
    exact k p _ _ (xs ++ ys) S g hp upd_same (w.free hp) ((r1.append r2).im (g.im w)) q.2⟩
theorem n_cat (ha : N X a ν) (hb : N X b ν') : N X (.BinOp a .Add b pos) (dCatL ν ν') := by
  obtain ⟨ta, a1, a2⟩ := ha
  obtain ⟨tb, b1, b2⟩ := hb
  refine ⟨_, pe_op op_cat a1 b1, fun σ H δ S w sl Q R k h => ?_⟩
  refine a2 σ H δ S w sl _ _ (fun p H1 vs ds S1 g1 h0 hp hs rs q => ?_) h
  refine b2 σ H1 δ S1 g1.wd (sl.im (g1.im w)) _ _ (fun p2 H2 us es S2 g2 h02 hp2 hs2 rs2 q2 => ?_) q
  exact cat_fin g2.wd (g2.ext p _ hp hs) hp2 (rs.im (g2.im g1.wd)) rs2 (fun a' H3 vs' ds' S3 g3 h3 => k a' H3 vs' ds' S3 ((g1.trans g2).trans g3) ((g1.trans g2).th _ h3)) q2
theorem n_catE (ha : E X a τ) (hb : N X b ν') : N X (.BinOp a .Add b pos) (dCatE τ ν') := by
  obtain ⟨ta, a1, a2⟩ := ha
  obtain ⟨tb, b1, b2⟩ := hb
  refine ⟨_, pe_op op_cat a1 b1, fun σ H δ S w sl Q R k h => ?_⟩
  refine a2 σ H δ S w sl _ _ (fun v H1 d S1 g1 rv q => ?_) h
  refine b2 σ H1 δ S1 g1.wd (sl.im (g1.im w)) _ _ (fun p2 H2 us es S2 g2 h02 hp2 hs2 rs2 q2 => ?_) q
  cases d with
  | rf p =>
    obtain rfl := rv
    simp only at q2
    split at q2
    · rename_i xs es2
      obtain ⟨ho, e0, vs, rfl, rs⟩ := g2.wd _ _ es2
      exact cat_fin g2.wd e0 hp2 rs rs2 (fun a' H3 vs' ds' S3 g3 h3 => k a' H3 vs' ds' S3 ((g1.trans g2).trans g3) ((g1.trans g2).th _ h3)) q2
    · exact q2.elim
  | _ => exact False.elim q2
def dCatR (l : AD) (b : ED) : AD := fun δ S Q => l δ S fun xs S1 => b δ S1 fun y S2 => match y with
  | .rf p => (match S2 p with | some (.lst ys) => xs.length + ys.length ≤ sizeLine ∧ Q (xs ++ ys) S2 | _ => False)
  | _ => False
theorem n_catR (ha : N X a ν) (hb : E X b τ) : N X (.BinOp a .Add b pos) (dCatR ν τ) := by
  obtain ⟨ta, a1, a2⟩ := ha
  obtain ⟨tb, b1, b2⟩ := hb
  refine ⟨_, pe_op op_cat a1 b1, fun σ H δ S w sl Q R k h => ?_⟩
  refine a2 σ H δ S w sl _ _ (fun p H1 vs ds S1 g1 h0 hp hs rs q => ?_) h
  refine b2 σ H1 δ S1 g1.wd (sl.im (g1.im w)) _ _ (fun v H2 d S2 g2 rv q2 => ?_) q
  cases d with
  | rf p2 =>
    obtain rfl := rv
    simp only at q2
    split at q2
    · rename_i ys es2
      obtain ⟨ho, e0, us, rfl, rs2⟩ := g2.wd _ _ es2
      exact cat_fin g2.wd (g2.ext p _ hp hs) e0 (rs.im (g2.im g1.wd)) rs2 (fun a' H3 vs' ds' S3 g3 h3 => k a' H3 vs' ds' S3 ((g1.trans g2).trans g3) ((g1.trans g2).th _ h3)) q2
    · exact q2.elim
  | _ => exact False.elim q2
def dCatEE (a b : ED) : AD := fun δ S Q => a δ S fun x S1 => b δ S1 fun y S2 => match x, y with
  | .rf p, .rf q => (match S2 p, S2 q with | some (.lst xs), some (.lst ys) => xs.length + ys.length ≤ sizeLine ∧ Q (xs ++ ys) S2 | _, _ => False)
  | _, _ => False
theorem n_catEE (ha : E X a τa) (hb : E X b τb) : N X (.BinOp a .Add b pos) (dCatEE τa τb) := by
  obtain ⟨ta, a1, a2⟩ := ha
  obtain ⟨tb, b1, b2⟩ := hb
  refine ⟨_, pe_op op_cat a1 b1, fun σ H δ S w sl Q R k h => ?_⟩
  refine a2 σ H δ S w sl _ _ (fun v H1 d S1 g1 rv q => ?_) h
  refine b2 σ H1 δ S1 g1.wd (sl.im (g1.im w)) _ _ (fun u H2 d2 S2 g2 ru q2 => ?_) q
  cases d with
  | rf p =>
    cases d2 with
    | rf p2 =>
      obtain rfl := rv
      obtain rfl := ru
      simp only at q2
      split at q2
      · rename_i xs ys e1 e2
        obtain ⟨ho, e0, vs, rfl, rs⟩ := g2.wd _ _ e1
        obtain ⟨ho2, e02, us, rfl, rs2⟩ := g2.wd _ _ e2
        exact cat_fin g2.wd e0 e02 rs rs2 (fun a' H3 vs' ds' S3 g3 h3 => k a' H3 vs' ds' S3 ((g1.trans g2).trans g3) ((g1.trans g2).th _ h3)) q2
      · exact q2.elim
    | _ => exact False.elim q2
  | _ => exact False.elim q2
/-- *e among the items -/
def dStar (a : ED) (r : AD) : AD := fun δ S Q => a δ S fun x S1 => match x with
  | .tup xs => r δ S1 fun ys S2 => Q (xs ++ ys) S2
  | _ => False
theorem a_star (ha : E X e τ) (hr : A X es α) (hs : starEach (.Starred e p :: es) X.env = (true, eval e X.env) :: starEach es X.env := by rfl) : A X (.Starred e p :: es) (dStar τ α) := by
  obtain ⟨t, a1, a2⟩ := ha
  obtain ⟨tr, b1, b2⟩ := hr
  refine ⟨_, pa_star a1 b1 hs, fun σ H δ S w sl Q R k h => ?_⟩
  refine a2 σ H δ S w sl _ _ (fun v H1 d S1 g1 rv q => ?_) h
  cases d with
  | tup xs =>
    obtain ⟨pp, vs, rfl, hq, rs⟩ := rv
    refine ⟨pp, vs, rfl, .inl hq, ?_⟩
    refine b2 σ H1 δ S1 g1.wd (sl.im (g1.im w)) _ _ (fun us H2 ys S2 g2 rs2 q2 => ?_) q
    exact k _ H2 (xs ++ ys) S2 (g1.trans g2) ((rs.im (g2.im g1.wd)).append rs2) q2
  | _ => exact False.elim q

/-! ### == of deep data, of lists on the spot -/
mutual
def toPy : D → Option PyData
  | .non => some .none
  | .bl b => some (.bool b)
  | .int i => some (.int i)
  | .str s => some (.str ⟨s.toArray⟩)
  | .tup ds => (toPys ds).map .tuple
  | _ => none
def toPys : List D → Option (List PyData)
  | [] => some []
  | d :: ds => match toPy d, toPys ds with | some x, some xs => some (x :: xs) | _, _ => none
end
mutual
theorem toPy_dp {K : PySem.W.Frag} {H : Hp} : ∀ {d : D} {v : V} {x : PyData}, Rep K H d v → toPy d = some x → Dp K H v x
  | .non, _, _, r, h => by obtain rfl := r; cases h; exact .non
  | .bl b, _, _, r, h => by obtain rfl := r; cases h; exact .bl b
  | .int i, _, _, r, h => by obtain rfl := r; cases h; exact .int i
  | .str s, _, _, r, h => by obtain rfl := r; cases h; exact .str _
  | .tup ds, v, x, r, h => by
    obtain ⟨a, vs, rfl, hq, rs⟩ := r
    unfold toPy at h
    cases e : toPys ds with
    | none => rw [e] at h; cases h
    | some xs =>
      rw [e] at h
      cases h
      exact .tup hq (toPys_dp rs e)
  | .ty _, _, _, _, h => by cases h
  | .frz _, _, _, _, h => by cases h
  | .rf _, _, _, _, h => by cases h
  | .kst _ _, _, _, _, h => by cases h
theorem toPys_dp {K : PySem.W.Frag} {H : Hp} : ∀ {ds : List D} {vs : List V} {xs : List PyData}, Reps K H ds vs → toPys ds = some xs → DpAll K H vs xs
  | [], _, _, r, h => by rw [show _ = ([] : List V) from r]; cases h; exact .nil
  | d :: ds, _, _, r, h => by
    obtain ⟨v, rr, rfl, rv, rs⟩ := r
    unfold toPys at h
    cases e1 : toPy d with
    | none => rw [e1] at h; cases h
    | some x =>
      cases e2 : toPys ds with
      | none => rw [e1, e2] at h; cases h
      | some xs =>
        rw [e1, e2] at h
        cases h
        exact .cons (toPy_dp rv e1) (toPys_dp rs e2)
end
/-- == by the data's own equality -/
def dEqP (neg : Bool) (x y : Option PyData) (S : Sh) (Q : QD) : Prop := match x, y with
  | some d, some e => SeqAt.shaped d = true ∧ SeqAt.shaped e = true ∧ Q (.bl (if neg then !PyData.eqv d e else PyData.eqv d e)) S
  | _, _ => False
def dEqT : R2D := fun x y S Q => dEqP false (toPy x) (toPy y) S Q
def dNeT : R2D := fun x y S Q => dEqP true (toPy x) (toPy y) S Q
theorem o_eqT (hu : X.A.units + 64 < cLine) : O X (compareOp .Eq) dEqT := by
  refine ⟨_, op_eqD hu, fun H S x y dx dy w rx ry Q R k q => ?_⟩
  unfold dEqT dEqP at q
  split at q
  · rename_i d e e1 e2
    exact ⟨d, e, toPy_dp rx e1, toPy_dp ry e2, q.1, q.2.1, k _ H (.bl _) S (Go.refl w) rfl q.2.2⟩
  · exact q.elim
theorem o_neT (hu : X.A.units + 64 < cLine) : O X (compareOp .NotEq) dNeT := by
  refine ⟨_, op_neD hu, fun H S x y dx dy w rx ry Q R k q => ?_⟩
  unfold dNeT dEqP at q
  split at q
  · rename_i d e e1 e2
    exact ⟨d, e, toPy_dp rx e1, toPy_dp ry e2, q.1, q.2.1, k _ H (.bl _) S (Go.refl w) rfl q.2.2⟩
  · exact q.elim
def dEqL (neg : Bool) (l r : AD) : ED := fun δ S Q => l δ S fun xs S1 => r δ S1 fun ys S2 => dEqP neg ((toPys xs).map .list) ((toPys ys).map .list) S2 Q
/-- == of two lists, the left one new -/
theorem eq_l {op : CmpOp} {neg : Bool} {r : R2} (ho : OpR X (compareOp op) r) (hr : ∀ x y H Q, (∃ d e, Dp X.K H x d ∧ Dp X.K H y e ∧ SeqAt.shaped d = true ∧ SeqAt.shaped e = true ∧ Q (.bl (if neg then !PyData.eqv d e else PyData.eqv d e)) H) → r x y H Q)
    (ha : N X a ν) (hb : L X b ν') (hm : behindInMarks op b = false) : E X (.Compare a [op] [b] pos) (dEqL neg ν ν') ∧ T X (.Compare a [op] [b] pos) (dTB (dEqL neg ν ν')) := by
  obtain ⟨ta, a1, a2⟩ := ha
  obtain ⟨tb, b1, b2⟩ := hb
  suffices sim : SimE X.K (tOp r ta tb) (dEqL neg ν ν') by
    refine ⟨⟨_, pe_cmpR ho a1 b1 hm, sim⟩, ⟨_, pt_cmpR ho a1 b1 hm, fun σ H δ S w sl Q R k h => ?_⟩⟩
    refine sim σ H δ S w sl _ _ (fun v H' d S' g r' q => ?_) h
    cases d <;> first | exact False.elim q | skip
    exact ⟨_, r', k _ H' S' g q⟩
  intro σ H δ S w sl Q R k h
  refine a2 σ H δ S w sl _ _ (fun p H1 vs ds S1 g1 h0 hp hs rs q => ?_) h
  refine b2 σ H1 δ S1 g1.wd (sl.im (g1.im w)) _ _ (fun p2 H2 us es S2 g2 hq rs2 q2 => ?_) q
  unfold dEqP at q2
  split at q2
  · rename_i d e e1 e2
    cases f1 : toPys ds with
    | none => rw [f1] at e1; cases e1
    | some xs =>
      cases f2 : toPys es with
      | none => rw [f2] at e2; cases e2
      | some ys =>
        rw [f1] at e1
        rw [f2] at e2
        cases e1
        cases e2
        exact hr _ _ _ _ ⟨.list xs, .list ys, .lst (SqL.of (g2.ext p _ hp hs)) (toPys_dp (rs.im (g2.im g1.wd)) f1), .lst hq (toPys_dp rs2 f2), q2.1, q2.2.1, k _ H2 (.bl _) S2 (g1.trans g2) rfl q2.2.2⟩
  · exact q2.elim
theorem e_eqL (hu : X.A.units + 64 < cLine) (ha : N X a ν) (hb : L X b ν') (hm : behindInMarks .Eq b = false := by exact nomark _) : E X (.Compare a [.Eq] [b] pos) (dEqL false ν ν') := (eq_l (neg := false) (op_eqD hu) (fun _ _ _ _ h => h) ha hb hm).1
theorem t_eqL (hu : X.A.units + 64 < cLine) (ha : N X a ν) (hb : L X b ν') (hm : behindInMarks .Eq b = false := by exact nomark _) : T X (.Compare a [.Eq] [b] pos) (dTB (dEqL false ν ν')) := (eq_l (neg := false) (op_eqD hu) (fun _ _ _ _ h => h) ha hb hm).2
theorem e_neL (hu : X.A.units + 64 < cLine) (ha : N X a ν) (hb : L X b ν') (hm : behindInMarks .NotEq b = false := by exact nomark _) : E X (.Compare a [.NotEq] [b] pos) (dEqL true ν ν') := (eq_l (neg := true) (op_neD hu) (fun _ _ _ _ h => h) ha hb hm).1
theorem t_neL (hu : X.A.units + 64 < cLine) (ha : N X a ν) (hb : L X b ν') (hm : behindInMarks .NotEq b = false := by exact nomark _) : T X (.Compare a [.NotEq] [b] pos) (dTB (dEqL true ν ν')) := (eq_l (neg := true) (op_neD hu) (fun _ _ _ _ h => h) ha hb hm).2

/-! ### own classes -/
def putFD (f : Str) (v : D) : List (Str × D) → List (Str × D)
  | [] => [(f, v)]
  | (g, u) :: r => if g = f then (g, v) :: r else (g, u) :: putFD f v r
theorem RepF.lookup {K : PySem.W.Frag} {H : Hp} {f : Str} : ∀ {ds : List (Str × D)} {fs : List (Str × V)} {d : D}, RepF K H ds fs → ds.lookup f = some d → ∃ v, fs.lookup f = some v ∧ Rep K H d v
  | [], _, _, _, h => by cases h
  | (g, e) :: ds, _, d, r, h => by
    obtain ⟨v, rr, rfl, rv, rs⟩ := r
    rw [List.lookup_cons] at h
    rw [List.lookup_cons]
    cases z : f == g with
    | true => rw [z] at h; cases h; exact ⟨v, rfl, rv⟩
    | false => rw [z] at h; exact RepF.lookup rs h
theorem RepF.none {K : PySem.W.Frag} {H : Hp} {f : Str} : ∀ {ds : List (Str × D)} {fs : List (Str × V)}, RepF K H ds fs → ds.lookup f = none → fs.lookup f = none
  | [], _, r, _ => by rw [show _ = ([] : List (Str × V)) from r]; rfl
  | (g, e) :: ds, _, r, h => by
    obtain ⟨v, rr, rfl, rv, rs⟩ := r
    rw [List.lookup_cons] at h
    rw [List.lookup_cons]
    cases z : f == g with
    | true => rw [z] at h; cases h
    | false => rw [z] at h; exact RepF.none rs h
theorem RepF.put {K : PySem.W.Frag} {H : Hp} {f : Str} {d : D} {v : V} (rv : Rep K H d v) : ∀ {ds : List (Str × D)} {fs : List (Str × V)}, RepF K H ds fs → RepF K H (putFD f d ds) (putF f v fs)
  | [], _, r => by rw [show _ = ([] : List (Str × V)) from r]; exact ⟨v, [], rfl, rv, rfl⟩
  | (g, e) :: ds, _, r => by
    obtain ⟨u, rr, rfl, ru, rs⟩ := r
    by_cases z : g = f
    · have e1 : putF f v ((g, u) :: rr) = (g, v) :: rr := by rw [putF, if_pos z]
      unfold putFD
      rw [if_pos z, e1]
      exact ⟨v, rr, rfl, rv, rs⟩
    · have e1 : putF f v ((g, u) :: rr) = (g, u) :: putF f v rr := by rw [putF, if_neg z]
      unfold putFD
      rw [if_neg z, e1]
      exact ⟨u, _, rfl, ru, RepF.put rv rs⟩
theorem RepF.length {K : PySem.W.Frag} {H : Hp} : ∀ {ds : List (Str × D)} {fs : List (Str × V)}, RepF K H ds fs → ds.length = fs.length
  | [], _, r => by rw [show _ = ([] : List (Str × V)) from r]; rfl
  | (g, e) :: ds, _, r => by
    obtain ⟨u, rr, rfl, ru, rs⟩ := r
    rw [List.length_cons, List.length_cons, RepF.length rs]
def dFld (C : Addr) (a : ED) (f : Str) : ED := fun δ S Q => a δ S fun x S1 => match x with
  | .rf p => ∃ fs d, S1 p = some (.ins C fs) ∧ fs.lookup f = some d ∧ Q d S1
  | _ => False
theorem e_fld (hc : Cls X.K C) (hn : NoAttr X.K C f) (he : E X e τ) (hb : attributeBase e f X.env (eval e X.env) = eval e X.env := by rfl) : E X (.Attribute e f pos) (dFld C τ f) := by
  obtain ⟨t, a1, a2⟩ := he
  refine ⟨_, pe_fld a1 hb, fun σ H δ S w sl Q R k h => ?_⟩
  refine a2 σ H δ S w sl _ _ (fun v H1 d S1 g1 rv q => ?_) h
  cases d with
  | rf p =>
    obtain rfl := rv
    obtain ⟨fs, d, es, el, q⟩ := q
    obtain ⟨ho, e0, dx, us, rfl, rs⟩ := g1.wd _ _ es
    obtain ⟨v, e1, r1⟩ := rs.lookup el
    exact ⟨p, C, dx, us, v, rfl, e0, hc, hn, e1, k v H1 d S1 g1 r1 q⟩
  | _ => exact False.elim q
def dSetF (C : Addr) (a v : ED) (f : Str) : SD := fun F δ S => v δ S fun y S1 => a δ S1 fun x S2 => match x with
  | .rf p => ∃ fs, S2 p = some (.ins C fs) ∧ fs.length < 1000 ∧ F.nx δ (su S2 p (.ins C (putFD f y fs)))
  | _ => False
theorem s_fld (hc : Cls X.K C) (hn : NoAttr X.K C f) (ha : E X o τ) (hv : E X value τv) (hs : swapsWith value (some (.Attribute o f pos')) pos.line X.env = pure false := by rfl) : S1 X (.Assign [.Attribute o f pos'] value pos) (dSetF C τ τv f) := by
  obtain ⟨t, a1, a2⟩ := ha
  obtain ⟨tv, b1, b2⟩ := hv
  refine ⟨_, ps_fld a1 b1 hs, fun σ H δ S w sl F G hnx hr hb hct h => ?_⟩
  refine b2 σ H δ S w sl _ _ (fun y H1 dy S1 g1 ry q => ?_) h
  have sl1 := sl.im (g1.im w)
  refine a2 σ H1 δ S1 g1.wd sl1 _ _ (fun v H2 d S2 g2 rv q => ?_) q
  cases d with
  | rf p =>
    obtain rfl := rv
    obtain ⟨fs, es, el, q⟩ := q
    obtain ⟨ho, e0, dx, us, rfl, rs⟩ := g2.wd _ _ es
    refine ⟨p, C, dx, us, rfl, e0, hc, hn, by rw [← rs.length]; exact el, ?_⟩
    have g3 := Go.wr (u := .ins C dx (putF f y us)) (o' := .ins C (putFD f dy fs)) g2.wd es fun H' m => ⟨dx, _, rfl, (rs.put (ry.im (g2.im g1.wd))).im m⟩
    exact hnx σ _ δ _ ((g1.trans g2).trans g3) ((sl1.im (g2.im g1.wd)).im (g3.im g2.wd)) q
  | _ => exact False.elim q
def dMeth (C : Addr) (m : Str) (n : Nat) (sp : SpD) (a : ED) (l : AD) : ED := fun δ S Q => a δ S fun x S1 => match x with
  | .rf p => ∃ fs, S1 p = some (.ins C fs) ∧ fs.lookup m = none ∧ l δ S1 fun ds S2 => (x :: ds).length = n ∧ sp (x :: ds) S2 Q
  | _ => False
variable {k n : Nat} {g : Addr} {fd : FuncData} {ps : List Str} {sp : SpD}
theorem e_meth {pl : Sem Bool} (c : Cls X.K C) (hm : Meth X.K C m g) (F : FnOk X.prog X.w X.K X.mg X.base CX0 k g fd ps (lift X.K n sp)) (hr : Room k X.A) (hb : Binds X.K fd ps []) (he : E X o τ) (ha : A X (e :: es) α)
    (hst : starEach (e :: es) X.env = (false, eval e X.env) :: starEach es X.env := by rfl) (hpl : (backTo pos (starEach es X.env)).any (·.1) = false := by rfl)
    (ht : eval (.Call (.Attribute o m apos) (e :: es) [] pos) X.env = (do
      let ov ← eval o X.env
      standAt apos.atName
      let (f, first) ← holding [ov] (getMethod ov m pl)
      callWith pos f first (backTo pos (starEach (e :: es) X.env)) (backToKw pos (keywordEach [] X.env))) := by rfl) :
    E X (.Call (.Attribute o m apos) (e :: es) [] pos) (dMeth C m n sp τ α) := by
  obtain ⟨t, a1, a2⟩ := he
  obtain ⟨ta, b1, b2⟩ := ha
  refine ⟨_, pe_meth a1 c hm F hr hb .nil pass0 b1 hst hpl ht, fun σ H δ S w sl Q R k h => ?_⟩
  refine a2 σ H δ S w sl _ _ (fun v H1 d S1 g1 rv q => ?_) h
  cases d with
  | rf p =>
    obtain rfl := rv
    obtain ⟨fs, es2, el, q⟩ := q
    obtain ⟨ho, e0, dx, us, rfl, rs⟩ := g1.wd _ _ es2
    refine ⟨p, dx, us, rfl, e0, rs.none el, ?_⟩
    refine b2 σ H1 δ S1 g1.wd (sl.im (g1.im w)) _ _ (fun vs H2 ds S2 g2 rs2 q2 => ?_) q
    refine ⟨S2, .rf p :: ds, g2.wd, ⟨_, _, rfl, rfl, ?_⟩, q2.1, Q, fun v H3 d S3 g3 r3 q3 => k v H3 d S3 ((g1.trans g2).trans g3) r3 q3, q2.2⟩
    rw [List.append_nil]
    exact rs2
  | _ => exact False.elim q
theorem e_meth0 {pl : Sem Bool} (c : Cls X.K C) (hm : Meth X.K C m g) (F : FnOk X.prog X.w X.K X.mg X.base CX0 k g fd ps (lift X.K n sp)) (hr : Room k X.A) (hb : Binds X.K fd ps []) (he : E X o τ)
    (ht : eval (.Call (.Attribute o m apos) [] [] pos) X.env = (do
      let ov ← eval o X.env
      standAt apos.atName
      let (f, first) ← holding [ov] (getMethod ov m pl)
      callWith pos f first (backTo pos (starEach [] X.env)) (backToKw pos (keywordEach [] X.env))) := by rfl) :
    E X (.Call (.Attribute o m apos) [] [] pos) (dMeth C m n sp τ dNil) := by
  obtain ⟨t, a1, a2⟩ := he
  refine ⟨_, pe_meth0 a1 c hm F hr hb .nil pass0 ht, fun σ H δ S w sl Q R k h => ?_⟩
  refine a2 σ H δ S w sl _ _ (fun v H1 d S1 g1 rv q => ?_) h
  cases d with
  | rf p =>
    obtain rfl := rv
    obtain ⟨fs, es2, el, q⟩ := q
    obtain ⟨ho, e0, dx, us, rfl, rs⟩ := g1.wd _ _ es2
    exact ⟨p, dx, us, rfl, e0, rs.none el, S1, [.rf p], g1.wd, ⟨_, _, rfl, rfl, rfl⟩, q.1, Q, fun v H3 d S3 g3 r3 q3 => k v H3 d S3 (g1.trans g3) r3 q3, q.2⟩
  | _ => exact False.elim q
def dMake (C : Addr) (n : Nat) (sp : SpD) (l : AD) : ED := fun δ S Q => l δ S fun ds S1 => ∀ p, S1 p = none → ds.length + 1 = n ∧ sp (.rf p :: ds) (su S1 p (.ins C [])) fun d S2 => (match d with | .non => Q (.rf p) S2 | _ => False)
theorem e_make {p : Pos} (M : Mk X.K C g) (F : FnOk X.prog X.w X.K X.mg X.base CX0 k g fd ps (lift X.K n sp)) (hr : Room (k + 1) X.A) (hm : X.mg x = some (.ref C)) (hb : Binds X.K fd ps []) (ha : A X (e :: es) α)
    (hg : Gl X x := by rfl) (hdb : (x == ("__debug__" : Str)) = false := by decide) (he : starEach (e :: es) X.env = (false, eval e X.env) :: starEach es X.env := by rfl) (hpl : (backTo pos (starEach es X.env)).any (·.1) = false := by rfl) :
    E X (.Call (.Name x p) (e :: es) [] pos) (dMake C n sp α) := by
  obtain ⟨ta, b1, b2⟩ := ha
  refine ⟨_, pe_make M F hr hg hm hb .nil pass0 b1 hdb he hpl, fun σ H δ S w sl Q R k h => ?_⟩
  refine b2 σ H δ S w sl _ _ (fun vs H1 ds S1 g1 rs q => ?_) h
  intro y dx hy hdx hne
  have hS := g1.wd.free hy
  obtain ⟨q1, q2⟩ := q y hS
  have ga := Go.new (u := .own y) g1.wd hdx
  have hy2 : upd H1 dx (.own y) y = none := by rw [upd_ne (fun z => hne z.symm)]; exact hy
  have gb := Go.newS (u := .ins C dx []) (o := .ins C []) ga.wd hy2 ⟨dx, [], rfl, rfl⟩
  have gab := ga.trans gb
  refine ⟨_, .rf y :: ds, gb.wd, ⟨_, _, rfl, rfl, ?_⟩, q1, _, fun v H3 d S3 g3 r3 q3 => ?_, q2⟩
  · rw [List.append_nil]
    exact rs.im (gab.im g1.wd)
  · cases d with
    | non => exact ⟨r3, k _ H3 (.rf y) S3 ((g1.trans gab).trans g3) rfl q3⟩
    | _ => exact False.elim q3
theorem e_make0 {p : Pos} (M : Mk X.K C g) (F : FnOk X.prog X.w X.K X.mg X.base CX0 k g fd ps (lift X.K n sp)) (hr : Room (k + 1) X.A) (hm : X.mg x = some (.ref C)) (hb : Binds X.K fd ps [])
    (hg : Gl X x := by rfl) (hdb : (x == ("__debug__" : Str)) = false := by decide) : E X (.Call (.Name x p) [] [] pos) (dMake C n sp dNil) := by
  refine ⟨_, pe_make0 M F hr hg hm hb .nil pass0 hdb, fun σ H δ S w sl Q R k h => ?_⟩
  intro y dx hy hdx hne
  have hS := w.free hy
  obtain ⟨q1, q2⟩ := h y hS
  have ga := Go.new (u := .own y) w hdx
  have hy2 : upd H dx (.own y) y = none := by rw [upd_ne (fun z => hne z.symm)]; exact hy
  have gb := Go.newS (u := .ins C dx []) (o := .ins C []) ga.wd hy2 ⟨dx, [], rfl, rfl⟩
  have gab := ga.trans gb
  refine ⟨_, [.rf y], gb.wd, ⟨_, _, rfl, rfl, rfl⟩, q1, _, fun v H3 d S3 g3 r3 q3 => ?_, q2⟩
  cases d with
  | non => exact ⟨r3, k _ H3 (.rf y) S3 (gab.trans g3) rfl q3⟩
  | _ => exact False.elim q3
/-- x += e (a local int) -/
def dAug (i : Nat) (ρ : R2D) (a : ED) : SD := fun F δ S => match δ[i]? with | some (some x) => (a δ S fun y S1 => ρ x y S1 fun d S2 => F.nx (δ.set i (some d)) S2) | _ => False
end

/-! ### a def of the text -/
section
variable {P : Program} {w : World} {K : PySem.W.Frag} {mg : Str → Option Value} {base : Heap}
def startD (N : List Str) (ds : List D) : Sl := ds.map some ++ List.replicate (N.length - ds.length) none
theorem start_ok {K : PySem.W.Frag} {H : Hp} {N : List Str} {ds : List D} {vs : List V} (r : Reps K H ds vs) : SlOk K H (L2.start N vs) (startD N ds) := by
  have hl := r.length
  refine ⟨by unfold L2.start startD; simp [hl], fun i d e => ?_⟩
  unfold startD at e
  unfold L2.start
  by_cases hi : i < ds.length
  · rw [List.getElem?_append_left (by simpa using hi), List.getElem?_map] at e
    cases q : ds[i]? with
    | none => rw [q] at e; cases e
    | some x =>
      rw [q] at e
      cases e
      obtain ⟨v, a, b⟩ := r.get q
      exact ⟨v, by rw [List.getElem?_append_left (by simpa [← hl] using hi), List.getElem?_map, a]; rfl, b⟩
  · rw [List.getElem?_append_right (by simpa using hi), List.getElem?_replicate] at e
    split at e <;> cases e
/-- what is wanted behind a def's body: some of the objects may be forgotten -/
def endsD (Q : QD) : EndsD := { nx := fun _ S => ∃ S', Sle S' S ∧ Q .non S', rt := fun d S => ∃ S', Sle S' S ∧ Q d S' }
theorem fn_lift {x qual : Str} {st : Stmt} {f : Addr} {fd : FuncData} {N ps : List Str} {k : Nat} {sp : SpD} {τ : SD} (F : Fun K x qual st f fd) (Sc : FnScope N ps (defScope st))
    (hd : ∀ (cdv : Value) (A : Around) (outer : List Env) (s : Shared) (H : Hp) (E : XK), Room k (A.deeper (envOfC qual (defScope st) s.heap.objs.size f cdv)) → B (cxOf CX0 P w K mg base N qual (defScope st) f cdv A outer s H E).nox (defBody st) τ)
    (hq : ∀ ds S Q, ds.length = ps.length → sp ds S Q → τ (endsD Q) (startD N ds) S) : FnOk P w K mg base CX0 (k + 1) f fd ps (lift K ps.length sp) := by
  refine fun_ok F Sc (fun vs H Q E h => ?_) (fun cdv A outer s H vs Q E hr h => ?_)
  · obtain ⟨S, ds, _, r, hl, _⟩ := h
    rw [← r.length, hl]
  · obtain ⟨S, ds, wd, r, hl, Qd, hk, hs⟩ := h
    obtain ⟨t, h1, h2⟩ := hd cdv A outer s H E hr
    refine ⟨t, h1, h2 _ H _ S wd (start_ok r) (endsD Qd) _ (fun σ' H' δ' S' g _ q => ?_) (fun v H' d S' g r' q => ?_) (fun _ _ _ _ _ _ q => q.elim) (fun _ _ _ _ _ _ q => q.elim) (hq ds S Qd hl hs)⟩
    · obtain ⟨S2, le, q⟩ := q
      exact hk _ H' .non S2 (g.le le) rfl q
    · obtain ⟨S2, le, q⟩ := q
      exact hk _ H' d S2 (g.le le) r' q
/-- a weaker promise -/
theorem fn_imp {k : Nat} {f : Addr} {fd : FuncData} {ps : List Str} {n : Nat} {sp sp' : SpD} (F : FnOk P w K mg base CX0 k f fd ps (lift K n sp)) (h : ∀ ds S Q, sp' ds S Q → sp ds S Q) : FnOk P w K mg base CX0 k f fd ps (lift K n sp') :=
  F.imp fun vs H Q E ⟨S, ds, wd, r, hl, Qd, hk, hs⟩ => ⟨S, ds, wd, r, hl, Qd, hk, h _ _ _ hs⟩
/-- a promise that nobody may call in -/
theorem fn_none {k : Nat} {f : Addr} {fd : FuncData} {ps : List Str} {n : Nat} (sp : SpD) (h : ∀ ds S Q, ¬ sp ds S Q) : FnOk P w K mg base CX0 k f fd ps (lift K n sp) :=
  ⟨fun _ _ _ _ ⟨_, _, _, _, _, _, _, hs⟩ => (h _ _ _ hs).elim, fun _ _ _ _ _ _ _ _ _ _ _ _ _ _ ⟨_, _, _, _, _, _, _, hs⟩ => (h _ _ _ hs).elim⟩
end
end DL

set_option Elab.async false
set_option linter.all false
set_option maxRecDepth 100000
namespace DL
open PySem PySem.Spec L2 PyProof.Rows
section
variable {X : Cx} {a b c e o value elt : Expr} {es : List Expr} {pos p2 p q apos cpos pos' py spos : Pos} {τ τa τb τc τv : ED} {α ν ν' : AD} {ι : ID} {γ : GD} {κ : TD} {ξ : SD} {tg iter : Expr} {x f m y : Str} {C : Addr}
theorem hu {k : Nat} {A : Around} (hr : Room k A) : A.units + 64 < cLine := hr.units
/-- a constant of the module -/
def GlobC (K : PySem.W.Frag) (mg : Str → Option Value) (x : Str) (d : D) : Prop := ∃ u v, mg x = some u ∧ RelV v u ∧ ∀ H, Rep K H d v
theorem e_glob {d : D} (h : GlobC X.K X.mg x d) (hg : Gl X x := by rfl) (hd : (x == ("__debug__" : Str)) = false := by decide) : E X (.Name x pos) (dC d) := by
  obtain ⟨u, v, hm, r, hr⟩ := h
  exact ⟨_, pe_glob hg hm r hd, sim_c hr⟩
theorem glob_int {K : PySem.W.Frag} {mg : Str → Option Value} {i : Int} {t : Tok} (h : mg x = some (.int i t)) : GlobC K mg x (.int i) := ⟨_, .int i, h, ⟨t, rfl⟩, fun _ => rfl⟩
theorem glob_str {K : PySem.W.Frag} {mg : Str → Option Value} {s : Str} {t : Tok} (w : List Nat) (h : mg x = some (.str s t)) (e : s = ⟨w.toArray⟩ := by decide +kernel) : GlobC K mg x (.str w) := ⟨_, .str s, h, ⟨t, rfl⟩, fun _ => by rw [e]; rfl⟩
/-- name = [..] on one line, the name a local -/
theorem s_setLc (i : Nat) {ifs : List Expr} {scope : Scope} {own : List (Str × Nat)} (hN : X.N.Nodup) (hi : I X tg iter ι) (ok : blkC X.N X.env.scope scope own = true)
    (hg : Gw X scope (own.map (·.2)) tg γ) (ht : Tw X scope ifs κ) (he : ∀ (s : Shared) (H : Hp) (C : Addr) (cl : List (Str × Addr)) (fp : List Addr), E (X.blk s H scope (compEnvC scope cl C X.env) fp) elt τ)
    (hy : X.N[i]? = some y := by rfl) (hyl : X.env.scope.names.lookup y = some .local := by rfl)
    (hsw : swapsWith (.ListComp elt [⟨tg, iter, ifs, 0⟩] scope pos) (some (.Name y py)) spos.line X.env = pure true := by exact sw_true rfl rfl rfl (by decide +kernel))
    (hc : X.calm = true := by rfl) (hs : ∀ x, foldedSetIterable iter X.env x = pure x := by intro _; rfl) : S1 X (.Assign [.Name y py] (.ListComp elt [⟨tg, iter, ifs, 0⟩] scope pos) spos) (dAsg (dNew (dLc ι γ κ τ (own.map (·.2)))) (dName i)) := by
  obtain ⟨ti, i1, i2⟩ := hi
  obtain ⟨g, g1, g2⟩ := hg
  obtain ⟨t, t1, t2⟩ := ht
  refine ⟨_, ps_setLc (te := canE X.K τ) hc hN hy hyl hsw i1 (blkOk_by ok) g1 t1 (fun s H C cl fp => (he s H C cl fp).can) hs, fun σ H δ S w sl F G hn hr hb hct h => ?_⟩
  refine sim_lc i2 g2 t2 sim_can σ H δ S w sl _ _ (fun p H' vs ds S' g h0 hp hs r' q => ?_) h
  have g' := g.own h0 hp hs r'
  exact hn _ H' _ _ g' ((sl.im (g.im w)).set i (d := .rf p) rfl) (q p hs)
/-- a comprehension's target of several names -/
def Gws (X : Cx) (scope : Scope) (vs : List Nat) (ts : List Expr) (γ : GsD) : Prop := ∃ g : TGs, (∀ (s : Shared) (H : Hp) (C : Addr) (cl : List (Str × Addr)) (fp : List Addr), PGs (X.blk s H scope (compEnvC scope cl C X.env) fp) ts g) ∧
  ∀ σ σ0 H δ S us ds, Wd X.K H S → SlOk X.K H σ δ → Reps X.K H ds us → wipe σ vs = wipe σ0 vs → ∀ (Q : Sl → Sh → Prop) (R : L2.St → Hp → Prop), (∀ σ' H' δ' S', wipe σ' vs = wipe σ0 vs → Go X.K S H S' H' → SlOk X.K H' σ' δ' → Q δ' S' → R σ' H') → γ ds δ S Q → g us σ H R
theorem wipe_set_any {σ : L2.St} {x : V} {vs : List Nat} {i : Nat} (hi : i ∈ vs) : wipe (σ.set i (some x)) vs = wipe σ vs := by
  have key : ∀ (vs : List Nat) (τ : L2.St) (j : Nat), (wipe τ vs)[j]? = if j ∈ vs then (if j < τ.length then some none else none) else τ[j]? := by
    intro vs
    induction vs with
    | nil => intro τ j; simp [wipe]
    | cons v vs ih =>
      intro τ j
      unfold wipe
      by_cases h : v = j
      · subst h
        rw [List.getElem?_set_self', ih]
        by_cases h2 : v ∈ vs
        · simp [h2]
        · simp [h2]
          by_cases h3 : v < τ.length
          · simp [h3]
          · simp [h3]
      · rw [List.getElem?_set_ne h, ih]
        have : j ≠ v := fun z => h z.symm
        simp [this]
  apply List.ext_getElem?
  intro j
  rw [key, key, List.length_set]
  by_cases h : j ∈ vs
  · simp only [h, if_true]
  · simp only [h, if_false]
    have : i ≠ j := fun z => h (z ▸ hi)
    rw [List.getElem?_set_ne this]
theorem gws_nil {scope : Scope} {vs : List Nat} : Gws X scope vs [] dGnil := ⟨gNil, fun _ _ _ _ _ => pgs_nil, fun σ σ0 H δ S us ds w sl r e Q R k h => by
  cases ds with
  | nil => exact ⟨r, k σ H δ S e (Go.refl w) sl h⟩
  | cons _ _ => exact False.elim h⟩
theorem gws_cons (i : Nat) {scope : Scope} {vs : List Nat} {ts : List Expr} {γs : GsD} (hN : X.N.Nodup) (h2 : Gws X scope vs ts γs) (hi : X.N[i]? = some x := by rfl) (hm : i ∈ vs := by decide)
    (hx : ∀ (s : Shared) (H : Hp) (C : Addr) (cl : List (Str × Addr)) (fp : List Addr), Loc (X.blk s H scope (compEnvC scope cl C X.env) fp).env.scope x := by intro _ _ _ _ _; first | exact Or.inl rfl | exact Or.inr rfl)
    (hf : ∀ (s : Shared) (H : Hp) (C : Addr) (cl : List (Str × Addr)) (fp : List Addr), (X.blk s H scope (compEnvC scope cl C X.env) fp).fn x = true ∨ (X.blk s H scope (compEnvC scope cl C X.env) fp).env.scope.names.lookup x = some .local := by intro _ _ _ _ _; first | exact .inr rfl | exact .inl rfl)
    (hs : ∀ (s : Shared) (H : Hp) (C : Addr) (cl : List (Str × Addr)) (fp : List Addr), (assignEach (.Name x pos :: ts) (X.blk s H scope (compEnvC scope cl C X.env) fp).env).map (·.2) = assign (.Name x pos) (X.blk s H scope (compEnvC scope cl C X.env) fp).env :: (assignEach ts (X.blk s H scope (compEnvC scope cl C X.env) fp).env).map (·.2) := by intro _ _ _ _ _; rfl) :
    Gws X scope vs (.Name x pos :: ts) (dGcons (dName i) γs) := by
  obtain ⟨g, b1, b2⟩ := h2
  refine ⟨gCons (gName i) g, fun s H C cl fp => pgs_cons (pg_name hN hi (hx s H C cl fp) (hf s H C cl fp)) (b1 s H C cl fp) (hs s H C cl fp), fun σ σ0 H δ S us ds w sl r e Q R k h => ?_⟩
  cases ds with
  | nil => exact False.elim h
  | cons d ds =>
    obtain ⟨v, rr, rfl, rv, rs⟩ := r
    exact ⟨v, rr, rfl, b2 _ σ0 H _ S rr ds w (sl.set i rv) rs (by rw [wipe_set_any hm]; exact e) Q R k h⟩
theorem wipe_idem {σ : L2.St} : ∀ {vs : List Nat}, wipe (wipe σ vs) vs = wipe σ vs := by
  have key : ∀ (vs : List Nat) (τ : L2.St) (j : Nat), (wipe τ vs)[j]? = if j ∈ vs then (if j < τ.length then some none else none) else τ[j]? := by
    intro vs
    induction vs with
    | nil => intro τ j; simp [wipe]
    | cons v vs ih =>
      intro τ j
      unfold wipe
      by_cases h : v = j
      · subst h
        rw [List.getElem?_set_self', ih]
        by_cases h2 : v ∈ vs
        · simp [h2]
        · simp [h2]
          by_cases h3 : v < τ.length
          · simp [h3]
          · simp [h3]
      · rw [List.getElem?_set_ne h, ih]
        have : j ≠ v := fun z => h z.symm
        simp [this]
  intro vs
  apply List.ext_getElem?
  intro j
  rw [key, key, wipe_length]
  by_cases h : j ∈ vs
  · simp only [h, if_true]
  · simp only [h, if_false]
theorem gw_tup {k n : Nat} {scope : Scope} {vs : List Nat} {ts : List Expr} {γs : GsD} (h : Gws X scope vs ts γs) (hc : X.calm = true := by rfl)
    (hn : ∀ (s : Shared) (H : Hp) (C : Addr) (cl : List (Str × Addr)) (fp : List Addr), (assignEach ts (X.blk s H scope (compEnvC scope cl C X.env) fp).env).length = n := by intro _ _ _ _ _; rfl)
    (hst : ∀ (s : Shared) (H : Hp) (C : Addr) (cl : List (Str × Addr)) (fp : List Addr), (assignEach ts (X.blk s H scope (compEnvC scope cl C X.env) fp).env).findIdx? (·.1) = none := by intro _ _ _ _ _; rfl) : Gw X scope vs (.Tuple ts k pos) (dGtup γs n) := by
  obtain ⟨g, b1, b2⟩ := h
  refine ⟨gTup X.K n g, fun s H C cl fp => pg_tup hc (b1 s H C cl fp) (hn s H C cl fp) (hst s H C cl fp), fun σ H δ S v d w sl rv Q R k h => ?_⟩
  cases d with
  | tup ds =>
    obtain ⟨a, us, rfl, hq, rs⟩ := rv
    exact ⟨a, us, rfl, hq, by rw [← rs.length]; exact h.1, b2 _ (wipe σ vs) H _ S us ds w sl rs rfl Q R (fun σ' H' δ' S' e => k σ' H' δ' S' (e.trans wipe_idem)) h.2⟩
  | _ => exact False.elim h
end

/-! ### the text's defs behind the top -/
structure Def (K : PySem.W.Frag) (mg : Str → Option Value) (name : Str) (st : Stmt) (ps : List Str) (f : Addr) (fd : FuncData) : Prop where
  fn : Fun K name name st f fd
  mg : mg name = some (.ref f)
  bi : Binds K fd ps []
structure MDef (K : PySem.W.Frag) (name qual : Str) (st : Stmt) (ps : List Str) (f : Addr) (fd : FuncData) : Prop where
  fn : Fun K name qual st f fd
  bi : Binds K fd ps []
theorem only_frz {K : PySem.W.Frag} {H : Hp} {a : Addr} {ns : List Int} (h : Only H) (hs : SqL K H a (ns.map V.int)) : Rep K H (.frz (ns.map D.int)) (.ref a) := by
  refine ⟨a, ns.map V.int, rfl, ?_, Reps.of_ints⟩
  rcases hs with (hs | ⟨o, hs⟩) | hs
  · rcases h a with z | ⟨o, xs, z⟩
    · rw [hs] at z; cases z
    · rw [hs] at z; cases z
  · exact .inl ⟨o, hs⟩
  · exact .inr hs
/-- the law's promise -/
def sp_law : SpD := fun ds S Q => (∃ ns : List Int, ds = [.frz (ns.map D.int)] ∧ ns.length ≤ 63) ∧ Q (.bl true) (fun _ => none)
theorem law_start {K : PySem.W.Frag} {H : Hp} {a : Addr} {ns : List Int} (hl : ns.length ≤ 63) (h : Only H) (hs : SqL K H a (ns.map V.int)) : lift K 1 sp_law [.ref a] H (fun v _ => v = .bl true) fun _ _ _ => False := by
  refine ⟨fun _ => none, [.frz (ns.map D.int)], fun _ _ e => (by cases e), ⟨_, _, rfl, only_frz h hs, rfl⟩, rfl, fun d _ => d = .bl true, fun v H' d S' _ r e => ?_, ⟨ns, rfl, hl⟩, rfl⟩
  subst e
  exact r
end DL

set_option Elab.async false
set_option linter.all false
set_option maxRecDepth 100000
namespace DL
open PySem PySem.Spec L2
/-! ### loops over data -/
theorem loop_inv {γ : GD} {τ : SD} {F : EndsD} {ck : Sh → Prop} (Iv : List D → Sl → Sh → Prop)
    (hs : ∀ x xs δ S (N : Sl → Sh → Prop), Iv (x :: xs) δ S → (∀ δ' S', Iv xs δ' S' → N δ' S') → γ x δ S fun δ1 S1 => τ { F with nx := N, ct := N, bk := F.nx } δ1 S1)
    (hc : ∀ xs δ S, Iv xs δ S → ck S) (hd : ∀ δ S, Iv [] δ S → F.nx δ S) : ∀ xs δ S, Iv xs δ S → dLoop γ τ F ck xs δ S
  | [], δ, S, h => hd δ S h
  | x :: xs, δ, S, h => hs x xs δ S _ h fun δ' S' h' => ⟨hc xs δ' S' h', loop_inv Iv hs hc hd xs δ' S' h'⟩
/-- by the part that is done -/
theorem loop_pre {γ : GD} {τ : SD} {F : EndsD} {ck : Sh → Prop} {all : List D} (Iv : List D → Sl → Sh → Prop) {δ : Sl} {S : Sh} (h0 : Iv [] δ S)
    (hs : ∀ pre x post, all = pre ++ x :: post → ∀ δ S (N : Sl → Sh → Prop), Iv pre δ S → (∀ δ' S', Iv (pre ++ [x]) δ' S' → N δ' S') → γ x δ S fun δ1 S1 => τ { F with nx := N, ct := N, bk := F.nx } δ1 S1)
    (hc : ∀ pre δ S, Iv pre δ S → ck S) (hd : ∀ δ S, Iv all δ S → F.nx δ S) : dLoop γ τ F ck all δ S := by
  refine loop_inv (fun rest δ S => ∃ pre, all = pre ++ rest ∧ Iv pre δ S) ?_ ?_ ?_ all δ S ⟨[], rfl, h0⟩
  · rintro x xs δ S N ⟨pre, e, h⟩ hN
    exact hs pre x xs e δ S N h fun δ' S' h' => hN δ' S' ⟨pre ++ [x], by rw [e, List.append_assoc]; rfl, h'⟩
  · rintro xs δ S ⟨pre, e, h⟩
    exact hc pre δ S h
  · rintro δ S ⟨pre, e, h⟩
    rw [List.append_nil] at e
    subst e
    exact hd δ S h
theorem wh_inv {κ : TD} {τ : SD} {F : EndsD} (Iv : Nat → Sl → Sh → Prop)
    (hs : ∀ n δ S (N : Sl → Sh → Prop), Iv n δ S → (∀ m δ' S', m < n → Iv m δ' S' → N δ' S') → κ δ S fun b S1 => if b = true then τ { F with nx := N, ct := N, bk := F.nx } δ S1 else F.nx δ S1) :
    ∀ n δ S k, Iv n δ S → n < k → dWh κ τ F k δ S := by
  intro n
  induction n using Nat.strongRecOn with
  | ind n ih =>
    intro δ S k h hk
    cases k with
    | zero => omega
    | succ k => exact hs n δ S _ h fun m δ' S' hm h' => ih m hm δ' S' k h' (by omega)
theorem while_inv {κ : TD} {τ : SD} {F : EndsD} (Iv : Nat → Sl → Sh → Prop) {n : Nat} {δ : Sl} {S : Sh} (h0 : Iv n δ S)
    (hs : ∀ n δ S (N : Sl → Sh → Prop), Iv n δ S → (∀ m δ' S', m < n → Iv m δ' S' → N δ' S') → κ δ S fun b S1 => if b = true then τ { F with nx := N, ct := N, bk := F.nx } δ S1 else F.nx δ S1) : dWhile κ τ F δ S :=
  ⟨n + 1, wh_inv Iv hs n δ S _ h0 (Nat.lt_succ_self n)⟩
theorem comp_inv {γ : GD} {κ : TD} {τ : ED} {δ : Sl} {ck : Sh → Prop} {Q : List D → Sh → Prop} (Iv : List D → List D → Sh → Prop)
    (hs : ∀ x xs acc S (Y : D → Sh → Prop) (Z : Sh → Prop), Iv (x :: xs) acc S → (∀ d S', Iv xs (acc ++ [d]) S' → acc.length < sizeLine → Y d S') → (∀ S', Iv xs acc S' → Z S') → γ x δ S fun δ1 S1 => κ δ1 S1 fun b S2 => if b = true then τ δ1 S2 Y else Z S2)
    (hl : ∀ x xs acc S, Iv (x :: xs) acc S → acc.length < sizeLine) (hc : ∀ xs acc S, Iv xs acc S → ck S) (hd : ∀ acc S, Iv [] acc S → Q acc S) : ∀ xs acc S, Iv xs acc S → dComp γ κ τ δ ck Q xs acc S
  | [], acc, S, h => hd acc S h
  | x :: xs, acc, S, h => hs x xs acc S (fun d S3 => acc.length < sizeLine ∧ ck S3 ∧ dComp γ κ τ δ ck Q xs (acc ++ [d]) S3) (fun S2 => ck S2 ∧ dComp γ κ τ δ ck Q xs acc S2) h
      (fun d S' h' hl' => ⟨hl', hc _ _ _ h', comp_inv Iv hs hl hc hd xs (acc ++ [d]) S' h'⟩) fun S' h' => ⟨hc _ _ _ h', comp_inv Iv hs hl hc hd xs acc S' h'⟩
/-- no test, elements that change nothing -/
theorem comp_map {γ : GD} {τ : ED} {δ : Sl} {ck : Sh → Prop} {Q : List D → Sh → Prop} (f : D → D) {S : Sh} (hc : ck S) : ∀ (xs acc : List D), (∀ x ∈ xs, ∀ R : QD, R (f x) S → γ x δ S fun δ1 S1 => τ δ1 S1 R) → acc.length + xs.length ≤ sizeLine → Q (acc ++ xs.map f) S →
    dComp γ dYes τ δ ck Q xs acc S
  | [], acc, _, _, q => by rw [List.map_nil, List.append_nil] at q; exact q
  | x :: xs, acc, h, hl, q => by
    rw [List.length_cons] at hl
    refine h x List.mem_cons_self _ ⟨by omega, hc, comp_map f hc xs (acc ++ [f x]) (fun y hy => h y (List.mem_cons_of_mem _ hy)) (by rw [List.length_append, List.length_singleton]; omega) ?_⟩
    rw [List.append_assoc]
    exact q
/-- with a test -/
theorem comp_filter {γ : GD} {κ : TD} {τ : ED} {δ : Sl} {ck : Sh → Prop} {Q : List D → Sh → Prop} (p : D → Bool) (f : D → D) {S : Sh} (hc : ck S) : ∀ (xs acc : List D),
    (∀ x ∈ xs, ∀ (Y : QD) (Z : Sh → Prop), (p x = true → Y (f x) S) → (p x = false → Z S) → γ x δ S fun δ1 S1 => κ δ1 S1 fun b S2 => if b = true then τ δ1 S2 Y else Z S2) → acc.length + xs.length ≤ sizeLine → Q (acc ++ (xs.filter p).map f) S →
    dComp γ κ τ δ ck Q xs acc S
  | [], acc, _, _, q => by rw [List.filter_nil, List.map_nil, List.append_nil] at q; exact q
  | x :: xs, acc, h, hl, q => by
    rw [List.length_cons] at hl
    refine h x List.mem_cons_self _ _ (fun e => ?_) (fun e => ?_)
    · refine ⟨by omega, hc, comp_filter p f hc xs (acc ++ [f x]) (fun y hy => h y (List.mem_cons_of_mem _ hy)) (by rw [List.length_append, List.length_singleton]; omega) ?_⟩
      rw [List.filter_cons, if_pos e, List.map_cons] at q
      rw [List.append_assoc]
      exact q
    · refine ⟨hc, comp_filter p f hc xs acc (fun y hy => h y (List.mem_cons_of_mem _ hy)) (by omega) ?_⟩
      rw [List.filter_cons, if_neg (by rw [e]; exact Bool.false_ne_true)] at q
      exact q
/-- elements that may do more: each satisfies P, the objects stay in Iv -/
theorem comp_all {γ : GD} {τ : ED} {δ : Sl} {ck : Sh → Prop} {Q : List D → Sh → Prop} (P : D → Prop) (Iv : Sh → Prop) (hck : ∀ S, Iv S → ck S) (hs : ∀ (xs : List D) (x : D), x ∈ xs → ∀ S, Iv S → ∀ R : QD, (∀ d S', P d → Iv S' → R d S') → γ x δ S fun δ1 S1 => τ δ1 S1 R) :
    ∀ (xs acc : List D) (S : Sh), Iv S → (∀ d ∈ acc, P d) → acc.length + xs.length ≤ sizeLine → (∀ ds S', ds.length = acc.length + xs.length → (∀ d ∈ ds, P d) → Iv S' → Q ds S') → dComp γ dYes τ δ ck Q xs acc S
  | [], acc, S, hi, ha, _, q => q acc S (by simp) ha hi
  | x :: xs, acc, S, hi, ha, hl, q => by
    rw [List.length_cons] at hl
    refine hs (x :: xs) x List.mem_cons_self S hi _ fun d S' hp hi' => ⟨by omega, hck S' hi', comp_all P Iv hck hs xs (acc ++ [d]) S' hi' (fun e he => ?_) (by rw [List.length_append, List.length_singleton]; omega) fun ds S2 e1 e2 e3 => q ds S2 (by rw [e1, List.length_append, List.length_singleton, List.length_cons]; omega) e2 e3⟩
    rcases List.mem_append.mp he with z | z
    · exact ha e z
    · rw [List.mem_singleton.mp z]; exact hp
theorem rng_mem {lo : Int} {n : Nat} {x : D} (h : x ∈ rng lo n) : ∃ i : Nat, i < n ∧ x = .int (lo + i) := by
  unfold rng at h
  obtain ⟨i, hi, rfl⟩ := List.mem_map.mp h
  exact ⟨i, List.mem_range.mp hi, rfl⟩
theorem rng_len (lo : Int) (n : Nat) : (rng lo n).length = n := by unfold rng; simp
theorem rng_split {lo : Int} {n : Nat} {pre post : List D} {x : D} (h : rng lo n = pre ++ x :: post) : x = .int (lo + pre.length) ∧ pre.length < n := by
  have h1 : (rng lo n)[pre.length]? = some x := by rw [h, List.getElem?_append_right (Nat.le_refl _), Nat.sub_self]; rfl
  have hl : pre.length < n := by
    have := congrArg List.length h
    rw [rng_len, List.length_append, List.length_cons] at this
    omega
  unfold rng at h1
  rw [List.getElem?_map, List.getElem?_range hl] at h1
  exact ⟨(Option.some.inj h1).symm, hl⟩
theorem ifb {A B : Prop} {c : Prop} [Decidable c] (h1 : c → A) (h2 : ¬ c → B) : if decide c = true then A else B := by
  by_cases h : c
  · rw [if_pos (decide_eq_true h)]; exact h1 h
  · rw [if_neg (by rw [decide_eq_false h]; exact Bool.false_ne_true)]; exact h2 h
theorem ifB {A B : Prop} {b : Bool} (h1 : b = true → A) (h2 : b = false → B) : if b = true then A else B := by
  cases b
  · exact h2 rfl
  · exact h1 rfl
/-! ### where the readings stop -/
/-- holds the rewriting off what it tags -/
inductive Tag {β : Sort _} (a : β) : Type
  | mk : Tag a
def callK (sp : SpD) (ds : List D) (S : Sh) (Q : QD) (_ : Tag Q) : Prop := sp ds S Q
def loopK (γ : GD) (τ : SD) (F : EndsD) (ck : Sh → Prop) (xs : List D) (δ : Sl) (S : Sh) (_ : Tag γ) (_ : Tag τ) (_ : Tag F) (_ : Tag ck) : Prop := dLoop γ τ F ck xs δ S
def whileK (κ : TD) (τ : SD) (F : EndsD) (δ : Sl) (S : Sh) (_ : Tag κ) (_ : Tag τ) (_ : Tag F) : Prop := dWhile κ τ F δ S
def compK (γ : GD) (κ : TD) (τ : ED) (δ : Sl) (ck : Sh → Prop) (Q : List D → Sh → Prop) (xs acc : List D) (S : Sh) (_ : Tag γ) (_ : Tag κ) (_ : Tag τ) (_ : Tag ck) (_ : Tag Q) : Prop := dComp γ κ τ δ ck Q xs acc S
theorem dCall_k (n : Nat) (sp : SpD) (dv : List D) (a : AD) (δ : Sl) (S : Sh) (Q : QD) : dCall n sp dv a δ S Q = a δ S fun ds S1 => (ds ++ dv).length = n ∧ callK sp (ds ++ dv) S1 Q .mk := rfl
theorem dMeth_k (C : Addr) (m : Str) (n : Nat) (sp : SpD) (a : ED) (l : AD) (δ : Sl) (S : Sh) (Q : QD) : dMeth C m n sp a l δ S Q = a δ S fun x S1 => match x with
  | .rf p => ∃ fs, S1 p = some (.ins C fs) ∧ fs.lookup m = none ∧ l δ S1 fun ds S2 => (x :: ds).length = n ∧ callK sp (x :: ds) S2 Q .mk
  | _ => False := rfl
theorem dMake_k (C : Addr) (n : Nat) (sp : SpD) (l : AD) (δ : Sl) (S : Sh) (Q : QD) : dMake C n sp l δ S Q = l δ S fun ds S1 => ∀ p, S1 p = none → ds.length + 1 = n ∧ callK sp (.rf p :: ds) (su S1 p (.ins C [])) (fun d S2 => (match d with | .non => Q (.rf p) S2 | _ => False)) .mk := rfl
theorem dFor_k (ι : ID) (γ : GD) (τ : SD) (F : EndsD) (δ : Sl) (S : Sh) : dFor ι γ τ F δ S = ι δ S fun xs ck S1 => loopK γ τ F ck xs δ S1 .mk .mk .mk .mk := rfl
theorem dWhile_k (κ : TD) (τ : SD) (F : EndsD) (δ : Sl) (S : Sh) : dWhile κ τ F δ S = whileK κ τ F δ S .mk .mk .mk := rfl
theorem dLc_k (ι : ID) (γ : GD) (κ : TD) (τ : ED) (vs : List Nat) (δ : Sl) (S : Sh) (Q : List D → Sh → Prop) : dLc ι γ κ τ vs δ S Q = ι δ S fun xs ck S1 => compK γ κ τ (dWipe δ vs) ck Q xs [] S1 .mk .mk .mk .mk .mk := rfl
end DL

set_option Elab.async false
set_option linter.all false
set_option maxRecDepth 100000
namespace DL
open PySem PySem.Spec L2 PySem.StrLaws PySem.Builtin PySem.Builtin.Str
/-! ### the first place of a sign in a window -/
theorem occ_full (s sub : Str) (hi : Nat) : ∀ (l : List Nat) (st : Array Nat × Nat), 1 ≤ st.fst.size → (forIn l st (occBody s sub hi 1)).run.fst = st.fst
  | [], st, h => rfl
  | a :: l, st, h => by
    rw [List.forIn_cons]
    unfold occBody
    rw [if_neg (by rintro ⟨⟨⟨h1, _⟩, _⟩, _⟩; omega)]
    exact occ_full s sub hi l (st.fst, st.snd) h
theorem occ_find (s sub : Str) (hi : Nat) : ∀ (l : List Nat) (free : Nat), (∀ i ∈ l, free ≤ i) →
    (forIn l ((#[] : Array Nat), free) (occBody s sub hi 1)).run.fst.toList = (l.find? fun i => decide (i + sub.length ≤ hi ∧ subAt s sub i = true)).toList
  | [], free, _ => rfl
  | a :: l, free, hf => by
    rw [List.forIn_cons]
    unfold occBody
    have ha : free ≤ a := hf a (List.mem_cons_self ..)
    by_cases hc : a + sub.length ≤ hi ∧ subAt s sub a = true
    · rw [if_pos ⟨⟨⟨by simp, ha⟩, hc.1⟩, hc.2⟩, List.find?_cons_of_pos (by simpa using hc)]
      exact congrArg Array.toList (occ_full s sub hi l _ (by simp))
    · rw [if_neg (fun h => hc ⟨h.1.2, h.2⟩), List.find?_cons_of_neg (by simpa using hc)]
      exact occ_find s sub hi l free fun i hi' => hf i (List.mem_cons_of_mem _ hi')
theorem occ_one (s sub : Str) (lo hi : Nat) : occurrences s sub lo hi 1 = ((List.range' lo (hi + 1 - lo)).find? fun i => decide (i + sub.length ≤ hi ∧ subAt s sub i = true)).toList := by
  rw [occ_eq]
  exact occ_find s sub hi _ lo fun i hi' => by
    obtain ⟨h1, _⟩ := List.mem_range'_1.mp hi'
    exact h1
theorem subAt_c (t : List Nat) (c i : Nat) : subAt (tx t) (tx [c]) i = true ↔ t[i]? = some c := by
  rw [subAt_eq]
  exact take1_drop
theorem find4_some {t : List Nat} {c a e k : Nat} (h1 : t[k]? = some c) (ha : a ≤ k) (he : k < e) (hm : ∀ j, a ≤ j → j < k → t[j]? ≠ some c) : Txt.findIn (tx t) (tx [c]) a e = k := by
  have hk : k < t.length := (List.getElem?_eq_some_iff.mp h1).1
  have f : fromIndex (tx t).length a = a := by unfold fromIndex; rw [if_neg (by omega)]; omega
  have g : toIndexW (tx t).length e = min e t.length := by unfold toIndexW; rw [if_neg (by omega)]; show min _ (t.toArray.size) = _; rw [List.size_toArray]; omega
  have hf : ((List.range' a (min e t.length + 1 - a)).find? fun i => decide (i + (tx [c]).length ≤ min e t.length ∧ subAt (tx t) (tx [c]) i = true)) = some k := by
    rw [List.find?_eq_some_iff_getElem]
    refine ⟨decide_eq_true ⟨by show k + 1 ≤ _; omega, (subAt_c t c k).mpr h1⟩, k - a, by rw [List.length_range']; omega, by rw [List.getElem_range']; omega, fun j hj => ?_⟩
    rw [List.getElem_range', Bool.not_eq_true', decide_eq_false_iff_not]
    rintro ⟨_, h3⟩
    exact hm (a + 1 * j) (by omega) (by omega) ((subAt_c t c _).mp h3)
  unfold Txt.findIn
  rw [f, g, occ_one, hf]
  rfl
theorem find4_none {t : List Nat} {c a e : Nat} (ha : a ≤ t.length) (hm : ∀ j, a ≤ j → j < e → t[j]? ≠ some c) : Txt.findIn (tx t) (tx [c]) a e = -1 := by
  have f : fromIndex (tx t).length a = a := by unfold fromIndex; rw [if_neg (by omega)]; omega
  have g : toIndexW (tx t).length e = min e t.length := by unfold toIndexW; rw [if_neg (by omega)]; show min _ (t.toArray.size) = _; rw [List.size_toArray]; omega
  have hf : ((List.range' a (min e t.length + 1 - a)).find? fun i => decide (i + (tx [c]).length ≤ min e t.length ∧ subAt (tx t) (tx [c]) i = true)) = none := by
    rw [List.find?_eq_none]
    intro i hi
    obtain ⟨h1, h2⟩ := List.mem_range'_1.mp hi
    rw [decide_eq_true_eq]
    rintro ⟨h3, h4⟩
    have h3' : i + 1 ≤ min e t.length := h3
    exact hm i (by omega) (by omega) ((subAt_c t c _).mp h4)
  unfold Txt.findIn
  rw [f, g, occ_one, hf]
  rfl
/-! ### fields, read on the spot -/
theorem dFld_m (C : Addr) (a : ED) (f : Str) (δ : Sl) (S : Sh) (Q : QD) : dFld C a f δ S Q = a δ S fun x S1 => match x with
  | .rf p => (match S1 p with | some (.ins C' fs) => C' = C ∧ (match fs.lookup f with | some d => Q d S1 | none => False) | _ => False)
  | _ => False := by
  unfold dFld
  congr 1
  funext x S1
  cases x <;> try rfl
  rename_i p
  refine propext ⟨?_, ?_⟩
  · rintro ⟨fs, d, h1, h2, h3⟩
    show (match S1 p with | some (.ins C' fs) => C' = C ∧ (match fs.lookup f with | some d => Q d S1 | none => False) | _ => False)
    rw [h1]
    refine ⟨rfl, ?_⟩
    rw [h2]
    exact h3
  · intro h
    have h' : (match S1 p with | some (.ins C' fs) => C' = C ∧ (match fs.lookup f with | some d => Q d S1 | none => False) | _ => False) := h
    split at h'
    · rename_i C' fs e
      obtain ⟨rfl, h2⟩ := h'
      split at h2
      · rename_i d e2
        exact ⟨fs, d, e, e2, h2⟩
      · exact h2.elim
    · exact h'.elim
theorem dSetF_m (C : Addr) (a v : ED) (f : Str) (F : EndsD) (δ : Sl) (S : Sh) : dSetF C a v f F δ S = v δ S fun y S1 => a δ S1 fun x S2 => match x with
  | .rf p => (match S2 p with | some (.ins C' fs) => C' = C ∧ fs.length < 1000 ∧ F.nx δ (su S2 p (.ins C (putFD f y fs))) | _ => False)
  | _ => False := by
  unfold dSetF
  congr 1
  funext y S1
  congr 1
  funext x S2
  cases x <;> try rfl
  rename_i p
  refine propext ⟨?_, ?_⟩
  · rintro ⟨fs, h1, h2, h3⟩
    show (match S2 p with | some (.ins C' fs) => C' = C ∧ fs.length < 1000 ∧ F.nx δ (su S2 p (.ins C (putFD f y fs))) | _ => False)
    rw [h1]
    exact ⟨rfl, h2, h3⟩
  · intro h
    have h' : (match S2 p with | some (.ins C' fs) => C' = C ∧ fs.length < 1000 ∧ F.nx δ (su S2 p (.ins C (putFD f y fs))) | _ => False) := h
    split at h'
    · rename_i C' fs e
      obtain ⟨rfl, h2⟩ := h'
      exact ⟨fs, e, h2⟩
    · exact h'.elim
theorem dMeth_m (C : Addr) (m : Str) (n : Nat) (sp : SpD) (a : ED) (l : AD) (δ : Sl) (S : Sh) (Q : QD) : dMeth C m n sp a l δ S Q = a δ S fun x S1 => match x with
  | .rf p => (match S1 p with | some (.ins C' fs) => C' = C ∧ fs.lookup m = none ∧ l δ S1 fun ds S2 => (x :: ds).length = n ∧ callK sp (x :: ds) S2 Q .mk | _ => False)
  | _ => False := by
  unfold dMeth
  congr 1
  funext x S1
  cases x <;> try rfl
  rename_i p
  refine propext ⟨?_, ?_⟩
  · rintro ⟨fs, h1, h2, h3⟩
    show (match S1 p with | some (.ins C' fs) => C' = C ∧ fs.lookup m = none ∧ l δ S1 fun ds S2 => (D.rf p :: ds).length = n ∧ callK sp (D.rf p :: ds) S2 Q .mk | _ => False)
    rw [h1]
    exact ⟨rfl, h2, h3⟩
  · intro h
    have h' : (match S1 p with | some (.ins C' fs) => C' = C ∧ fs.lookup m = none ∧ l δ S1 fun ds S2 => (D.rf p :: ds).length = n ∧ callK sp (D.rf p :: ds) S2 Q .mk | _ => False) := h
    split at h'
    · rename_i C' fs e
      obtain ⟨rfl, h2⟩ := h'
      exact ⟨fs, e, h2⟩
    · exact h'.elim
end DL

set_option Elab.async false
set_option linter.all false
set_option maxRecDepth 100000
set_option maxHeartbeats 2000000
namespace DL
open PySem PySem.Spec L2 PyProof.Rows
section
variable {X : Cx} {a b e : Expr} {τa τb τ : ED} {p p2 pos pos2 : Pos}
/-! ### tuple(range), list(range) -/
theorem rgV_rng (K : PySem.W.Frag) (H : Hp) (i j : Int) : Reps K H (rng i (j - i).toNat) (rgV i j) := by
  unfold rng rgV
  generalize (j - i).toNat = n
  have key : ∀ l : List Nat, Reps K H (l.map fun k : Nat => D.int (i + (k : Nat))) (l.map fun k : Nat => V.int (i + (k : Nat))) := fun l => by
    induction l with
    | nil => exact rfl
    | cons x l ih => exact ⟨_, _, rfl, rfl, ih⟩
  exact key _
def dTupRg (a b : ED) : ED := fun δ S Q => a δ S fun x S1 => b δ S1 fun y S2 => match x, y with | .int i, .int j => RgOk i j ∧ Q (.tup (rng i (j - i).toNat)) S2 | _, _ => False
theorem e_tupRg (hm : X.mg "tuple" = none) (hm2 : X.mg "range" = none) (ha : E X a τa) (hb : E X b τb) (hc : X.calm = true := by rfl) (hg : Gl X "tuple" := by rfl) (hg2 : Gl X "range" := by rfl)
    (na : starEach [a, b] X.env = (false, eval a X.env) :: starEach [b] X.env := by rfl) (nb : starEach [b] X.env = (false, eval b X.env) :: starEach [] X.env := by rfl) (hp : (backTo pos2 (starEach [b] X.env)).any (·.1) = false := by rfl)
    (nc : starEach [Expr.Call (.Name "range" p2) [a, b] [] pos2] X.env = (false, eval (.Call (.Name "range" p2) [a, b] [] pos2) X.env) :: starEach [] X.env := by rfl) :
    E X (.Call (.Name "tuple" p) [.Call (.Name "range" p2) [a, b] [] pos2] [] pos) (dTupRg τa τb) := by
  obtain ⟨ta, a1, a2⟩ := ha
  obtain ⟨tb, b1, b2⟩ := hb
  refine ⟨_, pe_tupRg hc hg hm (prg_2 hg2 hm2 a1 b1 na nb hp) nc, fun σ H δ S w sl Q R k h => ?_⟩
  refine a2 σ H δ S w sl _ _ (fun x H1 dx S1 g1 rx q => ?_) h
  refine b2 σ H1 δ S1 g1.wd (sl.im (g1.im w)) _ _ (fun y H2 dy S2 g2 ry q2 => ?_) q
  cases dx <;> cases dy <;> first | exact False.elim q2 | skip
  rename_i i j
  obtain rfl := rx
  obtain rfl := ry
  refine ⟨i, j, rfl, rfl, q2.1, fun t ht => ?_⟩
  have g3 := Go.new (u := .tup (rgV i j)) g2.wd ht
  exact k _ _ (.tup (rng i (j - i).toNat)) S2 ((g1.trans g2).trans g3) ⟨t, _, rfl, SqT.of upd_same, rgV_rng _ _ i j⟩ q2.2
def dLstRg (a b : ED) : AD := fun δ S Q => a δ S fun x S1 => b δ S1 fun y S2 => match x, y with | .int i, .int j => RgOk i j ∧ Q (rng i (j - i).toNat) S2 | _, _ => False
theorem n_lstRg (hm : X.mg "list" = none) (hm2 : X.mg "range" = none) (ha : E X a τa) (hb : E X b τb) (hc : X.calm = true := by rfl) (hg : Gl X "list" := by rfl) (hg2 : Gl X "range" := by rfl)
    (na : starEach [a, b] X.env = (false, eval a X.env) :: starEach [b] X.env := by rfl) (nb : starEach [b] X.env = (false, eval b X.env) :: starEach [] X.env := by rfl) (hp : (backTo pos2 (starEach [b] X.env)).any (·.1) = false := by rfl)
    (nc : starEach [Expr.Call (.Name "range" p2) [a, b] [] pos2] X.env = (false, eval (.Call (.Name "range" p2) [a, b] [] pos2) X.env) :: starEach [] X.env := by rfl) :
    N X (.Call (.Name "list" p) [.Call (.Name "range" p2) [a, b] [] pos2] [] pos) (dLstRg τa τb) := by
  obtain ⟨ta, a1, a2⟩ := ha
  obtain ⟨tb, b1, b2⟩ := hb
  refine ⟨_, pe_listRg hc hg hm (prg_2 hg2 hm2 a1 b1 na nb hp) nc, fun σ H δ S w sl Q R k h => ?_⟩
  refine a2 σ H δ S w sl _ _ (fun x H1 dx S1 g1 rx q => ?_) h
  refine b2 σ H1 δ S1 g1.wd (sl.im (g1.im w)) _ _ (fun y H2 dy S2 g2 ry q2 => ?_) q
  cases dx <;> cases dy <;> first | exact False.elim q2 | skip
  rename_i i j
  obtain rfl := rx
  obtain rfl := ry
  refine ⟨i, j, rfl, rfl, q2.1, fun t ht => ?_⟩
  have g3 := Go.new (u := .lst (rgV i j)) g2.wd ht
  have g := (g1.trans g2).trans g3
  exact k t _ (rgV i j) (rng i (j - i).toNat) S2 g ((g1.trans g2).th t ht) upd_same (g2.wd.free ht) (rgV_rng _ _ i j) q2.2
end
end DL

set_option Elab.async false
set_option linter.all false
set_option maxRecDepth 100000
set_option maxHeartbeats 2000000
namespace DL
open PySem PySem.Spec L2 PyProof.Rows
/-! ### sorted of pairs of ints -/
abbrev lexle (p q : Int × Int) : Prop := p.1 < q.1 ∨ (p.1 = q.1 ∧ p.2 ≤ q.2)
inductive Prs (K : PySem.W.Frag) (H : Hp) : List V → List (Int × Int) → Prop
  | nil : Prs K H [] []
  | cons {t : Addr} {p : Int × Int} {xs : List V} {ps : List (Int × Int)} : SqT K H t [.int p.1, .int p.2] → Prs K H xs ps → Prs K H (.ref t :: xs) (p :: ps)
def rSortedPr (K : PySem.W.Frag) : List V → Hp → VK → Prop := fun vs H Q => ∃ (a : Addr) (xs : List V) (ps : List (Int × Int)), vs = [V.ref a] ∧ SqL K H a xs ∧ Prs K H xs ps ∧
  ∀ (ys : List V) (qs : List (Int × Int)) (l : Addr), qs.Perm ps → qs.Pairwise lexle → Prs K H ys qs → H l = none → Q (.ref l) (upd H l (.lst ys))
open Classical in
/-- the pair that a value is in a heap -/
noncomputable def prOf (h : Heap) (v : Value) : Int × Int := if e : ∃ p : Int × Int, Srt.IsPair h v p.1 p.2 then choose e else (0, 0)
theorem isPair_uniq {h : Heap} {v : Value} {x y x' y' : Int} (a : Srt.IsPair h v x y) (b : Srt.IsPair h v x' y') : (x, y) = (x', y') := by
  obtain ⟨t, o, t1, t2, n, rfl, ho, hc, hd⟩ := a
  obtain ⟨t', o', t1', t2', n', e, ho', hc', hd'⟩ := b
  cases e
  rw [ho] at ho'
  cases ho'
  rw [hd] at hd'
  cases hd'
  rfl
theorem prOf_eq {h : Heap} {v : Value} {p : Int × Int} (a : Srt.IsPair h v p.1 p.2) : prOf h v = p := by
  have e : ∃ p : Int × Int, Srt.IsPair h v p.1 p.2 := ⟨p, a⟩
  unfold prOf
  rw [dif_pos e]
  have := isPair_uniq (Classical.choose_spec e) a
  exact this
section
variable {X : Cx}
theorem prs_vals {pins : List (Addr × Obj)} {σ : L2.St} {H : Hp} {s : Shared} (I : Inv X pins σ H s) : ∀ {xs : List V} {ps : List (Int × Int)} {us : List Value}, Prs X.K H xs ps → Vals xs us →
    us.map (prOf s.heap) = ps ∧ xs = us.map backV ∧ ∀ u ∈ us, ∃ (t : Addr) (p : Int × Int), u = Value.ref t ∧ SqT X.K H t [.int p.1, .int p.2] ∧ Srt.IsPair s.heap u p.1 p.2
  | _, _, _, .nil, .nil => ⟨rfl, rfl, fun u hu => absurd hu List.not_mem_nil⟩
  | _, _, _, .cons (t := t) (p := p) hq hp, .cons r rr => by
    obtain ⟨e1, e2, e3⟩ := prs_vals I hp rr
    cases r
    obtain ⟨its, rv, pt, _⟩ := I.tuple hq
    obtain ⟨u1, u2, rfl, ri, rj⟩ := vals2 rv
    obtain ⟨t1, rfl⟩ := ri
    obtain ⟨t2, rfl⟩ := rj
    obtain ⟨o, ho, hc, n, hd⟩ := pt
    have ip : Srt.IsPair s.heap (.ref t) p.1 p.2 := ⟨t, o, t1, t2, n, rfl, ho, hc, hd⟩
    refine ⟨?_, ?_, fun u hu => ?_⟩
    · rw [List.map_cons, e1, prOf_eq ip]
    · rw [List.map_cons, ← e2]; rfl
    · rcases List.mem_cons.mp hu with rfl | hu
      · exact ⟨t, p, rfl, hq, ip⟩
      · exact e3 u hu
theorem prs_of {K : PySem.W.Frag} {H : Hp} {h : Heap} : ∀ {us : List Value}, (∀ u ∈ us, ∃ (t : Addr) (p : Int × Int), u = Value.ref t ∧ SqT K H t [.int p.1, .int p.2] ∧ Srt.IsPair h u p.1 p.2) → Prs K H (us.map backV) (us.map (prOf h))
  | [], _ => .nil
  | u :: us, h => by
    obtain ⟨t, p, rfl, hq, ip⟩ := h u (List.mem_cons_self ..)
    rw [List.map_cons, List.map_cons, prOf_eq ip]
    exact .cons hq (prs_of fun v hv => h v (List.mem_cons_of_mem _ hv))
theorem cr_sortedPr : CallR X (.builtin "sorted") (rSortedPr X.K) := by
  intro pins s σ H vs us Q I r h
  obtain ⟨a, xs, ps, rfl, hs, hx, q⟩ := h
  obtain ⟨its, rv, hl, hz⟩ := I.list hs
  obtain ⟨u, rfl, ru⟩ := vals1 r
  obtain rfl : u = Value.ref a := ru
  obtain ⟨e1, e2, e3⟩ := prs_vals I hx rv
  refine SrtO.sorted_pairsO (k := prOf s.heap) hl.isList (by rw [← rv.length]; exact hz) (fun v hv => ?_) fun h' d out h1 h2 kp hd hn => ?_
  · obtain ⟨t, p, rfl, hq, ip⟩ := e3 v hv
    rw [prOf_eq ip]
    exact ip
  · have h3 : ∀ u ∈ out, ∃ (t : Addr) (p : Int × Int), u = Value.ref t ∧ SqT X.K H t [.int p.1, .int p.2] ∧ Srt.IsPair s.heap u p.1 p.2 := fun u hu => e3 u (h2.perm.mem_iff.mp hu)
    obtain ⟨n, hn⟩ := hn
    have hperm : (out.map (prOf s.heap)).Perm ps := by rw [← e1]; exact h2.perm.map _
    have hsort : (out.map (prOf s.heap)).Pairwise lexle := by
      refine List.pairwise_map.mpr (List.Pairwise.imp (fun {x y} hxy => ?_) h1)
      have := SrtO.lexB_no.mp hxy
      show _ ∨ _
      omega
    refine ⟨.ref d, upd H d (.lst (out.map backV)), I.laid (t' := s.toks) kp hd ⟨?_, out, n, vals_back (fun u hu => by obtain ⟨t, _, e, _⟩ := h3 u hu; exact ⟨t, e⟩), hn⟩, rfl, q _ _ d hperm hsort (prs_of h3) (I.hok.fresh hd)⟩
    rw [List.length_map, h2.perm.length_eq, ← rv.length]
    exact hz
/-- as data -/
abbrev pD (p : Int × Int) : D := .tup [.int p.1, .int p.2]
def pairsOf : List D → Option (List (Int × Int))
  | [] => some []
  | .tup [.int i, .int j] :: r => (pairsOf r).map ((i, j) :: ·)
  | _ => none
theorem pairsOf_map : ∀ ps : List (Int × Int), pairsOf (ps.map pD) = some ps
  | [] => rfl
  | (i, j) :: ps => by
    show (pairsOf (ps.map pD)).map ((i, j) :: ·) = _
    rw [pairsOf_map ps]; rfl
theorem of_pairsOf : ∀ {ds : List D} {ps : List (Int × Int)}, pairsOf ds = some ps → ds = ps.map pD
  | [], _, h => by cases h; rfl
  | d :: r, ps, h => by
    unfold pairsOf at h
    split at h
    · rename_i e; cases e
    · rename_i i j r' e
      cases e
      cases e2 : pairsOf r with
      | none => rw [e2] at h; cases h
      | some m => rw [e2] at h; cases h; rw [of_pairsOf e2]; rfl
    · cases h
theorem prs_reps {K : PySem.W.Frag} {H : Hp} : ∀ {ps : List (Int × Int)} {xs : List V}, Reps K H (ps.map pD) xs → Prs K H xs ps
  | [], _, r => by rw [show _ = ([] : List V) from r]; exact .nil
  | p :: ps, _, r => by
    obtain ⟨v, rr, rfl, rv, rs⟩ := r
    obtain ⟨t, us, rfl, hq, u1, r1, rfl, rfl, u2, r2, rfl, rfl, rfl⟩ := rv
    exact .cons hq (prs_reps rs)
theorem reps_prs {K : PySem.W.Frag} {H : Hp} : ∀ {ps : List (Int × Int)} {xs : List V}, Prs K H xs ps → Reps K H (ps.map pD) xs
  | _, _, .nil => rfl
  | _, _, .cons hq hp => ⟨_, _, rfl, ⟨_, _, rfl, hq, _, _, rfl, rfl, _, _, rfl, rfl, rfl⟩, reps_prs hp⟩
def dSortP (ds : List D) (S : Sh) (Q : List D → Sh → Prop) : Prop := match pairsOf ds with | some ps => ∀ qs : List (Int × Int), qs.Perm ps → qs.Pairwise lexle → Q (qs.map pD) S | none => False
theorem cn_sortedP : CN X (.builtin "sorted") dSortP := by
  refine ⟨_, cr_sortedPr, fun H S a vs ds w hs rs Q R k q => ?_⟩
  unfold dSortP at q
  cases e : pairsOf ds with
  | none => rw [e] at q; exact q.elim
  | some ps =>
    rw [e] at q
    obtain rfl := of_pairsOf e
    refine ⟨a, vs, ps, rfl, hs, prs_reps rs, fun ys qs l h1 h2 h3 hl => ?_⟩
    have g := Go.new (u := .lst ys) w hl
    exact k l _ ys (qs.map pD) S g hl upd_same (w.free hl) ((reps_prs h3).im (g.im w)) (q qs h1 h2)
end
end DL

set_option Elab.async false
set_option linter.all false
set_option maxRecDepth 100000
set_option maxHeartbeats 2000000
namespace DL
open PySem PySem.Spec L2 PyProof.Rows RZ
section
variable {X : Cx} {a b e : Expr} {τa τb τ : ED} {α : AD} {p p2 pos pos2 tpos : Pos} {elts : List Expr} {kk : Nat}
/-! ### zip of two tuples -/
def zipD : List D → List D → List D
  | x :: xs, y :: ys => .tup [x, y] :: zipD xs ys
  | _, _ => []
theorem zipD_get : ∀ {xs ys : List D} {i : Nat} {d : D}, (zipD xs ys)[i]? = some d → ∃ x y, xs[i]? = some x ∧ ys[i]? = some y ∧ d = .tup [x, y]
  | [], _, i, d, h => by simp [zipD] at h
  | _ :: _, [], i, d, h => by simp [zipD] at h
  | x :: xs, y :: ys, 0, d, h => by
    have h' : some (D.tup [x, y]) = some d := h
    cases h'
    exact ⟨x, y, rfl, rfl, rfl⟩
  | x :: xs, y :: ys, i + 1, d, h => zipD_get (xs := xs) (ys := ys) (i := i) h
theorem zipD_len : ∀ (xs ys : List D), (zipD xs ys).length = min xs.length ys.length
  | [], ys => by simp [zipD]
  | _ :: _, [] => by simp [zipD]
  | x :: xs, y :: ys => by
    show (zipD xs ys).length + 1 = min (xs.length + 1) (ys.length + 1)
    rw [zipD_len xs ys]
    omega
theorem simj_zipT {K : PySem.W.Frag} {Hb : Hp} {S : Sh} {H : Hp} {a b : Addr} {vs us : List V} {xs ys : List D} (rx : Reps K H xs vs) (ry : Reps K H ys us) (w : Wd K H S) (ha : SqT K H a vs) (hb : SqT K H b us) : SimJ K Hb S H (ItzT K a b) (zipD xs ys) (fun _ => True) := fun S' H' g _ i => by
  have im := g.im
  have h1 := im.t _ _ ha
  have h2 := im.t _ _ hb
  have r1 := rx.im im
  have r2 := ry.im im
  refine ⟨fun d hd => ?_, fun hi => ⟨vs, us, h1, h2, ?_⟩⟩
  · obtain ⟨x, y, hx, hy, rfl⟩ := zipD_get hd
    obtain ⟨v, hv, rv⟩ := r1.get hx
    obtain ⟨u, hu, ru⟩ := r2.get hy
    refine ⟨⟨vs, us, v, u, h1, h2, hv, hu⟩, fun z H2 ⟨T, v', u', e1, e2, e3, e4, e5⟩ => ?_⟩
    have f1 := e4 vs h1
    have f2 := e5 us h2
    rw [hv] at f1
    rw [hu] at f2
    cases f1
    cases f2
    subst e1
    subst e3
    have g2 := Go.new (u := .tup [v, u]) g.wd e2
    exact ⟨g2, T, [v, u], rfl, SqT.of upd_same, v, _, rfl, rv.im (g2.im g.wd), u, _, rfl, ru.im (g2.im g.wd), rfl⟩
  · rw [zipD_len, rx.length, ry.length] at hi
    omega
def dZipT (l : AD) : ID := fun δ S Q => l δ S fun ds S1 => match ds with | [.tup xs, .tup ys] => Q (zipD xs ys) (fun _ => True) S1 | _ => False
theorem i_zipT (hm : X.mg "zip" = none) (ha : A X [a, b] α) (hg : Gl X "zip" := by rfl) (hs : starEach [a, b] X.env = (false, eval a X.env) :: starEach [b] X.env := by rfl) (hpl : (backTo pos (starEach [b] X.env)).any (·.1) = false := by rfl) :
    I X (.Tuple elts kk tpos) (.Call (.Name "zip" p) [a, b] [] pos) (dZipT α) := by
  obtain ⟨t, a1, a2⟩ := ha
  refine ⟨_, pi_zipA hg hm a1 hs hpl, fun σ H δ S w sl Q R k h => ?_⟩
  refine a2 σ H δ S w sl _ _ (fun vs H1 ds S1 g1 rs q => ?_) h
  rcases ds with _ | ⟨d, _ | ⟨d2, _ | ⟨d3, ds⟩⟩⟩
  · exact False.elim q
  · cases d <;> exact False.elim q
  · obtain ⟨v, r, rfl, rv, u, r2, rfl, ru, rfl⟩ := rs
    cases d with
    | tup xs =>
      cases d2 with
      | tup ys =>
        obtain ⟨t1, vs1, rfl, q1, rs1⟩ := rv
        obtain ⟨t2, vs2, rfl, q2, rs2⟩ := ru
        exact ⟨t1, t2, vs1, vs2, rfl, .inr ⟨q1, q2, k _ H1 S1 _ _ g1 (simj_zipT rs1 rs2 g1.wd q1 q2) trivial q⟩⟩
      | _ => exact False.elim q
    | _ => exact False.elim q
  · cases d with
    | tup xs => cases d2 <;> exact False.elim q
    | _ => exact False.elim q
end
end DL

set_option Elab.async false
set_option linter.all false
set_option maxRecDepth 100000
set_option maxHeartbeats 2000000
namespace L2
open PySem PySem.Spec PyProof.Rows
open PySem.Builtin
/-! ### l[:] = r -/
section
variable {prog : Program} {w : World} {A : Around} {E : Value → Shared → Prop} {s : Shared}
theorem bounds_all (n : Nat) : sliceBounds none none none n = (((0 : Nat) : Int), (n : Int), 1) := by
  simp only [sliceBounds, Option.getD_none]
  simp
theorem store_all {l b sl : Addr} {old new : Array Value} {n n2 : Nat} {Q : Unit → Shared → Prop} (e : s.heap.get? l = some { cls := .type "list", data := .seq old n }) (e2 : s.heap.get? b = some { cls := .type "list", data := .seq new n2 })
    (dif : l ≠ b) (hs : s.heap.IsSliceOf sl .none .none .none) (big : old.size + new.size ≤ sizeLine) (h : Q () { s with heap := s.heap.update l (Obj.mapSeq fun xs => xs.extract 0 0 ++ new ++ xs.extract old.size xs.size) }) :
    wpAny (model prog w) A (setItem (.ref l) (.ref sl) (.ref b)) Q E s := by
  have one : s.heap.IsList l old := PySem.IsL.isList e
  have two : s.heap.IsList b new := PySem.IsL.isList e2
  obtain ⟨os, is1, is2, is3⟩ := id hs
  have isS : s.TypeIs (.ref sl) "slice" := ⟨os, is1, is2⟩
  have noStep : ¬ ((rawPart none == rawInt 0) = true) := Bool.false_ne_true
  have apart : Builtin.List.listSameRef (.ref l) (.ref b) = false := by unfold Builtin.List.listSameRef; exact beq_eq_false_iff_ne.mpr dif
  have top : (max ((0 : Nat) : Int) (old.size : Int)).toNat = old.size := by omega
  have fits : ((fun xs : Array Value => xs.extract 0 0 ++ new ++ xs.extract old.size xs.size) old).size ≤ sizeLine + 1 := by simp only [Array.size_append, Array.size_extract]; omega
  unfold setItem
  (try with_reducible refine wpAny_holding ?_); (first | refine wpAny_bind (wpAny_pure ?_) | skip)
  refine wpAny_bind (wpAny_sequenceKey one.typeIs (by decide) ?_)
  refine wpAny_bind (wpAny_callSpecial?_slot (name := Str.ofString "__setitem__") one.typeIs slot_list_setitem (wpAny_call_entry slot_list_setitem one.typeIs entry_list_setitem ?_ (args_list_setitem _ _ _)))
  (show wpAny _ _ (Builtin.List.listSubscript? (.ref sl) >>= _) _ _ s); refine wpAny_bind ?_; unfold Builtin.List.listSubscript?
  refine wpAny_bind (wpAny_specialOf isS slice_no_index ?_)
  simp only [Option.isNone_none, if_true]; refine wpAny_pure ?_
  (show wpAny _ _ (typeOf (.ref sl) >>= _) _ _ s); refine wpAny_bind (wpAny_typeOf isS ?_)
  (first | rw [if_neg (by decide)] | refine PySem.W.KFB.if_not (by decide) ?_)
  rw [listSliceParts_eq]; refine wpAny_bind (wpAny_bind (wpAny_field is1 is3 (x := .none) rfl (wpAny_bind (wpAny_listPart .none ?_)))); rw [if_neg noStep]
  refine wpAny_bind (wpAny_field is1 is3 (x := .none) rfl (wpAny_bind (wpAny_listPart .none ?_)))
  refine wpAny_bind (wpAny_field is1 is3 (x := .none) rfl (wpAny_bind (wpAny_listPart .none (wpAny_pure ?_))))
  (first | simp only [apart, Bool.false_eq_true, if_false] | refine PySem.W.KFB.if_not apart ?_ | (dsimp only; rw [if_neg (by rw [apart]; exact Bool.false_ne_true)]))
  refine wpAny_bind (m := Builtin.List.listAllItems (.ref b) "must assign iterable to extended slice") ?_; unfold Builtin.List.listAllItems
  refine wpAny_bind (wpAny_typeOf two.typeIs ?_)
  (first | refine PySem.W.KFB.if_so (by decide) ?_ | rw [if_pos (by decide)] | simp only [beq_self_eq_true, Bool.true_or, if_true]); unfold Builtin.List.listItems
  refine wpAny_bind (wpAny_seqItems e2 rfl (wpAny_pure ?_)); refine wpAny_bind (wpAny_bind (wpAny_seqItems e rfl (wpAny_pure ?_)))
  refine wpAny_bind (wpAny_of_eq ((sliceIndices_raw none none none old.size (by simp)).trans (congrArg (pure : Int × Int × Int → Sem (Int × Int × Int)) (bounds_all old.size))) ?_)
  (show wpAny _ _ (if ((1 : Int) == 1) = true then _ else _) _ _ s); rw [if_pos (by decide)]; refine wpAny_bind (wpAny_rule ?_)
  (first | simp only [notLongL big, Bool.false_eq_true, if_false] | refine PySem.W.KFB.if_not (notLongL big) ?_); (first | refine wpAny_bind (wpAny_pure ?_) | skip)
  show wpAny _ _ (updateSeq l (fun xs => xs.extract 0 (((0 : Nat) : Int)).toNat ++ new ++ xs.extract (max ((0 : Nat) : Int) (old.size : Int)).toNat xs.size) >>= _) _ _ s
  rw [top, Int.toNat_natCast]; refine wpAny_bind (wpAny_updateSeq (hz := Nat.le_trans (Nat.le_add_right _ _) big) (_hz' := fits) e rfl ?_); refine wpAny_bind (wpAny_letGo ?_)
  (first | exact wpAny_bind (wpAny_pure (wpAny_pure ⟨.none, rfl, wpAny_pure h⟩)) | exact wpAny_pure ⟨.none, rfl, wpAny_pure h⟩)
end
end L2

namespace L2
open PySem PySem.Spec PyProof.Rows
section
variable {X : Cx}
/-- o[:] = v, v another list -/
def gAll (to : TE) : TG := fun v σ H Q => to σ H fun x H1 => ∃ (l b : Addr) (xs ys : List V), x = .ref l ∧ v = .ref b ∧ l ≠ b ∧ H1 l = some (.lst xs) ∧ H1 b = some (.lst ys) ∧ xs.length + ys.length ≤ sizeLine ∧ Q σ (upd H1 l (.lst ys))
theorem pg_all {o : Expr} {to : TE} {p2 pos : Pos} (ho : DL.PE X o to)
    (ha : ∀ v, assign (.Subscript o (.Slice none none none p2) pos) X.env v = (do
      let ov ← holding [v] (eval o X.env); let iv ← holding [v, ov] (eval (.Slice none none none p2) X.env)
      standAt pos; holding [v, ov, iv] (setItem ov iv v)
      release [iv, v, ov] []) := by intro _; rfl) : DL.PG X (.Subscript o (.Slice none none none p2) pos) (gAll to) := by
  refine ⟨fun {pins s σ H v u Q} k0 I r h => ?_⟩
  rw [ha]
  refine wpAny_bind (wpAny_holding (thn (ho.run k0 I h) fun ov s1 ⟨x, H1, I1, r1, l, b, xs, ys, e1, e2, dif, hl, hb, big, q⟩ => ?_))
  subst e1
  subst e2
  cases r1
  cases r
  refine wpAny_bind (wpAny_holding (wpAny_Slice ?_)); rw [evalPart_none]; refine wpAny_pure (wpAny_pure (wpAny_pure ?_))
  have I4 : Inv X pins σ H1 { s1 with heap := s1.heap.push { cls := .type "slice", data := .fields #[.none, .none, .none] } } := I1.kept (t' := s1.toks) fun b ob q => Heap.get?_push_of_some _ q
  obtain ⟨z, its, n, rv, hl1, e⟩ := I4.lstM hl
  obtain ⟨z2, its2, n2, rv2, hl2, e2⟩ := I4.lstM hb
  refine wpAny_bind (wpAny_standAt (wpAny_bind (wpAny_holding ?_)))
  refine store_all (sl := s1.heap.objs.size) e e2 dif (Heap.IsSliceOf.new ..) (by rw [List.size_toArray, List.size_toArray, ← rv.length, ← rv2.length]; exact big) (wpAny_release ⟨σ, _, I4.lset (its' := its2) (t' := s1.toks) hl e ?_ rv2 (by omega), q⟩)
  simp
end
end L2
namespace DL
open PySem PySem.Spec L2
section
variable {X : Cx} {o : Expr} {τo : ED} {p2 pos : Pos}
def dSetAll (o : ED) : GD := fun d δ S Q => o δ S fun x S1 => match x, d with
  | .rf l, .rf b => l ≠ b ∧ (match S1 l, S1 b with | some (.lst xs), some (.lst ys) => xs.length + ys.length ≤ sizeLine ∧ Q δ (su S1 l (.lst ys)) | _, _ => False)
  | _, _ => False
theorem g_all (ho : E X o τo) (ha : ∀ v, assign (.Subscript o (.Slice none none none p2) pos) X.env v = (do
      let ov ← holding [v] (eval o X.env); let iv ← holding [v, ov] (eval (.Slice none none none p2) X.env)
      standAt pos; holding [v, ov, iv] (setItem ov iv v)
      release [iv, v, ov] []) := by intro _; rfl) : G X (.Subscript o (.Slice none none none p2) pos) (dSetAll τo) := by
  obtain ⟨t, a1, a2⟩ := ho
  refine ⟨_, pg_all a1 ha, fun σ H δ S v d w sl rv Q R k h => ?_⟩
  refine a2 σ H δ S w sl _ _ (fun vo H1 dx S1 g1 ro q => ?_) h
  cases dx <;> cases d <;> first | exact False.elim q | skip
  rename_i l b
  obtain ⟨dif, q⟩ := q
  obtain rfl := ro
  obtain rfl := rv
  split at q
  · rename_i xs ys ex ey
    obtain ⟨h1, e1, us, rfl, ru⟩ := g1.wd _ _ ex
    obtain ⟨h2, e2, vs, rfl, rv2⟩ := g1.wd _ _ ey
    refine ⟨l, b, us, vs, rfl, rfl, dif, e1, e2, by rw [← ru.length, ← rv2.length]; exact q.1, ?_⟩
    have g3 := Go.wr (u := .lst vs) (o' := .lst ys) g1.wd ex fun H' m => ⟨_, rfl, rv2.im m⟩
    exact k σ _ δ _ (g1.trans g3) ((sl.im (g1.im w)).im (g3.im g1.wd)) q.2
  · exact q.elim
end
end DL

set_option Elab.async false
set_option linter.all false
set_option maxRecDepth 100000
set_option maxHeartbeats 2000000
namespace L2
open PySem PySem.Spec PyProof.Rows
/-! ### t * k, k at most 0 -/
theorem tuple_mul0 (l : Addr) (old : Array Value) (n : Nat) (dd : Option Addr) (sl : Array (Option Value)) (x : Int) (u : Tok) (c0 : (decide (x < -(2 ^ 63)) || decide (x ≥ 2 ^ 63)) = false) (c1 : (old.isEmpty || x == 1) = false) (c2 : (decide (x ≤ 0) || old.isEmpty) = true) :
    Meets (Builtin.«tuple.__mul__» ⟨[.ref l, .int x u], []⟩) (fun _ R s => s.heap.get? l = some { cls := .type "tuple", dict := dd, data := .seq old n, slots := sl } ∧ R (.ok (.ret (Value.ref s.heap.objs.size))) { s with heap := s.heap.push { cls := Value.type "tuple", data := Data.seq #[] }, toks := s.toks }) :=
  .of_wp fun prog w A R s h => by
    obtain ⟨hp, g, d, tk, os⟩ := s; obtain ⟨hl, h⟩ := h
    have f1 := AutoSeq1.idx_int
    wp_walk using PySem.AutoSeq1.wpAny_loadPart' hl
    repeat (first
      | (refine wpAny_ite_false (decide_eq_false (by rw [c0]; exact Bool.false_ne_true)) ?_; (wp_walk using PySem.AutoSeq1.wpAny_loadPart' hl))
      | (refine wpAny_ite_false (decide_eq_false (by rw [c1]; exact Bool.false_ne_true)) ?_; (wp_walk using PySem.AutoSeq1.wpAny_loadPart' hl))
      | (refine wpAny_ite_true (decide_eq_true (by rw [c2])) ?_; (wp_walk using PySem.AutoSeq1.wpAny_loadPart' hl)))
    exact ⟨_, rfl, h⟩
theorem tuple_mul1 (l : Addr) (old : Array Value) (n : Nat) (dd : Option Addr) (sl : Array (Option Value)) (x : Int) (u : Tok) (c0 : (decide (x < -(2 ^ 63)) || decide (x ≥ 2 ^ 63)) = false) (c1 : (old.isEmpty || x == 1) = true) :
    Meets (Builtin.«tuple.__mul__» ⟨[.ref l, .int x u], []⟩) (fun _ R s => s.heap.get? l = some { cls := .type "tuple", dict := dd, data := .seq old n, slots := sl } ∧ R (.ok (.ret (Value.ref l))) s) :=
  .of_wp fun prog w A R s h => by
    obtain ⟨hp, g, d, tk, os⟩ := s; obtain ⟨hl, h⟩ := h
    have f1 := AutoSeq1.idx_int
    wp_walk using PySem.AutoSeq1.wpAny_loadPart' hl
    repeat (first
      | (refine wpAny_ite_false (decide_eq_false (by rw [c0]; exact Bool.false_ne_true)) ?_; (wp_walk using PySem.AutoSeq1.wpAny_loadPart' hl))
      | (refine wpAny_ite_true (decide_eq_true (by rw [c1])) ?_; (wp_walk using PySem.AutoSeq1.wpAny_loadPart' hl)))
    exact ⟨_, rfl, h⟩
end L2
namespace L2
open PySem PySem.Spec PyProof.Rows
def rRep0 (K : PySem.W.Frag) : R2 := fun x y H Q => ∃ (l : Addr) (k : Int) (xs : List V), x = .ref l ∧ y = .int k ∧ SqT K H l xs ∧ xs ≠ [] ∧ -(2 ^ 63) ≤ k ∧ k ≤ 0 ∧ ∀ p, H p = none → Q (.ref p) (upd H p (.tup []))
section
variable {X : Cx}
theorem op_rep0 : OpR X (binaryOp .Mult) (rRep0 X.K) := by
  intro pins s σ H x y v u Q I rx ry h
  obtain ⟨l, k, xs, rfl, rfl, hT, hne, h1, h2, q⟩ := h
  cases rx
  obtain ⟨t, rfl⟩ := ry
  obtain ⟨its, r, ⟨⟨cls, dd, data, sl⟩, ho, hc, n, hd⟩, hs⟩ := I.tuple hT
  simp only at hc hd
  subst hc hd
  have hn : its ≠ [] := fun e => hne (by have := r.length; rw [e] at this; exact List.eq_nil_of_length_eq_zero this)
  have hi : its.toArray.isEmpty = false := by cases its with | nil => exact absurd rfl hn | cons a b => rfl
  have c0 : (decide (k < -(2 ^ 63)) || decide (k ≥ 2 ^ 63)) = false := by rw [decide_eq_false (by omega), decide_eq_false (by omega)] <;> rfl
  have c1 : (its.toArray.isEmpty || k == 1) = false := by rw [hi, Bool.false_or]; exact beq_eq_false_iff_ne.mpr (by omega)
  have c2 : (decide (k ≤ 0) || its.toArray.isEmpty) = true := by rw [decide_eq_true h2]; rfl
  refine wpAny_binaryOp_repeat_ref (T := "tuple") (U := "int") (by decide) ⟨_, ho, rfl⟩ (fun s' => typeIs_int s' k t) noFill_tuple_mul F.fills_int_mul F.slot_int_rmul repeat_tuple F.slot_int_index.lookup
    (call_meets F.slot_int_rmul (typeIs_int s k t) F.entry_int_rmul (F.args_int_rmul_2 _ _) (int_rmul_tuple k t l its.toArray n dd sl) ⟨ho, rfl, ⟨_, ho, rfl⟩, call_meets F.slot_tuple_mul ⟨_, ho, rfl⟩ F.entry_tuple_mul (F.args_tuple_mul_2 _ _) (tuple_mul0 l its.toArray n dd sl k t c0 c1 c2) ⟨ho, ?_⟩⟩)
  refine ⟨.ref s.heap.objs.size, _, I.laid (t' := s.toks) (o := .tup []) (fun b ob q => Heap.get?_push_of_some _ q) (Nat.le_refl _) ?_, rfl, q _ (I.hok.fresh (Nat.le_refl _))⟩
  exact ⟨Nat.zero_le _, [], .nil, IsTup.new _ _⟩
end
end L2
namespace L2
open PySem PySem.Spec PyProof.Rows
def rRepB (K : PySem.W.Frag) : R2 := fun x y H Q => ∃ (l : Addr) (k : Int) (xs : List V), x = .ref l ∧ y = .int k ∧ SqT K H l xs ∧ xs ≠ [] ∧ 2 ≤ k ∧ k ≤ 100000 ∧ xs.length ≤ 10 ∧ ∀ p, H p = none → Q (.ref p) (upd H p (.tup (List.replicate k.toNat xs).flatten))
section
variable {X : Cx}
theorem op_repB : OpR X (binaryOp .Mult) (rRepB X.K) := by
  intro pins s σ H x y v u Q I rx ry h
  obtain ⟨l, k, xs, rfl, rfl, hT, hne, h1, h2, hz, q⟩ := h
  cases rx
  obtain ⟨t, rfl⟩ := ry
  obtain ⟨its, r, ⟨⟨cls, dd, data, sl⟩, ho, hc, n, hd⟩, hs⟩ := I.tuple hT
  simp only at hc hd
  subst hc hd
  have hle : its.length = xs.length := r.length.symm
  have hn : its ≠ [] := fun e => hne (by rw [e] at hle; exact List.eq_nil_of_length_eq_zero hle.symm)
  have hi : its.toArray.isEmpty = false := by cases its with | nil => exact absurd rfl hn | cons a b => rfl
  have hsz0 : its.toArray.size = xs.length := by rw [List.size_toArray, hle]
  have hm : ((its.toArray.size : Nat) : Int) * k ≤ 1000000 := by
    rw [hsz0]
    have a1 : ((xs.length : Nat) : Int) * k ≤ 10 * k := Int.mul_le_mul_of_nonneg_right (by omega) (by omega)
    omega
  have fl0 : k.toNat * xs.length ≤ 1000000 := Nat.le_trans (Nat.mul_le_mul (show k.toNat ≤ 100000 by omega) hz) (by decide)
  have flen : (List.replicate k.toNat its).flatten.length ≤ sizeLine := by
    rw [PyProof.Rows.lm_len_rep_flat, hle, sizeLine_eq]; omega
  have c0 : (decide (k < -(2 ^ 63)) || decide (k ≥ 2 ^ 63)) = false := by rw [decide_eq_false (by omega), decide_eq_false (by omega)] <;> rfl
  have c1 : (its.toArray.isEmpty || k == 1) = false := by rw [hi, Bool.false_or]; exact beq_eq_false_iff_ne.mpr (by omega)
  have c2 : (decide (k ≤ 0) || its.toArray.isEmpty) = false := by rw [hi, Bool.or_false]; exact decide_eq_false (by omega)
  have c4 : Builtin.Tuple.tupleTooMany (((its.toArray.size : Nat) : Int) * k) = false := by
    unfold Builtin.Tuple.tupleTooMany
    rw [sizeLine_eq]
    exact decide_eq_false (by omega)
  refine wpAny_binaryOp_repeat_ref (T := "tuple") (U := "int") (by decide) ⟨_, ho, rfl⟩ (fun s' => typeIs_int s' k t) noFill_tuple_mul F.fills_int_mul F.slot_int_rmul repeat_tuple F.slot_int_index.lookup
    (call_meets F.slot_int_rmul (typeIs_int s k t) F.entry_int_rmul (F.args_int_rmul_2 _ _) (int_rmul_tuple k t l its.toArray n dd sl) ⟨ho, rfl, ⟨_, ho, rfl⟩, call_meets F.slot_tuple_mul ⟨_, ho, rfl⟩ F.entry_tuple_mul (F.args_tuple_mul_2 _ _) (tuple_mulW l its.toArray n dd sl k t c0 c1 c2 (by omega) c4 (by rw [size_rep, List.size_toArray]; exact flen)) ⟨ho, ?_⟩⟩)
  rw [size_rep]
  refine ⟨.ref s.heap.objs.size, _, I.laid (t' := s.toks) (o := .tup (List.replicate k.toNat xs).flatten) (fun b ob q => Heap.get?_push_of_some _ q) (Nat.le_refl _) ?_, rfl, q _ (I.hok.fresh (Nat.le_refl _))⟩
  exact ⟨by rw [PyProof.Rows.lm_len_rep_flat, sizeLine_eq]; omega, _, r.rep k.toNat, IsTup.new _ _⟩
end
def rRep1 (K : PySem.W.Frag) : R2 := fun x y H Q => ∃ (l : Addr) (xs : List V), x = .ref l ∧ y = .int 1 ∧ SqT K H l xs ∧ Q (.ref l) H
section
variable {X : Cx}
theorem op_rep1 : OpR X (binaryOp .Mult) (rRep1 X.K) := by
  intro pins s σ H x y v u Q I rx ry h
  obtain ⟨l, xs, rfl, rfl, hT, q⟩ := h
  cases rx
  obtain ⟨t, rfl⟩ := ry
  obtain ⟨its, r, ⟨⟨cls, dd, data, sl⟩, ho, hc, n, hd⟩, hs⟩ := I.tuple hT
  simp only at hc hd
  subst hc hd
  have c0 : (decide ((1 : Int) < -(2 ^ 63)) || decide ((1 : Int) ≥ 2 ^ 63)) = false := by rw [decide_eq_false (by omega), decide_eq_false (by omega)] <;> rfl
  have c1 : (its.toArray.isEmpty || (1 : Int) == 1) = true := by rw [show ((1 : Int) == 1) = true from rfl, Bool.or_true]
  refine wpAny_binaryOp_repeat_ref (T := "tuple") (U := "int") (by decide) ⟨_, ho, rfl⟩ (fun s' => typeIs_int s' 1 t) noFill_tuple_mul F.fills_int_mul F.slot_int_rmul repeat_tuple F.slot_int_index.lookup
    (call_meets F.slot_int_rmul (typeIs_int s 1 t) F.entry_int_rmul (F.args_int_rmul_2 _ _) (int_rmul_tuple 1 t l its.toArray n dd sl) ⟨ho, rfl, ⟨_, ho, rfl⟩, call_meets F.slot_tuple_mul ⟨_, ho, rfl⟩ F.entry_tuple_mul (F.args_tuple_mul_2 _ _) (tuple_mul1 l its.toArray n dd sl 1 t c0 c1) ⟨ho, ?_⟩⟩)
  exact ⟨.ref l, H, I, rfl, q⟩
end
end L2
namespace DL
open PySem PySem.Spec L2
section
variable {X : Cx} {a b e : Expr} {τa τb τ : ED} {ν ν' : AD} {pos : Pos}
def dMulT : R2D := fun x y S Q => match x, y with
  | .tup xs, .int k => xs ≠ [] ∧ ((2 ≤ k ∧ ((k ≤ 1000 ∧ xs.length ≤ 1000) ∨ (k ≤ 100000 ∧ xs.length ≤ 10)) ∧ Q (.tup (List.replicate k.toNat xs).flatten) S) ∨ (-(2 ^ 63) ≤ k ∧ k ≤ 0 ∧ Q (.tup []) S) ∨ (k = 1 ∧ Q (.tup xs) S))
  | _, _ => False
theorem reps_flat {K : PySem.W.Frag} {H : Hp} {xs : List D} {vs : List V} (r : Reps K H xs vs) : ∀ n, Reps K H (List.replicate n xs).flatten (List.replicate n vs).flatten
  | 0 => rfl
  | n + 1 => by
    rw [List.replicate_succ, List.replicate_succ, List.flatten_cons, List.flatten_cons]
    exact r.append (reps_flat r n)
theorem o_mulT : O X (binaryOp .Mult) dMulT := by
  refine ⟨_, (op_repT.or op_repB).or (op_rep0.or op_rep1), fun H S x y dx dy w rx ry Q R k q => ?_⟩
  cases dx <;> cases dy <;> first | exact False.elim q | skip
  rename_i xs n
  obtain ⟨t, vs, rfl, hq, rs⟩ := rx
  obtain rfl := ry
  obtain ⟨ne, q⟩ := q
  have ne' : vs ≠ [] := fun e => ne (by have := rs.length; rw [e] at this; exact List.eq_nil_of_length_eq_zero this)
  rcases q with ⟨h1, ⟨h2, h3⟩ | ⟨h2, h3⟩, q⟩ | ⟨h1, h2, q⟩ | ⟨h1, q⟩
  · refine .inl (.inl ⟨t, n, vs, rfl, rfl, hq, ne', h1, h2, by rw [← rs.length]; exact h3, fun p hp => ?_⟩)
    have g := Go.new (u := .tup (List.replicate n.toNat vs).flatten) w hp
    exact k _ _ (.tup (List.replicate n.toNat xs).flatten) S g ⟨p, _, rfl, SqT.of upd_same, (reps_flat rs _).im (g.im w)⟩ q
  · refine .inl (.inr ⟨t, n, vs, rfl, rfl, hq, ne', h1, h2, by rw [← rs.length]; exact h3, fun p hp => ?_⟩)
    have g := Go.new (u := .tup (List.replicate n.toNat vs).flatten) w hp
    exact k _ _ (.tup (List.replicate n.toNat xs).flatten) S g ⟨p, _, rfl, SqT.of upd_same, (reps_flat rs _).im (g.im w)⟩ q
  · refine .inr (.inl ⟨t, n, vs, rfl, rfl, hq, ne', h1, h2, fun p hp => ?_⟩)
    have g := Go.new (u := .tup []) w hp
    exact k _ _ (.tup []) S g ⟨p, _, rfl, SqT.of upd_same, rfl⟩ q
  · subst h1
    exact .inr (.inr ⟨t, vs, rfl, rfl, hq, k _ _ (.tup xs) S (Go.refl w) ⟨t, vs, rfl, hq, rs⟩ q⟩)
/-- == of two lists, the left one an object -/
def dEqO (neg : Bool) (a : ED) (r : AD) : ED := fun δ S Q => a δ S fun x S1 => r δ S1 fun ys S2 => match x with
  | .rf p => (match S2 p with | some (.lst xs) => dEqP neg ((toPys xs).map .list) ((toPys ys).map .list) S2 Q | _ => False)
  | _ => False
theorem eq_o {op : CmpOp} {neg : Bool} {r : R2} (ho : OpR X (compareOp op) r) (hr : ∀ x y H Q, (∃ d e, Dp X.K H x d ∧ Dp X.K H y e ∧ SeqAt.shaped d = true ∧ SeqAt.shaped e = true ∧ Q (.bl (if neg then !PyData.eqv d e else PyData.eqv d e)) H) → r x y H Q)
    (ha : E X a τa) (hb : L X b ν') (hm : behindInMarks op b = false) : E X (.Compare a [op] [b] pos) (dEqO neg τa ν') ∧ T X (.Compare a [op] [b] pos) (dTB (dEqO neg τa ν')) := by
  obtain ⟨ta, a1, a2⟩ := ha
  obtain ⟨tb, b1, b2⟩ := hb
  suffices sim : SimE X.K (tOp r ta tb) (dEqO neg τa ν') by
    refine ⟨⟨_, pe_cmpR ho a1 b1 hm, sim⟩, ⟨_, pt_cmpR ho a1 b1 hm, fun σ H δ S w sl Q R k h => ?_⟩⟩
    refine sim σ H δ S w sl _ _ (fun v H' d S' g r' q => ?_) h
    cases d <;> first | exact False.elim q | skip
    exact ⟨_, r', k _ H' S' g q⟩
  intro σ H δ S w sl Q R k h
  refine a2 σ H δ S w sl _ _ (fun v H1 dx S1 g1 rx q => ?_) h
  refine b2 σ H1 δ S1 g1.wd (sl.im (g1.im w)) _ _ (fun p2 H2 us es S2 g2 hq rs2 q2 => ?_) q
  cases dx <;> first | exact False.elim q2 | skip
  rename_i p
  obtain rfl := rx
  simp only at q2
  split at q2
  · rename_i ds ed
    obtain ⟨ho2, e0, vs, rfl, rs⟩ := g2.wd _ _ ed
    unfold dEqP at q2
    split at q2
    · rename_i d e e1 e2
      cases f1 : toPys ds with
      | none => rw [f1] at e1; cases e1
      | some xs =>
        cases f2 : toPys es with
        | none => rw [f2] at e2; cases e2
        | some ys =>
          rw [f1] at e1
          rw [f2] at e2
          cases e1
          cases e2
          exact hr _ _ _ _ ⟨.list xs, .list ys, .lst (SqL.of e0) (toPys_dp rs f1), .lst hq (toPys_dp rs2 f2), q2.1, q2.2.1, k _ H2 (.bl _) S2 (g1.trans g2) rfl q2.2.2⟩
    · exact q2.elim
  · exact q2.elim
theorem e_eqO (hu : X.A.units + 64 < cLine) (ha : E X a τa) (hb : L X b ν') (hm : behindInMarks .Eq b = false := by exact nomark _) : E X (.Compare a [.Eq] [b] pos) (dEqO false τa ν') := (eq_o (neg := false) (op_eqD hu) (fun _ _ _ _ h => h) ha hb hm).1
theorem t_eqO (hu : X.A.units + 64 < cLine) (ha : E X a τa) (hb : L X b ν') (hm : behindInMarks .Eq b = false := by exact nomark _) : T X (.Compare a [.Eq] [b] pos) (dTB (dEqO false τa ν')) := (eq_o (neg := false) (op_eqD hu) (fun _ _ _ _ h => h) ha hb hm).2
theorem e_neO (hu : X.A.units + 64 < cLine) (ha : E X a τa) (hb : L X b ν') (hm : behindInMarks .NotEq b = false := by exact nomark _) : E X (.Compare a [.NotEq] [b] pos) (dEqO true τa ν') := (eq_o (neg := true) (op_neD hu) (fun _ _ _ _ h => h) ha hb hm).1
theorem t_neO (hu : X.A.units + 64 < cLine) (ha : E X a τa) (hb : L X b ν') (hm : behindInMarks .NotEq b = false := by exact nomark _) : T X (.Compare a [.NotEq] [b] pos) (dTB (dEqO true τa ν')) := (eq_o (neg := true) (op_neD hu) (fun _ _ _ _ h => h) ha hb hm).2
end
end DL

set_option Elab.async false
set_option linter.all false
set_option maxRecDepth 100000
set_option maxHeartbeats 2000000
namespace DL
open PySem PySem.Spec L2 DK PyProof.Rows
/-! ### the one sorted list -/
section
variable {α : Type}
structure Slo (lt : α → α → Bool) : Prop where
  asym : ∀ a b, lt a b = true → lt b a = false
  trans : ∀ a b c, lt a b = true → lt b c = true → lt a c = true
  tri : ∀ a b, lt a b = false → lt b a = false → a = b
theorem Slo.irr {lt : α → α → Bool} (h : Slo lt) (a : α) : lt a a = false := by
  cases e : lt a a with
  | false => rfl
  | true => rw [h.asym a a e] at e; cases e
theorem Slo.neg {lt : α → α → Bool} (h : Slo lt) (a b c : α) (h1 : lt b a = false) (h2 : lt c b = false) : lt c a = false := by
  cases e : lt c a with
  | false => rfl
  | true =>
    cases e2 : lt a b with
    | true => rw [h.trans c a b e e2] at h2; cases h2
    | false =>
      have := h.tri a b e2 h1
      subst this
      rw [e] at h2; cases h2
/-- with each member once -/
def uins (lt : α → α → Bool) (x : α) : List α → List α
  | [] => [x]
  | y :: r => if lt x y = true then x :: y :: r else if lt y x = true then y :: uins lt x r else y :: r
def usort (lt : α → α → Bool) (l : List α) : List α := l.foldr (uins lt) []
theorem mem_uins {lt : α → α → Bool} (h : Slo lt) {x y : α} : ∀ {l : List α}, y ∈ uins lt x l ↔ y = x ∨ y ∈ l
  | [] => by unfold uins; simp
  | z :: r => by
    unfold uins
    by_cases h1 : lt x z = true
    · rw [if_pos h1, List.mem_cons]
    · rw [if_neg h1]
      by_cases h2 : lt z x = true
      · rw [if_pos h2, List.mem_cons, mem_uins h, List.mem_cons]
        exact ⟨fun q => q.elim (fun e => .inr (.inl e)) fun q => q.elim .inl fun q => .inr (.inr q), fun q => q.elim (fun e => .inr (.inl e)) fun q => q.elim .inl fun q => .inr (.inr q)⟩
      · rw [if_neg h2]
        have e : x = z := h.tri x z (by simpa using h1) (by simpa using h2)
        subst e
        rw [List.mem_cons]
        exact ⟨.inr, fun q => q.elim .inl id⟩
theorem pw_uins {lt : α → α → Bool} (h : Slo lt) {x : α} : ∀ {l : List α}, l.Pairwise (fun a b => lt a b = true) → (uins lt x l).Pairwise fun a b => lt a b = true
  | [], _ => by unfold uins; simp
  | z :: r, p => by
    obtain ⟨p1, p2⟩ := List.pairwise_cons.mp p
    unfold uins
    by_cases h1 : lt x z = true
    · rw [if_pos h1]
      refine List.pairwise_cons.mpr ⟨fun y hy => ?_, p⟩
      rcases List.mem_cons.mp hy with rfl | hy
      · exact h1
      · exact h.trans _ _ _ h1 (p1 y hy)
    · rw [if_neg h1]
      by_cases h2 : lt z x = true
      · rw [if_pos h2]
        refine List.pairwise_cons.mpr ⟨fun y hy => ?_, pw_uins h p2⟩
        rcases (mem_uins h).mp hy with rfl | hy
        · exact h2
        · exact p1 y hy
      · rw [if_neg h2]; exact p
theorem mem_usort {lt : α → α → Bool} (h : Slo lt) {y : α} : ∀ {l : List α}, y ∈ usort lt l ↔ y ∈ l
  | [] => Iff.rfl
  | x :: l => by
    show y ∈ uins lt x (usort lt l) ↔ _
    rw [mem_uins h, mem_usort h, List.mem_cons]
theorem pw_usort {lt : α → α → Bool} (h : Slo lt) : ∀ l : List α, (usort lt l).Pairwise fun a b => lt a b = true
  | [] => List.Pairwise.nil
  | x :: l => pw_uins h (pw_usort h l)
theorem pw_nodup {lt : α → α → Bool} (h : Slo lt) {l : List α} (p : l.Pairwise fun a b => lt a b = true) : l.Nodup := p.imp fun {a b} q e => by rw [e, h.irr] at q; cases q
theorem pw_uniq [DecidableEq α] {lt : α → α → Bool} (h : Slo lt) {l m : List α} (p : l.Pairwise fun a b => lt a b = true) (q : m.Pairwise fun a b => lt a b = true) (e : ∀ x, x ∈ l ↔ x ∈ m) : l = m :=
  List.Perm.eq_of_pairwise (fun a b _ _ h1 h2 => by rw [h.asym a b h1] at h2; cases h2) p q ((List.perm_ext_iff_of_nodup (pw_nodup h p) (pw_nodup h q)).mpr e)
theorem usort_eq [DecidableEq α] {lt : α → α → Bool} (h : Slo lt) {l m : List α} (p : m.Pairwise fun a b => lt a b = true) (e : ∀ x, x ∈ m ↔ x ∈ l) : m = usort lt l := pw_uniq h p (pw_usort h l) fun x => (e x).trans (mem_usort h).symm
/-- with all members -/
def sins (lt : α → α → Bool) (x : α) : List α → List α
  | [] => [x]
  | y :: r => if lt y x = true then y :: sins lt x r else x :: y :: r
def isort (lt : α → α → Bool) (l : List α) : List α := l.foldr (sins lt) []
theorem sins_perm {lt : α → α → Bool} {x : α} : ∀ {l : List α}, (sins lt x l).Perm (x :: l)
  | [] => List.Perm.refl _
  | y :: r => by
    unfold sins
    by_cases h1 : lt y x = true
    · rw [if_pos h1]; exact (List.Perm.cons y sins_perm).trans (List.Perm.swap x y r)
    · rw [if_neg h1]
theorem isort_perm {lt : α → α → Bool} : ∀ {l : List α}, (isort lt l).Perm l
  | [] => List.Perm.refl _
  | x :: l => (sins_perm (l := isort lt l)).trans (List.Perm.cons x isort_perm)
theorem isort_len {lt : α → α → Bool} {l : List α} : (isort lt l).length = l.length := isort_perm.length_eq
theorem pw_sins {lt : α → α → Bool} (h : Slo lt) {x : α} : ∀ {l : List α}, l.Pairwise (fun a b => lt b a = false) → (sins lt x l).Pairwise fun a b => lt b a = false
  | [], _ => by unfold sins; simp
  | z :: r, p => by
    obtain ⟨p1, p2⟩ := List.pairwise_cons.mp p
    unfold sins
    by_cases h1 : lt z x = true
    · rw [if_pos h1]
      refine List.pairwise_cons.mpr ⟨fun y hy => ?_, pw_sins h p2⟩
      rcases List.mem_cons.mp (sins_perm.mem_iff.mp hy) with rfl | hy
      · exact h.asym _ _ h1
      · exact p1 y hy
    · rw [if_neg h1]
      refine List.pairwise_cons.mpr ⟨fun y hy => ?_, p⟩
      have h1' : lt z x = false := by simpa using h1
      rcases List.mem_cons.mp hy with rfl | hy
      · exact h1'
      · exact h.neg _ _ _ h1' (p1 y hy)
theorem pw_isort {lt : α → α → Bool} (h : Slo lt) : ∀ l : List α, (isort lt l).Pairwise fun a b => lt b a = false
  | [] => List.Pairwise.nil
  | x :: l => pw_sins h (pw_isort h l)
theorem isort_eq {lt : α → α → Bool} (h : Slo lt) {l m : List α} (p : m.Pairwise fun a b => lt b a = false) (e : m.Perm l) : m = isort lt l :=
  List.Perm.eq_of_pairwise (fun a b _ _ h1 h2 => h.tri a b h2 h1) p (pw_isort h l) (e.trans isort_perm.symm)
end
def ltI (a b : Int) : Bool := decide (a < b)
theorem slo_I : Slo ltI := ⟨fun a b h => decide_eq_false (by have := of_decide_eq_true h; omega), fun a b c h1 h2 => decide_eq_true (by have := of_decide_eq_true h1; have := of_decide_eq_true h2; omega), fun a b h1 h2 => by have := of_decide_eq_false h1; have := of_decide_eq_false h2; omega⟩
theorem slo_S : Slo ltCps := by
  refine ⟨fun a b h => ?_, fun a b c h1 h2 => ?_, fun a b h1 h2 => ?_⟩
  · rw [ltCps_eq] at h ⊢
    exact decide_eq_false fun q => List.lt_irrefl a (List.lt_trans (of_decide_eq_true h) q)
  · rw [ltCps_eq] at h1 h2 ⊢
    exact decide_eq_true (List.lt_trans (of_decide_eq_true h1) (of_decide_eq_true h2))
  · rw [ltCps_eq] at h1 h2
    exact List.le_antisymm (List.not_lt.mp (of_decide_eq_false h2)) (List.not_lt.mp (of_decide_eq_false h1))
theorem rising_pw : ∀ {l : List Str} {p : Str}, risingS p l = true → (p :: l).Pairwise fun a b => ltCps b.cps.toList a.cps.toList = false
  | [], p, _ => by simp
  | x :: r, p, h => by
    have h' : (!ltCps x.cps.toList p.cps.toList && risingS x r) = true := h
    rw [Bool.and_eq_true, Bool.not_eq_true'] at h'
    have q := rising_pw h'.2
    refine List.pairwise_cons.mpr ⟨fun y hy => ?_, q⟩
    rcases List.mem_cons.mp hy with rfl | hy
    · exact h'.1
    · exact slo_S.neg _ _ _ h'.1 ((List.pairwise_cons.mp q).1 y hy)
theorem sortedS_pw : ∀ {l : List Str}, sortedS l = true → l.Pairwise fun a b => ltCps b.cps.toList a.cps.toList = false
  | [], _ => List.Pairwise.nil
  | _ :: _, h => rising_pw h
theorem tx_back (y : Str) : tx y.cps.toList = y := by cases y; rfl
theorem tx_cps (s : List Nat) : (tx s).cps.toList = s := by simp
/-! ### sets of keys -/
def kyOf : D → Option Ky
  | .int i => some (.i i)
  | .str s => some (.s s)
  | _ => none
def kysOf : List D → Option (List Ky)
  | [] => some []
  | d :: ds => match kyOf d, kysOf ds with | some k, some ks => some (k :: ks) | _, _ => none
theorem ky_rep {K : PySem.W.Frag} {H : Hp} {d : D} {v : V} {k : Ky} (r : Rep K H d v) (h : kyOf d = some k) : v = kV k.k := by
  cases d <;> first | (cases h; done) | (cases h; exact r)
theorem kys_rep {K : PySem.W.Frag} {H : Hp} : ∀ {ds : List D} {vs : List V} {ks : List Ky}, Reps K H ds vs → kysOf ds = some ks → vs = (ks.map Ky.k).map kV
  | [], _, _, r, h => by cases h; exact r
  | d :: ds, _, ks, r, h => by
    obtain ⟨v, vs, rfl, r1, r2⟩ := r
    unfold kysOf at h
    cases e1 : kyOf d with
    | none => rw [e1] at h; cases h
    | some k =>
      cases e2 : kysOf ds with
      | none => rw [e1, e2] at h; cases h
      | some q =>
        rw [e1, e2] at h
        cases h
        rw [ky_rep r1 e1, kys_rep r2 e2]; rfl
theorem kysOf_ints : ∀ ns : List Int, kysOf (ns.map D.int) = some (ns.map Ky.i)
  | [] => rfl
  | n :: ns => by rw [List.map_cons, kysOf, kysOf_ints ns]; rfl
theorem kysOf_strs : ∀ ns : List (List Nat), kysOf (ns.map D.str) = some (ns.map Ky.s)
  | [] => rfl
  | n :: ns => by rw [List.map_cons, kysOf, kysOf_strs ns]; rfl
theorem kysOf_len : ∀ {ds : List D} {ks : List Ky}, kysOf ds = some ks → ks.length = ds.length
  | [], _, h => by cases h; rfl
  | d :: ds, _, h => by
    unfold kysOf at h
    cases e1 : kyOf d with
    | none => rw [e1] at h; cases h
    | some k =>
      cases e2 : kysOf ds with
      | none => rw [e1, e2] at h; cases h
      | some q => rw [e1, e2] at h; cases h; rw [List.length_cons, List.length_cons, kysOf_len e2]
theorem memKy {ks : List Ky} {k : Ky} : memK (ks.map Ky.k) k.k = decide (k ∈ ks) := by
  rw [Bool.eq_iff_iff, memK_iff, List.mem_map, decide_eq_true_eq]
  exact ⟨fun ⟨j, h, e⟩ => by rw [← Ky.inj e]; exact h, fun h => ⟨k, h, rfl⟩⟩
section
variable {X : Cx} {a b e : Expr} {τa τb τ : ED} {ν : AD} {p p2 pos pos2 : Pos}
def dInT (w : World) (neg : Bool) : R2D := fun x y S Q => match kyOf x, y with | some k, .kst w' ks => w' = w ∧ Q (.bl (if neg then !decide (k ∈ ks) else decide (k ∈ ks))) S | _, _ => False
theorem o_kst {op : CmpOp} {neg : Bool} (h : OpR X (compareOp op) (rInM X.w neg)) : O X (compareOp op) (dInT X.w neg) := by
  refine ⟨_, h, fun H S x y dx dy w rx ry Q R k q => ?_⟩
  unfold dInT at q
  cases e : kyOf dx with
  | none => rw [e] at q; exact q.elim
  | some ky =>
    rw [e] at q
    cases dy with
    | kst w' ks =>
      obtain ⟨rfl, q⟩ := q
      obtain ⟨c, n, rfl, hc⟩ := ry
      refine ⟨ky.k, c, _, n, ky_rep rx e, rfl, hc, ?_⟩
      rw [memKy]
      exact k _ H (.bl _) S (Go.refl w) rfl q
    | _ => exact q.elim
theorem o_inT : O X (compareOp .In) (dInT X.w false) := o_kst or_inM
theorem o_notInT : O X (compareOp .NotIn) (dInT X.w true) := o_kst or_ninM
def dSetK (w : World) (ds : List D) (S : Sh) (Q : QD) : Prop := match kysOf ds with | some ks => ks.length + 1 < scanBound ∧ Q (.kst w ks) S | none => False
def dSetT (w : World) : CD := fun ds S Q => match ds with | [.tup xs] => dSetK w xs S Q | _ => False
theorem c_setT (hc : X.calm = true := by rfl) : C X (.type "set") (dSetT X.w) := by
  refine ⟨_, cr_setK hc, fun H S vs ds w rs Q R k q => ?_⟩
  rcases ds with _ | ⟨d, _ | ⟨d2, ds⟩⟩
  · exact False.elim q
  · cases d with
    | tup xs =>
      obtain ⟨v, r, rfl, rv, rfl⟩ := rs
      obtain ⟨t, us, rfl, hq, ru⟩ := rv
      have q' : dSetK X.w xs S Q := q
      unfold dSetK at q'
      cases e : kysOf xs with
      | none => rw [e] at q'; exact q'.elim
      | some ks =>
        rw [e] at q'
        refine ⟨t, ks.map Ky.k, rfl, .inr (by rw [← kys_rep ru e]; exact hq), by rw [List.length_map]; exact q'.1, fun b c hb => ?_⟩
        have g := Go.new (u := SetM X.w b (memK (ks.map Ky.k)) c) w hb
        exact k _ _ (.kst X.w ks) S g ⟨b, c, rfl, upd_same⟩ q'.2
    | _ => exact False.elim q
  · cases d <;> exact False.elim q
/-- set(xs), xs a list -/
theorem cl_set (hc : X.calm = true := by rfl) : CL X (.type "set") (dSetK X.w) := by
  refine ⟨_, cr_setK hc, fun H S a vs ds w hs rs Q R k q => ?_⟩
  unfold dSetK at q
  cases e : kysOf ds with
  | none => rw [e] at q; exact q.elim
  | some ks =>
    rw [e] at q
    refine ⟨a, ks.map Ky.k, rfl, .inl (by rw [← kys_rep rs e]; exact hs), by rw [List.length_map]; exact q.1, fun b c hb => ?_⟩
    have g := Go.new (u := SetM X.w b (memK (ks.map Ky.k)) c) w hb
    exact k _ _ (.kst X.w ks) S g ⟨b, c, rfl, upd_same⟩ q.2
/-! ### sorted(set) -/
def kint : List Ky → Option (List Int)
  | [] => some []
  | .i n :: r => (kint r).map (n :: ·)
  | .s _ :: _ => none
def kstr : List Ky → Option (List (List Nat))
  | [] => some []
  | .s n :: r => (kstr r).map (n :: ·)
  | .i _ :: _ => none
theorem kint_map : ∀ ns : List Int, kint (ns.map Ky.i) = some ns
  | [] => rfl
  | n :: ns => by rw [List.map_cons, kint, kint_map ns]; rfl
theorem kstr_map : ∀ ns : List (List Nat), kstr (ns.map Ky.s) = some ns
  | [] => rfl
  | n :: ns => by rw [List.map_cons, kstr, kstr_map ns]; rfl
theorem of_kint : ∀ {ks : List Ky} {ns : List Int}, kint ks = some ns → ks = ns.map Ky.i
  | [], _, h => by cases h; rfl
  | .i n :: r, _, h => by
    unfold kint at h
    cases e : kint r with
    | none => rw [e] at h; cases h
    | some m => rw [e] at h; cases h; rw [of_kint e]; rfl
  | .s _ :: _, _, h => by cases h
theorem of_kstr : ∀ {ks : List Ky} {ns : List (List Nat)}, kstr ks = some ns → ks = ns.map Ky.s
  | [], _, h => by cases h; rfl
  | .s n :: r, _, h => by
    unfold kstr at h
    cases e : kstr r with
    | none => rw [e] at h; cases h
    | some m => rw [e] at h; cases h; rw [of_kstr e]; rfl
  | .i _ :: _, _, h => by cases h
def dSortKs (ks : List Ky) (S : Sh) (Q : List D → Sh → Prop) : Prop := match kint ks with
  | some ns => Q ((usort ltI ns).map D.int) S
  | none => match kstr ks with
    | some ns => Q ((usort ltCps ns).map D.str) S
    | none => False
def dSortS (w : World) (a : ED) : AD := fun δ S Q => a δ S fun x S1 => match x with | .kst w' ks => w' = w ∧ dSortKs ks S1 Q | _ => False
def rSortM (w : World) : List V → Hp → VK → Prop := fun vs H Q => rSortMI w vs H Q ∨ rSortMS w vs H Q
theorem cr_sortM (hc : X.calm = true) : CallR X (.builtin "sorted") (rSortM X.w) := CallR.or (cr_sortMI hc) (cr_sortMS hc)
theorem n_sortS {x : Str} (hm : X.mg x = none) (ha : E X a τ) (hc : X.calm = true := by rfl) (hg : Gl X x := by rfl) (hv : bootBuiltins x = some (.builtin "sorted") := by decide +kernel) (hn : x ≠ "__name__" := by decide) (hdb : (x == ("__debug__" : Str)) = false := by decide)
    (he : starEach [a] X.env = (false, eval a X.env) :: starEach [] X.env := by rfl) (hpl : (backTo pos (starEach [] X.env)).any (·.1) = false := by rfl) : N X (.Call (.Name x p) [a] [] pos) (dSortS X.w τ) := by
  obtain ⟨t, a1, a2⟩ := ha
  refine ⟨_, pe_callB (cr_sortM hc) hg hm hv (pa_cons a1 pa_nil he) hn hdb he hpl, fun σ H δ S w sl Q R k h => ?_⟩
  refine a2 σ H δ S w sl _ _ (fun v H1 d S1 g1 r1 q => ?_) h
  cases d with
  | kst w' ks =>
    obtain ⟨rfl, q⟩ := q
    obtain ⟨c, n, rfl, hH⟩ := r1
    unfold dSortKs at q
    cases e : kint ks with
    | some ns =>
      rw [e] at q
      refine .inl ⟨c, _, n, rfl, hH, fun j hj => ?_, fun ms l h1 h2 h3 h4 hl => ?_⟩
      · rw [memK_iff, of_kint e, List.map_map] at hj
        obtain ⟨i, _, ei⟩ := List.mem_map.mp hj
        exact ⟨i, ei.symm⟩
      · have em : ms = usort ltI ns := by
          refine usort_eq slo_I ?_ fun i => ?_
          · exact (h1.and h2).imp fun {x y} z => decide_eq_true (by have := z.1; have := z.2; omega)
          · rw [h3 i, show (Sum.inl i : Key) = (Ky.i i).k from rfl, memKy, decide_eq_true_eq, of_kint e, List.mem_map]
            exact ⟨fun ⟨j, h, z⟩ => by cases z; exact h, fun h => ⟨i, h, rfl⟩⟩
        have g := Go.new (u := .lst (ms.map V.int)) g1.wd hl
        dsimp only at q
        rw [← em] at q
        exact k l _ _ (ms.map D.int) S1 (g1.trans g) (g1.th l hl) upd_same (g1.wd.free hl) Reps.of_ints q
    | none =>
      rw [e] at q
      dsimp only at q
      cases e2 : kstr ks with
      | none => rw [e2] at q; exact q.elim
      | some ns =>
        rw [e2] at q
        refine .inr ⟨c, _, n, rfl, hH, fun j hj => ?_, fun ms l h1 h2 h3 h4 hl => ?_⟩
        · rw [memK_iff, of_kstr e2, List.map_map] at hj
          obtain ⟨i, _, ei⟩ := List.mem_map.mp hj
          exact ⟨_, ei.symm⟩
        · have em : ms.map (fun y => y.cps.toList) = usort ltCps ns := by
            have inj : ∀ {x y : Str}, x.cps.toList = y.cps.toList → x = y := fun {x y} z => by rw [← tx_back x, ← tx_back y, z]
            refine usort_eq slo_S ?_ fun i => ?_
            · refine List.pairwise_map.mpr (((sortedS_pw h1).and h2).imp fun {x y} z => ?_)
              cases e3 : ltCps x.cps.toList y.cps.toList with
              | true => rfl
              | false => exact absurd (inj (slo_S.tri _ _ e3 z.1)) z.2
            · rw [List.mem_map]
              constructor
              · rintro ⟨y, hy, rfl⟩
                have := (h3 y).mp hy
                rw [← tx_back y, show (Sum.inr (tx y.cps.toList) : Key) = (Ky.s y.cps.toList).k from rfl, memKy, decide_eq_true_eq, of_kstr e2, List.mem_map] at this
                obtain ⟨j, hj, z⟩ := this
                cases z; exact hj
              · intro hi
                refine ⟨tx i, (h3 _).mpr ?_, tx_cps i⟩
                rw [show (Sum.inr (tx i) : Key) = (Ky.s i).k from rfl, memKy, decide_eq_true_eq, of_kstr e2, List.mem_map]
                exact ⟨i, hi, rfl⟩
          have em2 : ms.map V.str = ((usort ltCps ns).map tx).map V.str := by rw [← em, List.map_map (l := ms), show (tx ∘ fun y : Str => y.cps.toList) = id from funext tx_back, List.map_id]
          rw [em2]
          have g := Go.new (u := .lst (((usort ltCps ns).map tx).map V.str)) g1.wd hl
          exact k l _ _ ((usort ltCps ns).map D.str) S1 (g1.trans g) (g1.th l hl) upd_same (g1.wd.free hl) (Reps.strs _) q
  | _ => exact q.elim
/-! ### sorted(list) of ints, of texts -/
def rSortedSA (K : PySem.W.Frag) : List V → Hp → VK → Prop := fun vs H Q => ∃ (a : Addr) (xs : List Str), vs = [V.ref a] ∧ SqL K H a (xs.map V.str) ∧ ∀ (ys : List Str) (p : Addr), ys.Perm xs → sortedS ys = true → H p = none → Q (.ref p) (upd H p (.lst (ys.map V.str)))
theorem cr_sortedSA : CallR X (.builtin "sorted") (rSortedSA X.K) := by
  intro pins s σ H vs us Q I r h
  obtain ⟨a, xs, rfl, hs, q⟩ := h
  obtain ⟨its, rv, hl, hz⟩ := I.list hs
  rw [Vals.ref1 r]
  have z0 := rv.length
  refine sorted_strsAny hl.isList rv.strs (by rw [← z0]; exact hz) fun out ys h1 h2 h3 => ?_
  obtain ⟨ep, he'⟩ := PyProof.Rows.sortedAll_at s.heap its out
  have hlen : (ys.map V.str).length ≤ sizeLine := by rw [List.length_map, h2.length_eq, ← List.length_map (f := V.str)]; exact hz
  exact ⟨.ref _, upd H (s.heap.objs.size + 1) (.lst (ys.map V.str)), I.laid (t' := s.toks) (fun _ _ => PyProof.Rows.sortedAll_old) (Nat.le_succ _) ⟨hlen, out.toList, ep, vals_of_strs h1, he'⟩, rfl, q ys _ h2 h3 (I.hok.fresh (Nat.le_succ _))⟩
def dSortA (ds : List D) (S : Sh) (Q : List D → Sh → Prop) : Prop := match intsOf ds with
  | some ns => Q ((isort ltI ns).map D.int) S
  | none => match strsOf ds with
    | some ss => Q ((isort ltCps ss).map D.str) S
    | none => False
theorem cn_sortA : CN X (.builtin "sorted") dSortA := by
  refine ⟨_, CallR.or cr_sortedI cr_sortedSA, fun H S a vs ds w hs rs Q R k q => ?_⟩
  unfold dSortA at q
  cases e : intsOf ds with
  | some ns =>
    rw [e] at q
    obtain rfl := of_intsOf e
    obtain rfl := Reps.ints rs
    refine .inl ⟨a, ns, rfl, hs, fun ms l h1 h2 hl => ?_⟩
    have em : ms = isort ltI ns := isort_eq slo_I (h2.imp fun {x y} z => decide_eq_false (by omega)) h1
    dsimp only at q
    rw [← em] at q
    have g := Go.new (u := .lst (ms.map V.int)) w hl
    exact k l _ _ (ms.map D.int) S g hl upd_same (w.free hl) Reps.of_ints q
  | none =>
    rw [e] at q
    dsimp only at q
    cases e2 : strsOf ds with
    | none => rw [e2] at q; exact q.elim
    | some ss =>
      rw [e2] at q
      obtain rfl := of_strsOf e2
      obtain rfl := Reps.of_strs rs
      refine .inr ⟨a, ss.map tx, rfl, hs, fun ms l h1 h2 hl => ?_⟩
      have em : ms.map (fun y => y.cps.toList) = isort ltCps ss := by
        refine isort_eq slo_S (List.pairwise_map.mpr (sortedS_pw h2)) ?_
        have := h1.map fun y : Str => y.cps.toList
        rw [List.map_map, show ((fun y : Str => y.cps.toList) ∘ tx) = id from funext tx_cps, List.map_id] at this
        exact this
      have em2 : ms.map V.str = ((isort ltCps ss).map tx).map V.str := by rw [← em, List.map_map (l := ms), show (tx ∘ fun y : Str => y.cps.toList) = id from funext tx_back, List.map_id]
      rw [em2]
      have g := Go.new (u := .lst (((isort ltCps ss).map tx).map V.str)) w hl
      exact k l _ _ ((isort ltCps ss).map D.str) S g hl upd_same (w.free hl) (Reps.strs _) q
end
end DL

set_option Elab.async false
set_option linter.all false
set_option maxRecDepth 100000
set_option maxHeartbeats 2000000
namespace DL
open PySem PySem.Spec L2 DK PyProof.Rows
section
variable {X : Cx} {a b e o : Expr} {es : List Expr} {τa τb τ : ED} {ν : AD} {α : AD} {p p2 pos pos2 apos : Pos}
/-! ### f-strings -/
def dFmt (a : ED) : ED := fun δ S Q => a δ S fun x S1 => match x with
  | .str s => s.length ≤ sizeLine ∧ Q (.str s) S1
  | .int i => i.natAbs.log2 < 1920 ∧ Q (.str (decs i)) S1
  | _ => False
theorem e_fmt (ha : E X a τ) : E X (.FormattedValue a (-1) none pos) (dFmt τ) := by
  obtain ⟨t, a1, a2⟩ := ha
  refine ⟨_, pe_fmt a1, fun σ H δ S w sl Q R k h => ?_⟩
  refine a2 σ H δ S w sl _ _ (fun v H1 d S1 g r q => ?_) h
  cases d with
  | str s => obtain rfl := r; exact .inl ⟨_, rfl, by rw [str_len]; exact q.1, k _ H1 (.str s) S1 g rfl q.2⟩
  | int i => obtain rfl := r; exact .inr ⟨i, rfl, q.1, k _ H1 (.str (decs i)) S1 g rfl q.2⟩
  | _ => exact False.elim q
def dJs : List ED → List Nat → Sl → Sh → (List Nat → Sh → Prop) → Prop
  | [], acc, _, S, Q => Q acc S
  | τ :: r, acc, δ, S, Q => τ δ S fun x S1 => match x with | .str s => (acc ++ s).length ≤ sizeLine ∧ dJs r (acc ++ s) δ S1 Q | _ => False
inductive Pj (X : Cx) : List Expr → List ED → Prop
  | nil : Pj X [] []
  | cons {e : Expr} {es : List Expr} {τ : ED} {τs : List ED} : E X e τ → Pj X es τs → Pj X (e :: es) (τ :: τs)
def SimJs (K : PySem.W.Frag) (ts : List TE) (τs : List ED) : Prop := ∀ σ H δ S, Wd K H S → SlOk K H σ δ → ∀ (acc : List Nat) (Q : List Nat → Sh → Prop) (R : Str → Hp → Prop), (∀ s H' S', Go K S H S' H' → Q s S' → R (tx s) H') → dJs τs acc δ S Q → tJs ts (tx acc) σ H R
theorem Pj.run {es : List Expr} {τs : List ED} (h : Pj X es τs) : ∃ ts, PJ X es ts ∧ SimJs X.K ts τs := by
  induction h with
  | nil => exact ⟨[], .nil, fun σ H δ S w sl acc Q R k h => k acc H S (Go.refl w) h⟩
  | cons he _ ih =>
    obtain ⟨t, a1, a2⟩ := he
    obtain ⟨ts, b1, b2⟩ := ih
    refine ⟨t :: ts, .cons a1 b1, fun σ H δ S w sl acc Q R k h => ?_⟩
    refine a2 σ H δ S w sl _ _ (fun v H1 d S1 g r q => ?_) h
    cases d with
    | str s =>
      obtain rfl := r
      refine ⟨_, rfl, by rw [str_app, str_len]; exact q.1, ?_⟩
      rw [str_app]
      exact b2 σ H1 δ S1 g.wd (sl.im (g.im w)) (acc ++ s) Q R (fun s' H' S' g' => k s' H' S' (g.trans g')) q.2
    | _ => exact False.elim q
def dJsE (τs : List ED) : ED := fun δ S Q => dJs τs [] δ S fun s S1 => Q (.str s) S1
theorem e_js {v1 v2 : Expr} {rest : List Expr} {τs : List ED} (h : Pj X (v1 :: v2 :: rest) τs) : E X (.JoinedStr (v1 :: v2 :: rest) pos) (dJsE τs) := by
  obtain ⟨ts, a, b⟩ := h.run
  exact ⟨_, pe_joined a, fun σ H δ S w sl Q R k h => b σ H δ S w sl [] _ _ (fun s H' S' g q => k _ H' (.str s) S' g rfl q) h⟩
theorem e_js1 (h : E X e τ) : E X (.JoinedStr [e] pos) τ := by
  obtain ⟨t, a, b⟩ := h
  exact ⟨_, pe_joined1 a, b⟩
/-! ### sum, all, any of lists -/
def dSumL : CD := fun ds S Q => match intsOf ds with | some ns => Q (.int ns.sum) S | none => False
theorem cl_sum (hc : X.calm = true := by rfl) : CL X (.builtin "sum") dSumL := by
  unfold dSumL
  refine ⟨_, cr_sum hc, fun H S a vs ds w hs rs Q R k q => ?_⟩
  cases e : intsOf ds with
  | none => simp only [e] at q
  | some ns =>
    simp only [e] at q
    obtain rfl := of_intsOf e
    obtain rfl := Reps.ints rs
    exact ⟨a, ns, rfl, hs, k _ H (.int ns.sum) S (Go.refl w) rfl q⟩
def bolsOf : List D → Option (List Bool)
  | [] => some []
  | .bl b :: r => (bolsOf r).map (b :: ·)
  | _ :: _ => none
theorem bolsOf_map : ∀ ns : List Bool, bolsOf (ns.map D.bl) = some ns
  | [] => rfl
  | n :: ns => by rw [List.map_cons, bolsOf, bolsOf_map ns]; rfl
theorem of_bolsOf {K : PySem.W.Frag} {H : Hp} : ∀ {ds : List D} {vs : List V} {ns : List Bool}, Reps K H ds vs → bolsOf ds = some ns → vs = ns.map V.bl
  | [], _, _, r, h => by cases h; exact r
  | d :: ds, _, ns, r, h => by
    obtain ⟨v, vs, rfl, r1, r2⟩ := r
    cases d <;> first | (cases h; done) | skip
    unfold bolsOf at h
    cases e : bolsOf ds with
    | none => rw [e] at h; cases h
    | some m =>
      rw [e] at h; cases h
      rw [of_bolsOf r2 e, show v = _ from r1]; rfl
def dAllL : CD := fun ds S Q => match bolsOf ds with | some ns => Q (.bl (ns.all id)) S | none => False
theorem cl_all (hc : X.calm = true := by rfl) : CL X (.builtin "all") dAllL := by
  unfold dAllL
  refine ⟨_, cr_all hc, fun H S a vs ds w hs rs Q R k q => ?_⟩
  cases e : bolsOf ds with
  | none => simp only [e] at q
  | some ns =>
    simp only [e] at q
    obtain rfl := of_bolsOf rs e
    exact ⟨a, ns, rfl, hs, k _ H (.bl (ns.all id)) S (Go.refl w) rfl q⟩
def dAnyL : CD := fun ds S Q => match bolsOf ds with | some ns => Q (.bl (ns.any id)) S | none => False
theorem cl_any (hc : X.calm = true := by rfl) : CL X (.builtin "any") dAnyL := by
  unfold dAnyL
  refine ⟨_, cr_any hc, fun H S a vs ds w hs rs Q R k q => ?_⟩
  cases e : bolsOf ds with
  | none => simp only [e] at q
  | some ns =>
    simp only [e] at q
    obtain rfl := of_bolsOf rs e
    exact ⟨a, ns, rfl, hs, k _ H (.bl (ns.any id)) S (Go.refl w) rfl q⟩
/-! ### more methods of texts -/
def partL (s t : List Nat) : D := .tup [.str (Txt.partition (tx s) (tx t)).1.cps.toList, .str (Txt.partition (tx s) (tx t)).2.1.cps.toList, .str (Txt.partition (tx s) (tx t)).2.2.cps.toList]
def dPartn : MD := fun x ds S Q => match x, ds with | .str s, [.str t] => t ≠ [] ∧ s.length ≤ sizeLine ∧ Q (partL s t) S | _, _ => False
theorem m_partn : M X "str.partition" dPartn := by
  refine ⟨_, mt_partition, fun H S x dx vs ds w rx rs Q R k q => ?_⟩
  cases dx <;> first | exact False.elim q | skip
  rename_i s
  rcases ds with _ | ⟨d, _ | ⟨d2, ds⟩⟩
  · exact False.elim q
  · cases d <;> first | exact False.elim q | skip
    rename_i t
    obtain rfl := rx
    obtain ⟨v, r, rfl, rv, rfl⟩ := rs
    obtain rfl := rv
    refine ⟨_, _, rfl, rfl, ?_, by rw [str_len]; exact q.2.1, fun p hp => ?_⟩
    · rw [str_len]
      cases t with
      | nil => exact absurd rfl q.1
      | cons c t => rfl
    · have g := Go.new (u := .tup [.str (Txt.partition (tx s) (tx t)).1, .str (Txt.partition (tx s) (tx t)).2.1, .str (Txt.partition (tx s) (tx t)).2.2]) w hp
      exact k _ _ (partL s t) S g ⟨p, _, rfl, SqT.of upd_same, _, _, rfl, rfl, _, _, rfl, rfl, _, _, rfl, rfl, rfl⟩ q.2.2
  · cases d <;> exact False.elim q
def okL (s : List Nat) : Prop := s.length ≤ 5592405
def dStrip : MD := mS0 (fun s => .str (Txt.strip (tx s)).cps.toList) okT
theorem m_strip : M X "str.strip" dStrip := m_S0 mt_strip fun K H s R h k => ⟨_, rfl, rfl, by rw [str_len]; exact h, k _ rfl⟩
def dStripC : MD := mS1 (fun s t => .str (Txt.stripChars (tx s) (tx t)).cps.toList) (fun s _ => okT s)
theorem m_stripC : M X "str.strip" dStripC := m_S1 mt_stripChars fun K H s t R h k => ⟨_, _, rfl, rfl, by rw [str_len]; exact h, k _ rfl⟩
def dLower : MD := mS0 (fun s => .str (Txt.lower (tx s)).cps.toList) okL
theorem m_lower : M X "str.lower" dLower := m_S0 mt_lower fun K H s R h k => ⟨_, rfl, rfl, by rw [str_len]; exact h, k _ rfl⟩
def dUpper : MD := mS0 (fun s => .str (Txt.upper (tx s)).cps.toList) okL
theorem m_upper : M X "str.upper" dUpper := m_S0 mt_upper fun K H s R h k => ⟨_, rfl, rfl, by rw [str_len]; exact h, k _ rfl⟩
def dRfind : MD := mS1 (fun s t => .int (Txt.rfind (tx s) (tx t))) ok2
theorem m_rfind : M X "str.rfind" dRfind := m_S1 mt_rfind fun K H s t R _ k => ⟨_, _, rfl, rfl, k _ rfl⟩
def dCount : MD := mS1 (fun s t => .int (Txt.count (tx s) (tx t))) ok2
theorem m_count : M X "str.count" dCount := m_S1 mt_count fun K H s t R _ k => ⟨_, _, rfl, rfl, k _ rfl⟩
/-! ### a list taken apart into names -/
def dGunl (r : GsD) (n : Nat) : GD := fun d δ S Q => match d with
  | .rf p => (match S p with | some (.lst ds) => ds.length = n ∧ r ds δ S Q | _ => False)
  | _ => False
theorem g_unl {γs : GsD} {k n : Nat} (h : Gs X es γs) (hc : X.calm = true := by rfl) (hn : (assignEach es X.env).length = n := by rfl) (hst : (assignEach es X.env).findIdx? (·.1) = none := by rfl) : G X (.Tuple es k pos) (dGunl γs n) := by
  obtain ⟨t, a1, a2⟩ := h
  refine ⟨_, pg_unl hc a1 hn hst, fun σ H δ S v d w sl r Q R k h => ?_⟩
  cases d with
  | rf q =>
    obtain rfl := r
    have h' : (match S q with | some (.lst ds) => ds.length = n ∧ γs ds δ S Q | _ => False) := h
    cases e : S q with
    | none => rw [e] at h'; exact h'.elim
    | some o =>
      cases o with
      | lst ds =>
        rw [e] at h'
        obtain ⟨ho, e1, vs, rfl, rs⟩ := w _ _ e
        exact ⟨q, vs, rfl, SqL.of e1, by rw [← rs.length]; exact h'.1, a2 σ H δ S vs ds w sl rs Q R k h'.2⟩
      | ins _ _ => rw [e] at h'; exact h'.elim
      | dic _ => rw [e] at h'; exact h'.elim
      | exn _ => rw [e] at h'; exact h'.elim
  | _ => exact False.elim h
theorem gw_unl {k n : Nat} {scope : Scope} {vs : List Nat} {ts : List Expr} {γs : GsD} (h : Gws X scope vs ts γs) (hc : X.calm = true := by rfl)
    (hn : ∀ (s : Shared) (H : Hp) (C : Addr) (cl : List (Str × Addr)) (fp : List Addr), (assignEach ts (X.blk s H scope (compEnvC scope cl C X.env) fp).env).length = n := by intro _ _ _ _ _; rfl)
    (hst : ∀ (s : Shared) (H : Hp) (C : Addr) (cl : List (Str × Addr)) (fp : List Addr), (assignEach ts (X.blk s H scope (compEnvC scope cl C X.env) fp).env).findIdx? (·.1) = none := by intro _ _ _ _ _; rfl) : Gw X scope vs (.Tuple ts k pos) (dGunl γs n) := by
  obtain ⟨g, b1, b2⟩ := h
  refine ⟨gUnl X.K n g, fun s H C cl fp => pg_unl hc (b1 s H C cl fp) (hn s H C cl fp) (hst s H C cl fp), fun σ H δ S v d w sl rv Q R k h => ?_⟩
  cases d with
  | rf q =>
    obtain rfl := rv
    have h' : (match S q with | some (.lst ds) => ds.length = n ∧ γs ds δ S Q | _ => False) := h
    cases e : S q with
    | none => rw [e] at h'; exact h'.elim
    | some o =>
      cases o with
      | lst ds =>
        rw [e] at h'
        obtain ⟨ho, e1, us, rfl, rs⟩ := w _ _ e
        exact ⟨q, us, rfl, SqL.of e1, by rw [← rs.length]; exact h'.1, b2 _ (wipe σ vs) H _ S us ds w sl rs rfl Q R (fun σ' H' δ' S' e => k σ' H' δ' S' (e.trans wipe_idem)) h'.2⟩
      | ins _ _ => rw [e] at h'; exact h'.elim
      | dic _ => rw [e] at h'; exact h'.elim
      | exn _ => rw [e] at h'; exact h'.elim
  | _ => exact False.elim h
/-! ### a comprehension of two clauses -/
def dComp2 (γ : GD) (κ : TD) (ι1 : ID) (γ1 : GD) (κ1 : TD) (τ : ED) (vs1 : List Nat) (δ : Sl) (ck : Sh → Prop) (Q : List D → Sh → Prop) : List D → List D → Sh → Prop
  | [], acc, S => Q acc S
  | x :: xs, acc, S => γ x δ S fun δ1 S1 => κ δ1 S1 fun b S2 => if b = true then ι1 δ1 S2 fun ys ck1 S3 => dComp γ1 κ1 τ (dWipe δ1 vs1) ck1 (fun acc' S4 => ck S4 ∧ dComp2 γ κ ι1 γ1 κ1 τ vs1 δ ck Q xs acc' S4) ys acc S3
      else ck S2 ∧ dComp2 γ κ ι1 γ1 κ1 τ vs1 δ ck Q xs acc S2
def dLc2 (ι : ID) (γ : GD) (κ : TD) (ι1 : ID) (γ1 : GD) (κ1 : TD) (τ : ED) (vs vs1 : List Nat) : AD := fun δ S Q => ι δ S fun xs ck S1 => dComp2 γ κ ι1 γ1 κ1 τ vs1 (dWipe δ vs) ck Q xs [] S1
def canI (K : PySem.W.Frag) (τ : ID) : TI := fun σ H R => ∃ δ S Q, Wd K H S ∧ SlOk K H σ δ ∧ (∀ J H' S' xs ck, Go K S H S' H' → SimJ K H S' H' J xs ck → ck S' → Q xs ck S' → R J H') ∧ τ δ S Q
theorem sim_canI {K : PySem.W.Frag} {τ : ID} : SimI K (canI K τ) τ := fun σ H δ S w sl Q R k h => ⟨δ, S, Q, w, sl, k, h⟩
theorem I.can {tg iter : Expr} {τ : ID} (h : I X tg iter τ) : PI X tg iter (canI X.K τ) := by
  obtain ⟨t, h1, h2⟩ := h
  exact ⟨fun {p s σ H R} k0 I ⟨δ, S, Q, w, sl, k, q⟩ => h1.run k0 I (h2 σ H δ S w sl Q R k q)⟩
/-- the list in the making grows -/
theorem im_app {K : PySem.W.Frag} {H : Hp} {q : Addr} {xs ys : List V} (hp : H q = some (.lst xs)) : Im K H (upd H q (.lst ys)) := ⟨fun b zs r => by
    rcases r with (r | ⟨o, r⟩) | r
    · exact .inl (.inl (by rw [upd_ne (ne_of r hp (by intro z; cases z))]; exact r))
    · exact .inl (.inr ⟨o, by rw [upd_ne (ne_of r hp (by intro z; cases z))]; exact r⟩)
    · exact .inr r, fun b zs r => by
    rcases r with ⟨o, r⟩ | r
    · exact .inl ⟨o, by rw [upd_ne (ne_of r hp (by intro z; cases z))]; exact r⟩
    · exact .inr r, fun b _ _ _ r => by rw [upd_ne (ne_of r hp (by intro z; unfold SetM at z; cases z))]; exact r⟩
theorem go_app {K : PySem.W.Frag} {S1 S5 : Sh} {H1 H5 : Hp} {q : Addr} {xs ys : List V} (g : Go K S1 H1 S5 H5) (h1 : H1 q = none) (h5 : H5 q = some (.lst xs)) (s5 : S5 q = none) : Go K S1 H1 S5 (upd H5 q (.lst ys)) := by
  refine ⟨fun a o e1 e2 => ?_, g.out, fun a o e1 => ?_, fun a e => g.th a (upd_none e)⟩
  · rw [upd_ne (ne_of_none e1 h1)]; exact g.ext a o e1 e2
  · have na : a ≠ q := fun z => by rw [z, s5] at e1; cases e1
    obtain ⟨ho, e2, r⟩ := g.wd a o e1
    exact ⟨ho, by rw [upd_ne na]; exact e2, r.im (im_app h5)⟩
theorem Im.trans {K : PySem.W.Frag} {H H1 H2 : Hp} (a : Im K H H1) (b : Im K H1 H2) : Im K H H2 := ⟨fun x xs h => b.t x xs (a.t x xs h), fun x xs h => b.f x xs (a.f x xs h), fun x _ _ _ h => b.s _ _ _ _ (a.s _ _ _ _ h)⟩
/-- what the inner walk needs, while the list at p grows -/
structure KpB (K : PySem.W.Frag) (p : Addr) (S0 : Sh) (H0 : Hp) (S : Sh) (H : Hp) : Prop where
  im : Im K H0 H
  ex : ∀ a o, a ≠ p → H0 a = some o → S0 a = none → H a = some o ∧ S a = none
theorem KpB.go {K : PySem.W.Frag} {p : Addr} {S0 S S' : Sh} {H0 H H' : Hp} (a : KpB K p S0 H0 S H) (w : Wd K H S) (g : Go K S H S' H') : KpB K p S0 H0 S' H' :=
  ⟨a.im.trans (g.im w), fun x o h1 h2 h3 => let ⟨e1, e2⟩ := a.ex x o h1 h2 h3; ⟨g.ext x o e1 e2, g.out x o e1 e2⟩⟩
theorem KpB.app {K : PySem.W.Frag} {p : Addr} {S0 S : Sh} {H0 H : Hp} {xs ys : List V} (a : KpB K p S0 H0 S H) (hp : H p = some (.lst xs)) : KpB K p S0 H0 S (upd H p (.lst ys)) :=
  ⟨a.im.trans (im_app hp), fun x o h1 h2 h3 => let ⟨e1, e2⟩ := a.ex x o h1 h2 h3; ⟨by rw [upd_ne h1]; exact e1, e2⟩⟩
theorem sim_lc2 {K : PySem.W.Frag} {wi wi1 : TI} {g g1 : TG} {tt tt1 : TT} {te : TE} {ι ι1 : ID} {γ γ1 : GD} {κ κ1 : TD} {τ : ED} {vs vs1 : List Nat} (hi : SimI K wi ι) (hg : SimGw K vs g γ) (ht : SimT K tt κ) (hi1 : SimI K wi1 ι1) (hg1 : SimGw K vs1 g1 γ1) (ht1 : SimT K tt1 κ1) (he : SimE K te τ) :
    SimN K (tLc2 wi g tt wi1 g1 tt1 te vs vs1) (dLc2 ι γ κ ι1 γ1 κ1 τ vs vs1) := by
  intro σ H δ S w sl Q R k h
  refine hi σ H δ S w sl _ _ (fun J H1 S1 xs ck g0 hJ hck q => ?_) h
  intro p hp
  have hS1 : S1 p = none := g0.wd.free hp
  refine ⟨fun i m H' => ∃ S' acc vacc, Go K S1 H1 S' H' ∧ ck S' ∧ i ≤ xs.length ∧ m = xs.length - i ∧ H' p = some (.lst vacc) ∧ S' p = none ∧ Reps K H' acc vacc ∧ dComp2 γ κ ι1 γ1 κ1 τ vs1 (dWipe δ vs) ck Q (xs.drop i) acc S', ⟨xs.length, S1, [], [], Go.new g0.wd hp, hck, Nat.zero_le _, rfl, upd_same, hS1, rfl, by simpa using q⟩, ?_⟩
  rintro i m H' ⟨S', acc, vacc, g', ck', hi', rfl, hp', hs', ra, q'⟩
  have slw : SlOk K H' (wipe σ vs) (dWipe δ vs) := (((sl.im (g0.im w)).im (g'.im g0.wd)).wiped vs)
  obtain ⟨j1, j2⟩ := hJ S' H' (g'.kp g0.wd) ck' i
  by_cases hlt : i < xs.length
  · obtain ⟨go, yl⟩ := j1 xs[i] (by simp [hlt])
    rw [drop_cons hlt] at q'
    refine .inr ⟨go, fun H2 => ∃ S2 acc2 vacc2, Go K S1 H1 S2 H2 ∧ ck S2 ∧ H2 p = some (.lst vacc2) ∧ S2 p = none ∧ Reps K H2 acc2 vacc2 ∧ dComp2 γ κ ι1 γ1 κ1 τ vs1 (dWipe δ vs) ck Q (xs.drop (i + 1)) acc2 S2, fun H2 ⟨S2, acc2, vacc2, g2, ck2, a2, b2, c2, q2⟩ => ⟨xs.length - (i + 1), by omega, S2, acc2, vacc2, g2, ck2, hlt, rfl, a2, b2, c2, q2⟩, fun x H2 y => ?_⟩
    obtain ⟨g2, rx⟩ := yl x H2 y
    refine hg σ H2 _ S' x xs[i] g2.wd (slw.im (g2.im g'.wd)) rx _ _ (fun σ3 H3 δ3 S3 hw g3 sl3 q3 => ⟨hw, ?_⟩) q'
    refine ht σ3 H3 δ3 S3 g3.wd sl3 _ _ (fun b H4 S4 g4 q4 => ?_) q3
    have g24 : Go K S' H' S4 H4 := (g2.trans g3).trans g4
    have sl4 : SlOk K H4 σ3 δ3 := sl3.im (g4.im g3.wd)
    cases b with
    | true =>
      rw [if_pos rfl] at q4 ⊢
      refine hi1 σ3 H4 δ3 S4 g4.wd sl4 _ _ (fun J1 H5 S5 ys ck1 g5 hJ1 hck1 q5 => ?_) q4
      have g15 : Go K S1 H1 S5 H5 := g'.trans (g24.trans g5)
      have g25 := g24.trans g5
      refine ⟨fun j k' H6 => ∃ S6 acc6 vacc6, KpB K p S5 H5 S6 H6 ∧ Go K S1 H1 S6 H6 ∧ ck1 S6 ∧ j ≤ ys.length ∧ k' = ys.length - j ∧ H6 p = some (.lst vacc6) ∧ S6 p = none ∧ Reps K H6 acc6 vacc6 ∧ dComp γ1 κ1 τ (dWipe δ3 vs1) ck1 (fun acc' S4 => ck S4 ∧ dComp2 γ κ ι1 γ1 κ1 τ vs1 (dWipe δ vs) ck Q (xs.drop (i + 1)) acc' S4) (ys.drop j) acc6 S6,
        ⟨ys.length, S5, acc, vacc, ⟨Im.refl K H5, fun a o _ h1 h2 => ⟨h1, h2⟩⟩, g15, hck1, Nat.zero_le _, rfl, g25.ext p _ hp' hs', g25.out p _ hp' hs', ra.im (g25.im g'.wd), by simpa using q5⟩, ?_⟩
      rintro j k' H6 ⟨S6, acc6, vacc6, g56, g16, ck6, hj', rfl, hp6, hs6, ra6, q6⟩
      have slw1 : SlOk K H6 (wipe σ3 vs1) (dWipe δ3 vs1) := (((sl4.im (g5.im g4.wd)).im g56.im).wiped vs1)
      obtain ⟨l1, l2⟩ := hJ1 S6 H6 ⟨g16.wd, g56.im, fun a o h1 h2 h3 => (g56.ex a o (fun e => by rw [e, g24.ext p _ hp' hs'] at h1; cases h1) h2 h3).1⟩ ck6 j
      by_cases hlt2 : j < ys.length
      · obtain ⟨go2, yl2⟩ := l1 ys[j] (by simp [hlt2])
        rw [drop_cons hlt2] at q6
        refine .inr ⟨go2, fun H7 => ∃ S7 acc7 vacc7, KpB K p S5 H5 S7 H7 ∧ Go K S1 H1 S7 H7 ∧ ck1 S7 ∧ H7 p = some (.lst vacc7) ∧ S7 p = none ∧ Reps K H7 acc7 vacc7 ∧ dComp γ1 κ1 τ (dWipe δ3 vs1) ck1 (fun acc' S4 => ck S4 ∧ dComp2 γ κ ι1 γ1 κ1 τ vs1 (dWipe δ vs) ck Q (xs.drop (i + 1)) acc' S4) (ys.drop (j + 1)) acc7 S7,
          fun H7 ⟨S7, acc7, vacc7, g7, g17, ck7, a7, b7, c7, q7⟩ => ⟨ys.length - (j + 1), by omega, S7, acc7, vacc7, g7, g17, ck7, hlt2, rfl, a7, b7, c7, q7⟩, fun x2 H7 y2 => ?_⟩
        obtain ⟨g7, rx2⟩ := yl2 x2 H7 y2
        refine hg1 σ3 H7 _ S6 x2 ys[j] g7.wd (slw1.im (g7.im g16.wd)) rx2 _ _ (fun σ8 H8 δ8 S8 hw8 g8 sl8 q8 => ⟨hw8, ?_⟩) q6
        refine ht1 σ8 H8 δ8 S8 g8.wd sl8 _ _ (fun b2 H9 S9 g9 q9 => ?_) q8
        have g69 : Go K S6 H6 S9 H9 := (g7.trans g8).trans g9
        cases b2 with
        | true =>
          rw [if_pos rfl] at q9 ⊢
          refine he σ8 H9 δ8 S9 g9.wd (sl8.im (g9.im g8.wd)) _ _ (fun v H10 d S10 g10 r10 q10 => ?_) q9
          have g610 := g69.trans g10
          have hp10 : H10 p = some (.lst vacc6) := g610.ext p _ hp6 hs6
          have hs10 : S10 p = none := g610.out p _ hp6 hs6
          have ra10 := ra6.im (g610.im g16.wd)
          have ge : KpB K p S5 H5 S10 (upd H10 p (.lst (vacc6 ++ [v]))) := (g56.go g16.wd g610).app hp10
          exact ⟨vacc6, hp10, by rw [← ra6.length]; exact q10.1, S10, acc6 ++ [d], vacc6 ++ [v], ge, go_app (g16.trans g610) hp hp10 hs10, q10.2.1, upd_same, hs10, (ra10.append (Reps.one r10)).im (im_app hp10), q10.2.2⟩
        | false =>
          rw [if_neg Bool.false_ne_true] at q9 ⊢
          exact ⟨S9, acc6, vacc6, g56.go g16.wd g69, g16.trans g69, q9.1, g69.ext p _ hp6 hs6, g69.out p _ hp6 hs6, ra6.im (g69.im g16.wd), q9.2⟩
      · have e : ys.drop j = [] := List.drop_eq_nil_of_le (by omega)
        rw [e] at q6
        exact .inl ⟨l2 (by omega), S6, acc6, vacc6, g16, q6.1, hp6, hs6, ra6, q6.2⟩
    | false =>
      rw [if_neg Bool.false_ne_true] at q4 ⊢
      exact ⟨S4, acc, vacc, g'.trans g24, q4.1, g24.ext p _ hp' hs', g24.out p _ hp' hs', ra.im (g24.im g'.wd), q4.2⟩
  · have e : xs.drop i = [] := List.drop_eq_nil_of_le (by omega)
    rw [e] at q'
    exact .inl ⟨j2 (by omega), k p H' vacc acc S' (g0.trans g') (g0.th p hp) hp' hs' ra q'⟩
end
end DL

set_option Elab.async false
set_option linter.all false
set_option maxRecDepth 100000
set_option maxHeartbeats 2000000
namespace DL
open PySem PySem.Spec L2 DK PyProof.Rows
section
variable {X : Cx} {a b e o i : Expr} {es : List Expr} {τa τb τ τd τi : ED} {ν : AD} {α : AD} {p p2 pos pos2 apos cpos : Pos}
/-! ### what is never reckoned -/
def dNevE : ED := fun _ _ _ => False
def dNevT : TD := fun _ _ _ => False
theorem e_never : E X e dNevE := ⟨fun _ _ _ => False, ⟨fun _ _ h => h.elim⟩, fun _ _ _ _ _ _ _ _ _ h => h.elim⟩
theorem t_never : T X e dNevT := ⟨fun _ _ _ => False, ⟨fun _ _ h => h.elim⟩, fun _ _ _ _ _ _ _ _ _ h => h.elim⟩
/-! ### *e of a list -/
def dStarL (l : AD) (r : AD) : AD := fun δ S Q => l δ S fun xs S1 => r δ S1 fun ys S2 => Q (xs ++ ys) S2
theorem a_starL (ha : L X e ν) (hr : A X es α) (hs : starEach (.Starred e p :: es) X.env = (true, eval e X.env) :: starEach es X.env := by rfl) : A X (.Starred e p :: es) (dStarL ν α) := by
  obtain ⟨t, a1, a2⟩ := ha
  obtain ⟨tr, b1, b2⟩ := hr
  refine ⟨_, pa_star a1 b1 hs, fun σ H δ S w sl Q R k h => ?_⟩
  refine a2 σ H δ S w sl _ _ (fun l H1 vs ds S1 g1 hq rs q => ?_) h
  refine ⟨l, vs, rfl, .inr hq, ?_⟩
  refine b2 σ H1 δ S1 g1.wd (sl.im (g1.im w)) _ _ (fun us H2 ys S2 g2 rs2 q2 => ?_) q
  exact k _ H2 (ds ++ ys) S2 (g1.trans g2) ((rs.im (g2.im g1.wd)).append rs2) q2
/-! ### list(tuple), tuple(tuple) -/
def dListT (a : ED) : AD := fun δ S Q => a δ S fun x S1 => match x with | .tup ds => Q ds S1 | _ => False
theorem n_listT {x : Str} (hm : X.mg x = none) (ha : E X a τ) (hg : Gl X x := by rfl) (hv : bootBuiltins x = some (.type "list") := by decide +kernel) (hn : x ≠ "__name__" := by decide) (hdb : (x == ("__debug__" : Str)) = false := by decide)
    (he : starEach [a] X.env = (false, eval a X.env) :: starEach [] X.env := by rfl) (hpl : (backTo pos (starEach [] X.env)).any (·.1) = false := by rfl) : N X (.Call (.Name x p) [a] [] pos) (dListT τ) := by
  obtain ⟨t, a1, a2⟩ := ha
  refine ⟨_, pe_callTy call_list_of hg hm hv (pa_cons a1 pa_nil he) hn hdb he hpl, fun σ H δ S w sl Q R k h => ?_⟩
  refine a2 σ H δ S w sl _ _ (fun v H1 d S1 g1 r1 q => ?_) h
  cases d with
  | tup ds =>
    obtain ⟨l, vs, rfl, hq, rs⟩ := r1
    refine ⟨l, vs, rfl, .inr hq, fun l2 hl2 => ?_⟩
    have g := Go.new (u := .lst vs) g1.wd hl2
    exact k l2 _ vs ds S1 (g1.trans g) (g1.th l2 hl2) upd_same (g1.wd.free hl2) (rs.im (g.im g1.wd)) q
  | _ => exact q.elim
def dTupT : CD := fun ds S Q => match ds with | [.tup xs] => Q (.tup xs) S | _ => False
theorem c_tupT : C X (.type "tuple") dTupT := by
  refine ⟨_, call_tupleT, fun H S vs ds w rs Q R k q => ?_⟩
  rcases ds with _ | ⟨d, _ | ⟨d2, ds⟩⟩
  · exact False.elim q
  · cases d with
    | tup xs =>
      obtain ⟨v, r, rfl, rv, rfl⟩ := rs
      obtain ⟨t, us, rfl, hq, ru⟩ := rv
      exact ⟨t, us, rfl, hq, k _ H (.tup xs) S (Go.refl w) ⟨t, us, rfl, hq, ru⟩ q⟩
    | _ => exact False.elim q
  · cases d <;> exact False.elim q
end
/-! stops for the walk -/
def comp2K (γ : GD) (κ : TD) (ι1 : ID) (γ1 : GD) (κ1 : TD) (τ : ED) (vs1 : List Nat) (δ : Sl) (ck : Sh → Prop) (Q : List D → Sh → Prop) (xs acc : List D) (S : Sh) (_ : Tag γ) (_ : Tag κ) (_ : Tag ι1) (_ : Tag γ1) (_ : Tag κ1) (_ : Tag τ) (_ : Tag ck) (_ : Tag Q) : Prop := dComp2 γ κ ι1 γ1 κ1 τ vs1 δ ck Q xs acc S
theorem dLc2_k (ι : ID) (γ : GD) (κ : TD) (ι1 : ID) (γ1 : GD) (κ1 : TD) (τ : ED) (vs vs1 : List Nat) (δ : Sl) (S : Sh) (Q : List D → Sh → Prop) : dLc2 ι γ κ ι1 γ1 κ1 τ vs vs1 δ S Q = ι δ S fun xs ck S1 => comp2K γ κ ι1 γ1 κ1 τ vs1 (dWipe δ vs) ck Q xs [] S1 .mk .mk .mk .mk .mk .mk .mk .mk := rfl
def nK (ρ : ND) (ds : List D) (S : Sh) (Q : List D → Sh → Prop) (_ : Tag Q) : Prop := ρ ds S Q
theorem dOnN_k (ρ : ND) (l : AD) (δ : Sl) (S : Sh) (Q : List D → Sh → Prop) : dOnN ρ l δ S Q = l δ S fun ds S1 => nK ρ ds S1 Q .mk := rfl
def newK (ds : List D) (S : Sh) (Q : QD) (_ : Tag Q) : Prop := ∀ p, S p = none → Q (.rf p) (su S p (.lst ds))
theorem dNew_k (a : AD) (δ : Sl) (S : Sh) (Q : QD) : dNew a δ S Q = a δ S fun ds S1 => newK ds S1 Q .mk := rfl
end DL

set_option Elab.async false
set_option linter.all false
set_option maxRecDepth 100000
set_option maxHeartbeats 2000000
namespace DL
open PySem PySem.Spec L2 DK PyProof.Rows
section
variable {X : Cx}
/-! ### sum of a tuple -/
def rSumT (K : PySem.W.Frag) : List V → Hp → VK → Prop := fun vs H Q => ∃ (a : Addr) (ns : List Int), vs = [V.ref a] ∧ SqT K H a (ns.map V.int) ∧ Q (.int ns.sum) H
theorem cr_sumT (hc : X.calm = true) : CallR X (.builtin "sum") (rSumT X.K) := by
  intro pins s σ H vs us Q I r h
  obtain ⟨a, ns, rfl, hs, q⟩ := h
  obtain ⟨its, rv, pt, hz⟩ := I.tuple hs
  rw [Vals.ref1 r]
  have hi := intsAre_of rv
  -- the items
  obtain ⟨xs, e⟩ := hi.allInts.items
  have hn : numsOf (intItems xs).toList = ns := by rw [← e]; exact hi.numsOf
  rw [nums_intItems] at hn
  have ht : s.heap.IsTuple a its.toArray := pt
  rw [e] at ht
  refine PySem.W.ktm_sumG (I.ok.hd hc) ht fun h' tk t' hk => ?_
  rw [preSum_eq, List.take_of_length_le (by simp), hn]
  exact ⟨.int _, H, I.kept hk, ⟨_, rfl⟩, q⟩
def dSumT : CD := fun ds S Q => match ds with | [.tup xs] => (match intsOf xs with | some ns => Q (.int ns.sum) S | none => False) | _ => False
theorem c_sumT (hc : X.calm = true := by rfl) : C X (.builtin "sum") dSumT := by
  refine ⟨_, cr_sumT hc, fun H S vs ds w rs Q R k q => ?_⟩
  rcases ds with _ | ⟨d, _ | ⟨d2, ds⟩⟩
  · exact False.elim q
  · cases d with
    | tup xs =>
      obtain ⟨v, r, rfl, rv, rfl⟩ := rs
      obtain ⟨t, us, rfl, hq, ru⟩ := rv
      have q' : (match intsOf xs with | some ns => Q (.int ns.sum) S | none => False) := q
      cases e : intsOf xs with
      | none => rw [e] at q'; exact q'.elim
      | some ns =>
        rw [e] at q'
        obtain rfl := of_intsOf e
        obtain rfl := Reps.ints ru
        exact ⟨t, ns, rfl, hq, k _ H (.int ns.sum) S (Go.refl w) rfl q'⟩
    | _ => exact False.elim q
  · cases d <;> exact False.elim q
end
end DL

set_option Elab.async false
set_option linter.all false
set_option maxRecDepth 100000
set_option maxHeartbeats 2000000
namespace L2
open PySem PySem.Spec PyProof.Rows
/-- d.get(k), d a dict of the top with text keys -/
theorem pe_kget {X : Cx} {o e : Expr} {apos cpos : Pos} {td ty : TE} {d : Addr} {es : Array DictEntry} {n : Nat} (D : KDict X.K X.w d es n) (ho : DL.PE X o td) (he : DL.PE X e ty) (m : M1 X o "get" apos e cpos) :
    DL.PE X (.Call (.Attribute o "get" apos) [e] [] cpos) (fun σ H Q => td σ H fun x H1 => x = .ref d ∧ ty σ H1 fun y H2 => ∃ (z : Str) (r : Option Value) (v : V), y = .str z ∧ PySem.W.nsIn X.K d z = some r ∧ RelV v (r.getD .none) ∧ Q v H2) := by
  refine ⟨fun {pins s σ H Q} k0 I h => ?_⟩
  refine wpAny_Call_method m.base m.few m.line PySem.F.plainAttrs_dict PySem.F.slot_dict_get PySem.F.type_dict_get (DL.tn k0 (ho.run k0 I h) fun u s1 k1 ⟨x, H1, I1, rx, ex, q1⟩ => ?_)
  subst ex
  obtain rfl : u = Value.ref d := rx
  refine ⟨kd_type D I1, fun b q => ?_, ?_⟩
  · cases q
    exact ⟨_, I1.kIn _ _ D.at_, rfl⟩
  rw [m.trees]
  refine Calls.callWith_builtin rfl (Calls.evalArgs_plain (Calls.spliced_cons (thn (he.run k1 I1 q1) fun iv s2 ⟨y, H2, I2, ry, z, r, v, ey, en, rv, q2⟩ => Calls.spliced_nil ?_)))
  subst ey
  obtain ⟨t, rfl⟩ := ry
  refine call_meetsIn PySem.F.slot_dict_get (kd_type D I2) PySem.F.entry_dict_get (PySem.F.args_dict_get_2 _ _) (meets_dict_get (strKind X.prog X.w) d (strKind_is X.prog X.w z t) D.low) ⟨_, PySem.W.mapOf_K (prog := X.prog) I2.kIn D.at_ D.lit, ?_⟩
  rw [PySem.W.find_K D.at_ en]
  exact ⟨v, H2, I2.tok _, rv, q2⟩
end L2
namespace DL
open PySem PySem.Spec L2 PyProof.Rows
/-- a table of the top: text keys, the values tuples of texts -/
structure KTab (K : PySem.W.Frag) (w : World) (a : Addr) (tbl : List (List Nat × List (List Nat))) : Prop where
  dic : ∃ es n, KDict K w a es n
  hit : ∀ k v, tbl.lookup k = some v → ∃ t, PySem.W.nsIn K a (tx k) = some (some (.ref t)) ∧ ∀ H, SqT K H t ((v.map tx).map V.str)
  miss : ∀ k, tbl.lookup k = none → PySem.W.nsIn K a (tx k) = some none
/-- .. where the top's name x stands for it -/
def TabC (K : PySem.W.Frag) (w : World) (mg : Str → Option Value) (x : Str) (tbl : List (List Nat × List (List Nat))) : Prop := ∃ a, mg x = some (.ref a) ∧ KTab K w a tbl
section
variable {X : Cx} {x : Str} {e : Expr} {τ : ED} {p apos cpos pos : Pos} {tbl : List (List Nat × List (List Nat))}
def dTabGet (tbl : List (List Nat × List (List Nat))) (τ : ED) : ED := fun δ S Q => τ δ S fun x S1 => match x with
  | .str k => (match tbl.lookup k with | some v => Q (.tup (v.map D.str)) S1 | none => Q .non S1)
  | _ => False
theorem e_tabGet (h : TabC X.K X.w X.mg x tbl) (he : E X e τ) (m : M1 X (.Name x p) "get" apos e cpos := by exact ⟨rfl, rfl, rfl, rfl⟩) (hg : Gl X x := by rfl) (hd : (x == ("__debug__" : Str)) = false := by decide) :
    E X (.Call (.Attribute (.Name x p) "get" apos) [e] [] cpos) (dTabGet tbl τ) := by
  obtain ⟨a, hm, ⟨es, n, KD⟩, hit, miss⟩ := h
  obtain ⟨t, a1, a2⟩ := he
  refine ⟨_, pe_kget KD (pe_glob (v := .ref a) hg hm rfl hd) a1 m, fun σ H δ S w sl Q R k h => ⟨rfl, ?_⟩⟩
  refine a2 σ H δ S w sl _ _ (fun v H1 d S1 g1 rv q => ?_) h
  cases d with
  | str s =>
    obtain rfl := rv
    dsimp only at q
    cases el : tbl.lookup s with
    | none =>
      rw [el] at q
      exact ⟨tx s, none, .non, rfl, miss s el, rfl, k .non H1 .non S1 g1 rfl q⟩
    | some v =>
      rw [el] at q
      obtain ⟨b, hb, hs⟩ := hit s v el
      exact ⟨tx s, _, .ref b, rfl, hb, rfl, k (.ref b) H1 (.tup (v.map D.str)) S1 g1 ⟨b, _, rfl, hs H1, Reps.strs v⟩ q⟩
  | _ => exact q.elim
/-- d[k] -/
def dTabIx (tbl : List (List Nat × List (List Nat))) (τ : ED) : ED := fun δ S Q => τ δ S fun x S1 => match x with
  | .str k => (match tbl.lookup k with | some v => Q (.tup (v.map D.str)) S1 | none => False)
  | _ => False
theorem e_tabIx (h : TabC X.K X.w X.mg x tbl) (he : E X e τ) (hs : PlainIx e := by exact fun _ _ => rfl) (hg : Gl X x := by rfl) (hd : (x == ("__debug__" : Str)) = false := by decide) : E X (.Subscript (.Name x p) e pos) (dTabIx tbl τ) := by
  obtain ⟨a, hm, ⟨es, n, KD⟩, hit, miss⟩ := h
  obtain ⟨t, a1, a2⟩ := he
  refine ⟨_, pe_ix ix_kdict (pe_glob (v := .ref a) hg hm rfl hd) a1 hs, fun σ H δ S w sl Q R k h => ?_⟩
  refine a2 σ H δ S w sl _ _ (fun v H1 d S1 g1 rv q => ?_) h
  cases d with
  | str s =>
    obtain rfl := rv
    dsimp only at q
    cases el : tbl.lookup s with
    | none => rw [el] at q; exact q.elim
    | some v =>
      rw [el] at q
      obtain ⟨b, hb, hs⟩ := hit s v el
      exact ⟨a, tx s, .ref b, rfl, rfl, ⟨es, n, .ref b, KD.at_, KD.lit, hb, rfl⟩, k (.ref b) H1 (.tup (v.map D.str)) S1 g1 ⟨b, _, rfl, hs H1, Reps.strs v⟩ q⟩
  | _ => exact q.elim
end
/-! ### how a table is made of what is written -/
def keyS (e : DictEntry) : Option Str := match e.key with | .str x _ => some x | _ => none
def rowsOk (K : PySem.W.Frag) (a : Addr) : List (List Nat × List (List Nat)) → Prop
  | [] => True
  | p :: r => (∃ (t : Addr) (od : Option Addr) (its : Array Value) (n : Nat) (sl : Array (Option Value)), PySem.W.nsIn K a (tx p.1) = some (some (.ref t)) ∧ K.lookup t = some ⟨.type "tuple", od, .seq its n, sl⟩ ∧ its.size ≤ sizeLine ∧ Vals ((p.2.map tx).map V.str) its.toList) ∧ rowsOk K a r
theorem rowsOk.at {K : PySem.W.Frag} {a : Addr} : ∀ {tbl : List (List Nat × List (List Nat))} {k : List Nat} {v : List (List Nat)}, rowsOk K a tbl → tbl.lookup k = some v → ∃ t, PySem.W.nsIn K a (tx k) = some (some (.ref t)) ∧ ∀ H, SqT K H t ((v.map tx).map V.str)
  | [], k, v, _, h => by cases h
  | (k0, v0) :: r, k, v, ⟨⟨t, od, its, n, sl, h1, h2, h3, h4⟩, hr⟩, h => by
    rw [List.lookup_cons] at h
    by_cases e : k = k0
    · subst e
      rw [show (k == k) = true from beq_self_eq_true k] at h
      cases h
      exact ⟨t, h1, fun H => .inr ⟨_, its, n, h2, rfl, rfl, h3, h4⟩⟩
    · rw [show (k == k0) = false from beq_eq_false_iff_ne.mpr e] at h
      exact rowsOk.at hr h
theorem lookup_not {k : List Nat} : ∀ {tbl : List (List Nat × List (List Nat))}, tbl.lookup k = none → ∀ p ∈ tbl, p.1 ≠ k
  | [], _, p, h => by cases h
  | (k0, v0) :: r, h, p, hp => by
    rw [List.lookup_cons] at h
    by_cases e : k = k0
    · subst e
      rw [show (k == k) = true from beq_self_eq_true k] at h
      cases h
    · rw [show (k == k0) = false from beq_eq_false_iff_ne.mpr e] at h
      rcases List.mem_cons.mp hp with rfl | hp
      · exact fun z => e z.symm
      · exact lookup_not h p hp
theorem sz_le {n : Nat} (h : n ≤ 100) : n ≤ sizeLine := by rw [sizeLine_eq]; omega
theorem ktab_mk {K : PySem.W.Frag} {w : World} {a : Addr} {es : Array DictEntry} {n : Nat} {tbl : List (List Nat × List (List Nat))} (dl : K.lookup a = some ⟨.type "dict", none, .dict es n, #[]⟩) (dk : PySem.W.KeysLit w.params es.toList) (dz : (a == sysModules) = false)
    (dm : es.toList.map keyS = tbl.map fun p => some (tx p.1)) (rows : rowsOk K a tbl) : KTab K w a tbl where
  dic := ⟨es, n, dl, dk, dz⟩
  hit := fun k v h => rows.at h
  miss := fun k h => by
    have no : ∀ e ∈ es.toList, e.key.isStr (tx k) = false ∧ e.refKey = false := fun e he => by
      obtain ⟨x, t, e1, _⟩ := dk.all e he
      have m : keyS e ∈ tbl.map fun p => some (tx p.1) := by rw [← dm]; exact List.mem_map_of_mem he
      obtain ⟨p, hp, ep⟩ := List.mem_map.mp m
      have ks : keyS e = some x := by unfold keyS; rw [e1]
      rw [ks] at ep
      have ex : tx p.1 = x := Option.some.inj ep
      have ne := lookup_not h p hp
      refine ⟨?_, by unfold DictEntry.refKey; rw [e1]⟩
      rw [e1, ← ex]
      show (tx p.1 == tx k) = false
      exact beq_eq_false_iff_ne.mpr fun z => ne (by have := congrArg (fun s : Str => s.cps.toList) z; exact this)
    unfold PySem.W.nsIn
    rw [dl]
    dsimp only
    have f : es.toList.find? (fun e => e.key.isStr (tx k)) = none := List.find?_eq_none.mpr fun e he => by rw [(no e he).1]; exact Bool.false_ne_true
    rw [f]
    dsimp only
    have g : es.toList.any (·.refKey) = false := List.any_eq_false.mpr fun e he => by rw [(no e he).2]; exact Bool.false_ne_true
    rw [g]
    rfl
end DL

set_option Elab.async false
set_option linter.all false
set_option maxRecDepth 100000
set_option maxHeartbeats 2000000
namespace L2
open PySem PySem.Spec PyProof.Rows RZ
/-- a list at a beside a tuple at b, as they stand at each turn -/
def ItzM (K : PySem.W.Frag) (a b : Addr) : It :=
  ⟨fun i H => ∃ (xs ys : List V) (x y : V), SqL K H a xs ∧ SqT K H b ys ∧ xs[i]? = some x ∧ ys[i]? = some y,
    fun i H v H' => ∃ T x y, v = .ref T ∧ H T = none ∧ H' = upd H T (.tup [x, y]) ∧ (∀ xs, SqL K H a xs → xs[i]? = some x) ∧ ∀ ys, SqT K H b ys → ys[i]? = some y,
    fun i H => ∃ xs ys : List V, SqL K H a xs ∧ SqT K H b ys ∧ (xs.length ≤ i ∨ ys.length ≤ i)⟩
/-- what is drawn from turn i on, be it past the end -/
theorem draws_atL {prog : Program} {w : World} {A : Around} (hh : A.handled = none) {it l : Addr} (hne : l ≠ it) (items : Array Value) (i : Nat) :
    ∃ (n : Nat) (P : Nat → Value → Prop) (St : Nat → Heap → Prop), Draws prog w A it [it, l] n P St ∧ i ≤ n ∧ (items.size ≤ i → n = i) ∧ ∀ h : Heap, h.IsListIter it l i → h.IsList l items → St i h := by
  by_cases q : items.size ≤ i
  · refine ⟨i, fun _ _ => True, fun j h => j = i ∧ h.IsListIter it l i ∧ h.IsList l items, ⟨fun j h st => ?_, fun j h h' st hk => ⟨st.1, st.2.1.at fun o e => hk it (by simp) o e, st.2.2.at fun o e => hk l (by simp) o e⟩, fun j s Q E hj st => absurd st.1 (by omega), fun s Q E st hE => ?_⟩, Nat.le_refl i, fun _ => rfl, fun h h1 h2 => ⟨rfl, h1, h2⟩⟩
    · obtain ⟨o, ho, _⟩ := st.2.1
      exact ⟨o, ho⟩
    · exact wpAny_nextOf_list_end hh st.2.1 st.2.2 (Array.getElem?_eq_none q) hE
  · exact ⟨_, _, _, Draws.list hh it l hne items, by omega, fun z => absurd z q, fun h h1 h2 => ⟨h1, h2⟩⟩
theorem draws_atT {prog : Program} {w : World} {A : Around} (hh : A.handled = none) {it l : Addr} (hne : l ≠ it) (items : Array Value) (i : Nat) :
    ∃ (n : Nat) (P : Nat → Value → Prop) (St : Nat → Heap → Prop), Draws prog w A it [it, l] n P St ∧ i ≤ n ∧ (items.size ≤ i → n = i) ∧ ∀ h : Heap, h.IsTupleIter it l i → h.IsTuple l items → St i h := by
  by_cases q : items.size ≤ i
  · refine ⟨i, fun _ _ => True, fun j h => j = i ∧ h.IsTupleIter it l i ∧ h.IsTuple l items, ⟨fun j h st => ?_, fun j h h' st hk => ⟨st.1, st.2.1.at fun o e => hk it (by simp) o e, st.2.2.at fun o e => hk l (by simp) o e⟩, fun j s Q E hj st => absurd st.1 (by omega), fun s Q E st hE => ?_⟩, Nat.le_refl i, fun _ => rfl, fun h h1 h2 => ⟨rfl, h1, h2⟩⟩
    · obtain ⟨o, ho, _⟩ := st.2.1
      exact ⟨o, ho⟩
    · exact wpAny_nextOf_tuple_end hh st.2.1 st.2.2 (Array.getElem?_eq_none q) hE
  · exact ⟨_, _, _, Draws.tuple hh it l hne items, by omega, fun z => absurd z q, fun h h1 h2 => ⟨h1, h2⟩⟩
theorem sepM {z TI TO i1 i2 a b : Addr} (D : ZipApart z TI TO i1 i2 a b) : ZipSep2 z TI TO i1 i2 [i1, a] [i2, b] where
  TIz := D.TIz
  TOz := D.TOz
  TITO := D.TITO
  TIi1 := D.TIi1
  mem1 := by simp
  zf1 := by simp [D.i1z.symm, D.l1z.symm]
  Tf1 := by simp [D.TOi1, D.l1TO.symm]
  TIi2 := D.TIi2
  mem2 := by simp
  zf2 := by simp [D.i2z.symm, D.l2z.symm]
  Tf2 := by simp [D.TOi2, D.l2TO.symm]
  sep1_2 := by simp [D.i12, D.l2i1.symm]
  sep2_1 := by simp [D.i12.symm, D.l1i2.symm]
theorem turn_zipM {P : Program} {w : World} {K : PySem.W.Frag} {elts : List Expr} {kk : Nat} {tpos : Pos} {a b z TI TO i1 i2 : Addr} (D : ZipApart z TI TO i1 i2 a b) :
    Turn P w K (.Tuple elts kk tpos) (ItzM K a b) [z, TI, TO, i1, i2] z (fun i h => IsZip h z TI TO .none ∧ IsPair h TI (.ref i1) (.ref i2) ∧ (∃ x y, IsPair h TO x y) ∧ h.IsListIter i1 a i ∧ h.IsTupleIter i2 b i) where
  mem := by simp
  obj := fun i h st c hc => by
    obtain ⟨hz, hTI, ⟨x, y, hTO⟩, ⟨o1, e1, _, d1⟩, ⟨o2, e2, _, d2⟩⟩ := st
    have e' : c = z ∨ c = TI ∨ c = TO ∨ c = i1 ∨ c = i2 := by simpa using hc
    rcases e' with q | q | q | q | q
    · rw [q]; exact ⟨_, hz, fun v q => nomatch q⟩
    · rw [q]; exact ⟨_, hTI, fun v q => nomatch q⟩
    · rw [q]; exact ⟨_, hTO, fun v q => nomatch q⟩
    · rw [q]; exact ⟨o1, e1, fun v q => by rw [d1] at q; cases q⟩
    · rw [q]; exact ⟨o2, e2, fun v q => by rw [d2] at q; cases q⟩
  keep := fun i h h' st k => by
    obtain ⟨hz, hTI, ⟨x, y, hTO⟩, h1, h2⟩ := st
    exact ⟨k z (by simp) _ hz, k TI (by simp) _ hTI, ⟨x, y, k TO (by simp) _ hTO⟩, h1.at fun o q => k i1 (by simp) o q, h2.at fun o q => k i2 (by simp) o q⟩
  item := by
    intro X hP hw hK hc i pins s σ H E I hf st hg
    subst hP hw hK
    obtain ⟨hz, hTI, ⟨x0, y0, hTO⟩, h1, h2⟩ := st
    obtain ⟨xs, ys, x, y, hqx, hqy, hx, hy⟩ := hg
    obtain ⟨its, rv, p, _⟩ := I.list hqx
    obtain ⟨its2, rv2, p2, _⟩ := I.tuple hqy
    obtain ⟨u, hu, ru⟩ := rv.get hx
    obtain ⟨u2, hu2, ru2⟩ := rv2.get hy
    have hzl : z < s.heap.objs.size := Heap.lt_size hz
    have hh : X.A.in1.handled = none := I.ok.hd hc
    refine wpAny_pyNext_zipD2_item (sepM D) (Draws.list hh i1 a D.l1i1 its.toArray) (Draws.tuple hh i2 b D.l2i2 its2.toArray) hz hTI hTO ⟨h1, p.isList⟩ ⟨h2, p2⟩ ?_ ?_ fun x1 x2 h' tk y1 y2 z' TO' d1 d2 hT hsz hk => ?_
    · have := (List.getElem?_eq_some_iff.mp hu).1
      rw [List.size_toArray]; exact this
    · have := (List.getElem?_eq_some_iff.mp hu2).1
      rw [List.size_toArray]; exact this
    have ex1 : x1 = u := by
      have q : its.toArray[i]? = some x1 := y1
      rw [List.getElem?_toArray, hu] at q
      exact (Option.some.inj q).symm
    have ex2 : x2 = u2 := by
      have q : its2.toArray[i]? = some x2 := y2
      rw [List.getElem?_toArray, hu2] at q
      exact (Option.some.inj q).symm
    subst ex1 ex2
    obtain ⟨h1', _⟩ := d1
    obtain ⟨h2', _⟩ := d2
    refine ⟨_, rfl, wpAny_letOwnedTupleGo_zip (s := { s with heap := h', toks := tk }) z' fun h'' z'' sb => ?_⟩
    have hT2 : h''.get? s.heap.objs.size = some { cls := .type "tuple", data := .seq #[x1, x2] } := (sb.2 _ (Nat.ne_of_gt hzl)).trans hT
    have new : ObjOk X.prog X.w (upd H s.heap.objs.size (.tup [x, y])) h'' s.heap.objs.size (.tup [x, y]) :=
      ⟨by show 2 ≤ sizeLine; decide, [x1, x2], .cons ru (.cons ru2 .nil), ⟨_, hT2, rfl, _, rfl⟩⟩
    have I1 : Inv X pins σ (upd H s.heap.objs.size (.tup [x, y])) { s with heap := h'', toks := tk } :=
      I.turnedNew (t' := tk) (ch := [z, TI, TO, i1, i2]) (fun c o hb q => (sb.2 c (fun q' => hb (by simp [q']))).trans (hk c o (fun q' => hb (by simp [q'])) (fun q' => hb (by simp [q'])) (fun q' => hb (by simp [q'])) (fun q' => hb (by simp [q'])) q)) hf (Nat.le_refl _) new
    refine ⟨.ref s.heap.objs.size, _, I1, rfl, ⟨_, x, y, rfl, I.hok.fresh (Nat.le_refl _), rfl, fun l hl => by rw [I.list_inj hl hqx]; exact hx, fun l hl => by rw [I.tuple_inj hl hqy]; exact hy⟩, ⟨z'', ?_, ⟨x1, x2, ?_⟩, ?_, ?_⟩, fun c hcm => ?_⟩
    · exact (sb.2 _ D.TIz).trans (hk _ _ D.TIz D.TITO D.TIi1 D.TIi2 hTI)
    · exact (sb.2 _ D.TOz).trans TO'
    · exact h1'.at fun o q => (sb.2 _ D.i1z).trans q
    · exact h2'.at fun o q => (sb.2 _ D.i2z).trans q
    · have hlt : c < s.heap.objs.size := by
        have e' : c = z ∨ c = TI ∨ c = TO ∨ c = i1 ∨ c = i2 := by simpa using hcm
        rcases e' with q | q | q | q | q
        · rw [q]; exact hzl
        · rw [q]; exact Heap.lt_size hTI
        · rw [q]; exact Heap.lt_size hTO
        · rw [q]; obtain ⟨_, e1, _⟩ := h1; exact Heap.lt_size e1
        · rw [q]; obtain ⟨_, e2, _⟩ := h2; exact Heap.lt_size e2
      rw [upd_ne (Nat.ne_of_lt hlt)]
      exact (hf c hcm).1
  done := by
    intro X hP hw hK hc i pins s σ H E I hf st hg
    subst hP hw hK
    obtain ⟨hz, hTI, ⟨x0, y0, hTO⟩, h1, h2⟩ := st
    obtain ⟨xs, ys, hqx, hqy, hend⟩ := hg
    obtain ⟨its, rv, p, _⟩ := I.list hqx
    obtain ⟨its2, rv2, p2, _⟩ := I.tuple hqy
    have l1 := rv.length
    have l2 := rv2.length
    have hh : X.A.in1.handled = none := I.ok.hd hc
    obtain ⟨n1, P1, St1, D1, g1, e1, s1⟩ := draws_atL (prog := X.prog) (w := X.w) hh D.l1i1 its.toArray i
    obtain ⟨n2, P2, St2, D2, g2, e2, s2⟩ := draws_atT (prog := X.prog) (w := X.w) hh D.l2i2 its2.toArray i
    rw [List.size_toArray] at e1 e2
    refine wpAny_pyNext_zipD2_end (sepM D) D1 D2 hz hTI hTO (s1 _ h1 p.isList) (s2 _ h2 p2) g1 g2 ?_ fun h' tk hk => ⟨rfl, I.turnedL (t' := tk) (ch := [z, TI, TO, i1, i2]) (fun c o hb q =>
      hk c o (fun q' => hb (by simp [q'])) (fun q' => hb (by simp [q'])) (fun q' => hb (by simp [q'])) (fun q' => hb (by simp [q'])) q) hf⟩
    rcases hend with q | q
    · exact .inl (e1 (by omega)).symm
    · exact .inr (e2 (by omega)).symm
  self := fun A i s Q E st h => wpAny_pyIter_zip st.1 h
def iZipM (K : PySem.W.Frag) (ta : TA) : TI := fun σ H R => ta σ H fun vs H1 => ∃ a b xs ys, vs = [.ref a, .ref b] ∧ SqL K H1 a xs ∧ SqT K H1 b ys ∧ R (ItzM K a b) H1
theorem pi_zipM {X : Cx} {e e2 : Expr} {ta : TA} {p pos tpos : Pos} {elts : List Expr} {kk : Nat} (hg : Gl X "zip") (hm : X.mg "zip" = none) (ha : DL.PA X [e, e2] ta)
    (hs : starEach [e, e2] X.env = (false, eval e X.env) :: starEach [e2] X.env := by rfl) (hpl : (backTo pos (starEach [e2] X.env)).any (·.1) = false := by rfl) :
    DL.PI X (.Tuple elts kk tpos) (.Call (.Name "zip" p) [e, e2] [] pos) (iZipM X.K ta) := by
  refine ⟨fun {pins s σ H R} k0 I h => ?_⟩
  refine Call_ (ld_blt I hg hm PyProof.Rows.boot_zip (PyProof.Rows.callWith_type1 (thn (ha.run pos k0 I h) fun us s1 ⟨vs, H1, I1, r1, q1⟩ => ?_) hs hpl))
  obtain ⟨a, b, xs, ys, ex, hqx, hqy, q⟩ := q1
  subst ex
  cases r1 with
  | cons r rr =>
    cases rr with
    | cons r' rr =>
      cases rr
      cases r
      cases r'
      obtain ⟨its, rv, p1, _⟩ := I1.list hqx
      obtain ⟨its2, rv2, p2, _⟩ := I1.tuple hqy
      obtain ⟨o2, ho2, _⟩ := id p2
      refine zip_begins2 (begins_list a its.toArray) (begins_tuple b its2.toArray) p1.isList p2 fun h' hz hTI hTO h1 h2 hsz hk => wpAny_pyIter_zip hz ?_
      have I2 : Inv X pins σ H1 { s1 with heap := h' } := I1.kept (t' := s1.toks) hk
      refine ⟨s1.heap.objs.size + 4, [s1.heap.objs.size + 4, s1.heap.objs.size + 2, s1.heap.objs.size + 3, s1.heap.objs.size, s1.heap.objs.size + 1], _, _, H1, rfl, I2, turn_zipM (PySem.W.ktu_apart s1.heap.objs.size a b p1.lt (Heap.lt_size ho2)), ⟨hz, hTI, ⟨_, _, hTO⟩, ⟨_, h1, rfl, rfl⟩, ⟨_, h2, rfl, rfl⟩⟩, fun c hcm => ?_, q⟩
      have hle : s1.heap.objs.size ≤ c := by
        simp only [List.mem_cons, List.not_mem_nil, or_false] at hcm
        rcases hcm with z | z | z | z | z
        · rw [z]; exact Nat.le_add_right _ _
        · rw [z]; exact Nat.le_add_right _ _
        · rw [z]; exact Nat.le_add_right _ _
        · rw [z]; exact Nat.le_refl _
        · rw [z]; exact Nat.le_add_right _ _
      exact I1.fpOk hle (I1.hok.fresh hle)
end L2
namespace DL
open PySem PySem.Spec L2 PyProof.Rows
section
variable {X : Cx} {a b e : Expr} {τa τb τ : ED} {α : AD} {p p2 pos pos2 tpos : Pos} {elts : List Expr} {kk : Nat}
theorem simj_zipM {K : PySem.W.Frag} {Hb : Hp} {S : Sh} {H : Hp} {a b : Addr} {us : List V} {xs ys : List D} {ck : Sh → Prop} (hl : ∀ S' H', Kp K (fun a => Hb a = none) S H S' H' → ck S' → ∃ vs, SqL K H' a vs ∧ Reps K H' xs vs) (ry : Reps K H ys us) (hb : SqT K H b us) :
    SimJ K Hb S H (ItzM K a b) (zipD xs ys) ck := fun S' H' g hck i => by
  obtain ⟨vs, h1, r1⟩ := hl S' H' g hck
  have im := g.im
  have h2 := im.t _ _ hb
  have r2 := ry.im im
  refine ⟨fun d hd => ?_, fun hi => ⟨vs, us, h1, h2, ?_⟩⟩
  · obtain ⟨x, y, hx, hy, rfl⟩ := zipD_get hd
    obtain ⟨v, hv, rv⟩ := r1.get hx
    obtain ⟨u, hu, ru⟩ := r2.get hy
    refine ⟨⟨vs, us, v, u, h1, h2, hv, hu⟩, fun z H2 ⟨T, v', u', e1, e2, e3, e4, e5⟩ => ?_⟩
    have f1 := e4 vs h1
    have f2 := e5 us h2
    rw [hv] at f1
    rw [hu] at f2
    cases f1
    cases f2
    subst e1
    subst e3
    have g2 := Go.new (u := .tup [v, u]) g.wd e2
    exact ⟨g2, T, [v, u], rfl, SqT.of upd_same, v, _, rfl, rv.im (g2.im g.wd), u, _, rfl, ru.im (g2.im g.wd), rfl⟩
  · rw [zipD_len, r1.length, r2.length] at hi
    omega
/-- zip of a list and a tuple -/
def dZipM (l : AD) : ID := fun δ S Q => l δ S fun ds S1 => match ds with
  | [.rf p, .tup ys] => (match S1 p with | some (.lst xs) => Q (zipD xs ys) (fun S => S p = some (.lst xs)) S1 | _ => False)
  | _ => False
theorem i_zipM (hm : X.mg "zip" = none) (ha : A X [a, b] α) (hg : Gl X "zip" := by rfl) (hs : starEach [a, b] X.env = (false, eval a X.env) :: starEach [b] X.env := by rfl) (hpl : (backTo pos (starEach [b] X.env)).any (·.1) = false := by rfl) :
    I X (.Tuple elts kk tpos) (.Call (.Name "zip" p) [a, b] [] pos) (dZipM α) := by
  obtain ⟨t, a1, a2⟩ := ha
  refine ⟨_, pi_zipM hg hm a1 hs hpl, fun σ H δ S w sl Q R k h => ?_⟩
  refine a2 σ H δ S w sl _ _ (fun vs H1 ds S1 g1 rs q => ?_) h
  rcases ds with _ | ⟨d, _ | ⟨d2, _ | ⟨d3, ds⟩⟩⟩
  · exact False.elim q
  · cases d <;> exact False.elim q
  · obtain ⟨v, r, rfl, rv, u, r2, rfl, ru, rfl⟩ := rs
    cases d with
    | rf pp =>
      cases d2 with
      | tup ys =>
        obtain rfl := rv
        obtain ⟨t2, us2, rfl, q2, rs2⟩ := ru
        dsimp only at q
        split at q
        · rename_i xs es
          obtain ⟨ho, e0, vs1, rfl, rs1⟩ := g1.wd _ _ es
          refine ⟨pp, t2, vs1, us2, rfl, SqL.of e0, q2, k _ H1 S1 _ (fun S => S pp = some (.lst xs)) g1 (simj_zipM (fun S' H' g hck => ?_) rs2 q2) es q⟩
          obtain ⟨ho2, e2, vs2, rfl, rs2'⟩ := g.wd _ _ hck
          exact ⟨vs2, SqL.of e2, rs2'⟩
        · exact q.elim
      | _ => exact False.elim q
    | _ => cases d2 <;> exact False.elim q
  · cases d with
    | rf pp => cases d2 <;> exact False.elim q
    | tup xs => cases d2 <;> exact False.elim q
    | _ => exact False.elim q
end
end DL

namespace L2
open PySem PySem.Spec PyProof.Rows
section
variable {X : Cx}
/-- x in l, l a list of data, x not deep -/
def rInDs (K : PySem.W.Frag) (neg : Bool) : R2 := fun x y H Q => ∃ d ds, Dp K H x d ∧ Dp K H y (.list ds) ∧ SeqAt.shaped d = true ∧ d.depth ≤ 32 ∧ SeqAt.shaped (.list ds) = true ∧ Q (.bl (if neg then !ds.any fun z => PyData.eqv z d else ds.any fun z => PyData.eqv z d)) H
theorem op_inDs (hu : X.A.units + 64 < cLine) : OpR X (compareOp .In) (rInDs X.K false) := by
  intro pins s σ H x y v u Q I rx ry h
  obtain ⟨d, ds, hd, he, sd, dd, se, q⟩ := h
  obtain ⟨as, r1⟩ := Dp.reads I d x v hd rx
  obtain ⟨bs, r2⟩ := Dp.reads I (.list ds) y u he ry
  exact SeqAt.in_list_reads r2 r1 (SeqAt.canLay_of_shaped se) (SeqAt.canLay_of_shaped sd) (by have := Nat.min_le_right (PyData.depthAll ds) d.depth; omega) ⟨.bl _, H, I, rfl, q⟩
theorem op_notInDs (hu : X.A.units + 64 < cLine) : OpR X (compareOp .NotIn) (rInDs X.K true) := by
  intro pins s σ H x y v u Q I rx ry h
  obtain ⟨d, ds, hd, he, sd, dd, se, q⟩ := h
  obtain ⟨as, r1⟩ := Dp.reads I d x v hd rx
  obtain ⟨bs, r2⟩ := Dp.reads I (.list ds) y u he ry
  exact SeqAt.notIn_list_reads r2 r1 (SeqAt.canLay_of_shaped se) (SeqAt.canLay_of_shaped sd) (by have := Nat.min_le_right (PyData.depthAll ds) d.depth; omega) ⟨.bl _, H, I, rfl, q⟩
end
end L2
namespace DL
open PySem PySem.Spec L2 PyProof.Rows
section
variable {X : Cx}
def dInD (neg : Bool) : R2D := fun x y S Q => match y with
  | .rf p => (match S p with
    | some (.lst es) => (match toPy x, toPys es with
      | some d, some ds => SeqAt.shaped d = true ∧ d.depth ≤ 32 ∧ SeqAt.shaped (.list ds) = true ∧ Q (.bl (if neg then !ds.any fun z => PyData.eqv z d else ds.any fun z => PyData.eqv z d)) S
      | _, _ => False)
    | _ => False)
  | _ => False
theorem o_inDs {op : CmpOp} {neg : Bool} (h : OpR X (compareOp op) (rInDs X.K neg)) : O X (compareOp op) (dInD neg) := by
  refine ⟨_, h, fun H S x y dx dy w rx ry Q R k q => ?_⟩
  unfold dInD at q
  cases dy with
  | rf p =>
    obtain rfl := ry
    simp only at q
    split at q
    · rename_i es ed
      obtain ⟨ho, e0, vs, rfl, rs⟩ := w _ _ ed
      split at q
      · rename_i d ds e1 e2
        exact ⟨d, ds, toPy_dp rx e1, .lst (SqL.of e0) (toPys_dp rs e2), q.1, q.2.1, q.2.2.1, k _ H (.bl _) S (Go.refl w) rfl q.2.2.2⟩
      · exact q.elim
    · exact q.elim
  | _ => exact False.elim q
theorem o_inD (hu : X.A.units + 64 < cLine) : O X (compareOp .In) (dInD false) := o_inDs (op_inDs hu)
theorem o_notInD (hu : X.A.units + 64 < cLine) : O X (compareOp .NotIn) (dInD true) := o_inDs (op_notInDs hu)
/-- str of an int or a text -/
def dStrA : CD := fun ds S Q => match ds with | [.int i] => i.natAbs.log2 < 1920 ∧ Q (.str (decs i)) S | [.str s] => Q (.str s) S | _ => False
theorem c_strA : C X (.type "str") dStrA := by
  refine ⟨_, CallR.or call_str_int SkE.call_str_str, fun H S vs ds w rs Q R k q => ?_⟩
  rcases ds with _ | ⟨d, _ | ⟨d2, ds⟩⟩
  · exact False.elim q
  · obtain ⟨v, r, rfl, rv, rfl⟩ := rs
    cases d with
    | int i =>
      obtain rfl := rv
      exact .inl ⟨i, rfl, q.1, k _ H (.str (decs i)) S (Go.refl w) (by show V.str _ = V.str ⟨(decs i).toArray⟩; unfold decs; rw [Array.toArray_toList]) q.2⟩
    | str s =>
      obtain rfl := rv
      exact .inr ⟨_, rfl, k _ H (.str s) S (Go.refl w) rfl q⟩
    | _ => exact False.elim q
  · cases d <;> exact False.elim q
end
end DL

set_option Elab.async false
set_option linter.all false
set_option maxRecDepth 100000
set_option maxHeartbeats 2000000
/-! dicts with int and text keys, as objects -/
namespace DL
open PySem PySem.Spec L2 DK
abbrev DV := List (Ky × D)
def valD (kvs : DV) (k : Ky) : Option D := (kvs.find? fun kv => decide (kv.1 = k)).map (·.2)
def putD (kvs : DV) (k : Ky) (v : D) : DV := if (kvs.any fun kv => decide (kv.1 = k)) = true then kvs.map (fun kv => if kv.1 = k then (kv.1, v) else kv) else kvs ++ [(k, v)]
def dropD (kvs : DV) (k : Ky) : DV := kvs.filter fun kv => decide (kv.1 ≠ k)
def toKy : D → Option Ky
  | .int n => some (.i n)
  | .str s => some (.s s)
  | _ => none
theorem valD_pos {p : Ky × D} {r : DV} {k : Ky} (e : p.1 = k) : valD (p :: r) k = some p.2 := by simp [valD, List.find?_cons, e]
theorem valD_neg {p : Ky × D} {r : DV} {k : Ky} (e : ¬ p.1 = k) : valD (p :: r) k = valD r k := by simp [valD, List.find?_cons, e]
section
variable {K : PySem.W.Frag} {H : Hp}
theorem key_rep {d : D} {v : V} {k : Ky} (r : Rep K H d v) (h : toKy d = some k) : v = kV k.k := by
  cases d <;> first | (cases h; done) | skip
  · cases h; exact r
  · cases h; exact r
theorem ky_ne {a b : Ky} (h : ¬ a = b) : ¬ a.k = b.k := fun e => h (Ky.inj e)
theorem RepK.val : ∀ {ds : DV} {kvs : List (Key × V)} {k : Ky}, RepK K H ds kvs → (match valD ds k with | some d => ∃ v, valV kvs k.k = some v ∧ Rep K H d v | none => valV kvs k.k = none)
  | [], _, k, h => by rw [show _ = ([] : List (Key × V)) from h]; rfl
  | (x, d) :: ds, _, k, h => by
    obtain ⟨v, r, rfl, h1, h2⟩ := h
    by_cases e : x = k
    · rw [valD_pos e, valV_pos (show (x.k, v).1 = k.k by rw [e])]
      exact ⟨v, rfl, h1⟩
    · rw [valD_neg e, valV_neg (show ¬ (x.k, v).1 = k.k from ky_ne e)]
      exact RepK.val h2
theorem RepK.any : ∀ {ds : DV} {kvs : List (Key × V)} {k : Ky}, RepK K H ds kvs → (ds.any fun kv => decide (kv.1 = k)) = (kvs.any fun kv => decide (kv.1 = k.k))
  | [], _, k, h => by rw [show _ = ([] : List (Key × V)) from h]; rfl
  | (x, d) :: ds, _, k, h => by
    obtain ⟨v, r, rfl, h1, h2⟩ := h
    rw [List.any_cons, List.any_cons, RepK.any h2]
    by_cases e : x = k
    · subst e
      rw [show decide ((x, d).1 = x) = true from decide_eq_true rfl, show decide ((x.k, v).1 = x.k) = true from decide_eq_true rfl]
    · rw [show decide ((x, d).1 = k) = false from decide_eq_false e, show decide ((x.k, v).1 = k.k) = false from decide_eq_false (ky_ne e)]
theorem RepK.repl : ∀ {ds : DV} {kvs : List (Key × V)} {k : Ky} {d : D} {v : V}, RepK K H ds kvs → Rep K H d v → RepK K H (ds.map fun kv => if kv.1 = k then (kv.1, d) else kv) (kvs.map fun kv => if kv.1 = k.k then (kv.1, v) else kv)
  | [], _, k, _, _, h, _ => by rw [show _ = ([] : List (Key × V)) from h]; exact rfl
  | (x, d0) :: ds, _, k, d, v, h, r => by
    obtain ⟨v0, rr, rfl, h1, h2⟩ := h
    rw [List.map_cons, List.map_cons]
    by_cases e : x = k
    · rw [if_pos (show (x, d0).1 = k from e), if_pos (show (x.k, v0).1 = k.k by rw [e])]
      exact ⟨v, _, rfl, r, RepK.repl h2 r⟩
    · rw [if_neg (show ¬ (x, d0).1 = k from e), if_neg (show ¬ (x.k, v0).1 = k.k from ky_ne e)]
      exact ⟨v0, _, rfl, h1, RepK.repl h2 r⟩
theorem RepK.snoc : ∀ {ds : DV} {kvs : List (Key × V)} {k : Ky} {d : D} {v : V}, RepK K H ds kvs → Rep K H d v → RepK K H (ds ++ [(k, d)]) (kvs ++ [(k.k, v)])
  | [], _, k, d, v, h, r => by rw [show _ = ([] : List (Key × V)) from h]; exact ⟨v, [], rfl, r, rfl⟩
  | (x, d0) :: ds, _, k, d, v, h, r => by
    obtain ⟨v0, rr, rfl, h1, h2⟩ := h
    exact ⟨v0, _, rfl, h1, RepK.snoc h2 r⟩
theorem RepK.put {ds : DV} {kvs : List (Key × V)} {k : Ky} {d : D} {v : V} (h : RepK K H ds kvs) (r : Rep K H d v) : RepK K H (putD ds k d) (putK kvs k.k v) := by
  unfold putD putK
  rw [h.any]
  split
  · exact h.repl r
  · exact h.snoc r
theorem RepK.len : ∀ {ds : DV} {kvs : List (Key × V)}, RepK K H ds kvs → ds.length = kvs.length
  | [], _, h => by rw [show _ = ([] : List (Key × V)) from h]; rfl
  | (_, _) :: _, _, h => by
    obtain ⟨v, r, rfl, _, h2⟩ := h
    rw [List.length_cons, List.length_cons, RepK.len h2]
theorem RepK.drop : ∀ {ds : DV} {kvs : List (Key × V)} {k : Ky}, RepK K H ds kvs → RepK K H (dropD ds k) (dropK kvs k.k)
  | [], _, k, h => by rw [show _ = ([] : List (Key × V)) from h]; exact rfl
  | (x, d0) :: ds, _, k, h => by
    obtain ⟨v0, rr, rfl, h1, h2⟩ := h
    have ih := RepK.drop (k := k) h2
    unfold dropD dropK at ih ⊢
    by_cases e : x = k
    · rw [List.filter_cons, List.filter_cons, if_neg (by simp [e]), if_neg (by simp [e])]
      exact ih
    · rw [List.filter_cons, List.filter_cons, if_pos (by simp [e]), if_pos (by simpa using ky_ne e)]
      exact ⟨v0, _, rfl, h1, ih⟩
def mergeD (kvs more : DV) : DV := more.foldl (fun acc kv => putD acc kv.1 kv.2) kvs
theorem RepK.merge : ∀ {more : DV} {ms : List (Key × V)} {ds : DV} {kvs : List (Key × V)}, RepK K H more ms → RepK K H ds kvs → RepK K H (mergeD ds more) (mergeK kvs ms)
  | [], _, _, _, h, q => by rw [show _ = ([] : List (Key × V)) from h]; exact q
  | (x, d0) :: more, _, ds, kvs, h, q => by
    obtain ⟨v0, rr, rfl, h1, h2⟩ := h
    show RepK K H (mergeD (putD ds x d0) more) (mergeK (putK kvs x.k v0) rr)
    exact RepK.merge h2 (q.put h1)
theorem Wd.dic {S : Sh} (w : Wd K H S) {p : Addr} {kvs : DV} (e : S p = some (.dic kvs)) : ∃ vs, H p = some (.dK vs) ∧ RepK K H kvs vs := by
  obtain ⟨ho, e1, vs, rfl, r⟩ := w _ _ e
  exact ⟨vs, e1, r⟩
end
section
variable {X : Cx} {o i e value f : Expr} {pos pos' apos cpos : Pos} {τa τb τc : ED}
/-- d[k] -/
def dDGet (a i : ED) : ED := fun δ S Q => a δ S fun x S1 => i δ S1 fun y S2 => match x, toKy y with
  | .rf p, some k => (match S2 p with | some (.dic kvs) => (match valD kvs k with | some v => Q v S2 | none => False) | _ => False)
  | _, _ => False
theorem dic_at {S : Sh} {dx dy : D} {P : DV → Ky → Addr → Prop} (h : match dx, toKy dy with
  | .rf p, some k => (match S p with | some (.dic kvs) => P kvs k p | _ => False)
  | _, _ => False) : ∃ p k kvs, dx = .rf p ∧ toKy dy = some k ∧ S p = some (.dic kvs) ∧ P kvs k p := by
  cases dx with
  | rf p =>
    cases ek : toKy dy with
    | none => rw [ek] at h; exact h.elim
    | some k =>
      rw [ek] at h
      simp only at h
      cases es : S p with
      | none => rw [es] at h; exact h.elim
      | some o =>
        rw [es] at h
        cases o with
        | dic kvs => exact ⟨p, k, kvs, rfl, rfl, es, h⟩
        | lst _ => exact h.elim
        | ins _ _ => exact h.elim
        | exn _ => exact h.elim
  | _ => exact h.elim
theorem e_dget (hu : X.A.units + 1 < cLine) (ha : E X o τa) (hi : E X i τb) (hs : NoSl i := by exact fun _ _ => rfl) : E X (.Subscript o i pos) (dDGet τa τb) := by
  obtain ⟨ta, a1, a2⟩ := ha
  obtain ⟨tb, b1, b2⟩ := hi
  refine ⟨_, pe_dget hu a1 b1 hs, fun σ H δ S w sl Q R k h => ?_⟩
  refine a2 σ H δ S w sl _ _ (fun x H1 dx S1 g1 r1 q1 => ?_) h
  refine b2 σ H1 δ S1 g1.wd (sl.im (g1.im w)) _ _ (fun y H2 dy S2 g2 r2 q2 => ?_) q1
  obtain ⟨p, ky, kvs, rfl, ek, es, q3⟩ := dic_at q2
  obtain rfl := r1
  obtain rfl := key_rep r2 ek
  obtain ⟨vs, e1, rk⟩ := g2.wd.dic es
  have rv := rk.val (k := ky)
  cases ev : valD kvs ky with
  | none => rw [ev] at q3; exact q3.elim
  | some d =>
    rw [ev] at q3 rv
    obtain ⟨v, hv, rd⟩ := rv
    exact ⟨p, v, rfl, by rw [← hv]; exact DGet.k e1, k v H2 d S2 (g1.trans g2) rd q3⟩
/-- k in d -/
def dDIn (neg : Bool) (i a : ED) : ED := fun δ S Q => i δ S fun y S1 => a δ S1 fun x S2 => match x, toKy y with
  | .rf p, some k => (match S2 p with | some (.dic kvs) => Q (.bl (if neg then !(valD kvs k).isSome else (valD kvs k).isSome)) S2 | _ => False)
  | _, _ => False
theorem RepK.some {K : PySem.W.Frag} {H : Hp} {ds : DV} {kvs : List (Key × V)} {k : Ky} (h : RepK K H ds kvs) : (valV kvs k.k).isSome = (valD ds k).isSome := by
  have := h.val (k := k)
  cases e : valD ds k with
  | none => rw [e] at this; rw [show valV kvs k.k = none from this]; rfl
  | some d =>
    rw [e] at this
    obtain ⟨v, hv, _⟩ := this
    rw [hv]; rfl
theorem sim_din {K : PySem.W.Frag} {ta tb : TE} (a2 : SimE K ta τa) (b2 : SimE K tb τb) : SimE K (tDIn tb ta) (dDIn false τb τa) := fun σ H δ S w sl Q R k h => by
  refine b2 σ H δ S w sl _ _ (fun y H1 dy S1 g1 r1 q1 => ?_) h
  refine a2 σ H1 δ S1 g1.wd (sl.im (g1.im w)) _ _ (fun x H2 dx S2 g2 r2 q2 => ?_) q1
  obtain ⟨p, ky, kvs, rfl, ek, es, q3⟩ := dic_at q2
  obtain rfl := r2
  obtain rfl := key_rep r1 ek
  obtain ⟨vs, e1, rk⟩ := g2.wd.dic es
  exact ⟨p, valV vs ky.k, rfl, DGet.k e1, k _ H2 (.bl (valD kvs ky).isSome) S2 (g1.trans g2) (by rw [rk.some]; rfl) q3⟩
theorem e_din (hu : X.A.units + 1 < cLine) (hi : E X i τb) (ha : E X o τa) (hm : behindInMarks .In o = false := by first | exact nobehind _ (by decide) (by decide) | rfl) : E X (.Compare i [.In] [o] pos) (dDIn false τb τa) := by
  obtain ⟨ta, a1, a2⟩ := ha
  obtain ⟨tb, b1, b2⟩ := hi
  exact ⟨_, pe_cmp (pc_din hu b1 a1) hm, sim_din a2 b2⟩
theorem t_din (hu : X.A.units + 1 < cLine) (hi : E X i τb) (ha : E X o τa) (hm : behindInMarks .In o = false := by first | exact nobehind _ (by decide) (by decide) | rfl) : T X (.Compare i [.In] [o] pos) (dTB (dDIn false τb τa)) := by
  obtain ⟨ta, a1, a2⟩ := ha
  obtain ⟨tb, b1, b2⟩ := hi
  refine ⟨_, pt_cmp (pc_din hu b1 a1) hm, fun σ H δ S w sl Q R k h => ?_⟩
  refine sim_din a2 b2 σ H δ S w sl _ _ (fun v H' d S' g r' q => ?_) h
  cases d <;> first | exact False.elim q | skip
  exact ⟨_, r', k _ H' S' g q⟩
theorem sim_dnotIn {K : PySem.W.Frag} {ta tb : TE} (a2 : SimE K ta τa) (b2 : SimE K tb τb) : SimE K (tDNotIn tb ta) (dDIn true τb τa) := fun σ H δ S w sl Q R k h => by
  refine b2 σ H δ S w sl _ _ (fun y H1 dy S1 g1 r1 q1 => ?_) h
  refine a2 σ H1 δ S1 g1.wd (sl.im (g1.im w)) _ _ (fun x H2 dx S2 g2 r2 q2 => ?_) q1
  obtain ⟨p, ky, kvs, rfl, ek, es, q3⟩ := dic_at q2
  obtain rfl := r2
  obtain rfl := key_rep r1 ek
  obtain ⟨vs, e1, rk⟩ := g2.wd.dic es
  exact ⟨p, valV vs ky.k, rfl, DGet.k e1, k _ H2 (.bl (!(valD kvs ky).isSome)) S2 (g1.trans g2) (by rw [rk.some]; rfl) q3⟩
theorem e_dnotIn (hu : X.A.units + 1 < cLine) (hi : E X i τb) (ha : E X o τa) (hm : behindInMarks .NotIn o = false := by first | exact nobehind _ (by decide) (by decide) | rfl) : E X (.Compare i [.NotIn] [o] pos) (dDIn true τb τa) := by
  obtain ⟨ta, a1, a2⟩ := ha
  obtain ⟨tb, b1, b2⟩ := hi
  exact ⟨_, pe_cmp (pc_dnotin hu b1 a1) hm, sim_dnotIn a2 b2⟩
theorem t_dnotIn (hu : X.A.units + 1 < cLine) (hi : E X i τb) (ha : E X o τa) (hm : behindInMarks .NotIn o = false := by first | exact nobehind _ (by decide) (by decide) | rfl) : T X (.Compare i [.NotIn] [o] pos) (dTB (dDIn true τb τa)) := by
  obtain ⟨ta, a1, a2⟩ := ha
  obtain ⟨tb, b1, b2⟩ := hi
  refine ⟨_, pt_cmp (pc_dnotin hu b1 a1) hm, fun σ H δ S w sl Q R k h => ?_⟩
  refine sim_dnotIn a2 b2 σ H δ S w sl _ _ (fun v H' d S' g r' q => ?_) h
  cases d <;> first | exact False.elim q | skip
  exact ⟨_, r', k _ H' S' g q⟩
/-- d[k] = v -/
def dDPut (v a i : ED) : SD := fun F δ S => v δ S fun z S1 => a δ S1 fun x S2 => i δ S2 fun y S3 => match x, toKy y with
  | .rf p, some k => (match S3 p with | some (.dic kvs) => kvs.length < sizeLine ∧ F.nx δ (su S3 p (.dic (putD kvs k z))) | _ => False)
  | _, _ => False
theorem s_dput (hu : X.A.units + 1 < cLine) (hv : E X value τc) (ha : E X o τa) (hi : E X i τb) (hs : swapsWith value (some (.Subscript o i pos')) pos.line X.env = pure false := by rfl) : S1 X (.Assign [.Subscript o i pos'] value pos) (dDPut τc τa τb) := by
  obtain ⟨ta, a1, a2⟩ := ha
  obtain ⟨tb, b1, b2⟩ := hi
  obtain ⟨tv, c1, c2⟩ := hv
  refine ⟨_, ps_dput hu a1 b1 c1 hs, fun σ H δ S w sl F G hn hr hb hc h => ?_⟩
  refine c2 σ H δ S w sl _ _ (fun z H1 dz S1 g1 r1 q1 => ?_) h
  refine a2 σ H1 δ S1 g1.wd (sl.im (g1.im w)) _ _ (fun x H2 dx S2 g2 r2 q2 => ?_) q1
  refine b2 σ H2 δ S2 g2.wd ((sl.im (g1.im w)).im (g2.im g1.wd)) _ _ (fun y H3 dy S3 g3 r3 q3 => ?_) q2
  obtain ⟨p, ky, kvs, rfl, ek, es, q4, q5⟩ := dic_at q3
  obtain rfl := r2
  obtain rfl := key_rep r3 ek
  obtain ⟨vs, e1, rk⟩ := g3.wd.dic es
  have g13 := (g1.trans g2).trans g3
  have rz := (r1.im (g2.im g1.wd)).im (g3.im g2.wd)
  have g4 : Go X.K S3 H3 (su S3 p (.dic (putD kvs ky dz))) (upd H3 p (.dK (putK vs ky.k z))) := Go.wr g3.wd es fun H' im => ⟨_, rfl, (rk.im im).put (rz.im im)⟩
  refine ⟨p, _, rfl, DPut.k e1 (by rw [← rk.len]; exact q4), hn σ _ δ _ (g13.trans g4) ((sl.im (g13.im w)).im (g4.im g13.wd)) q5⟩
/-- d.get(k) -/
def dDGet1 (a i : ED) : ED := fun δ S Q => a δ S fun x S1 => match x with
  | .rf p => (match S1 p with | some (.dic kvs) => i δ S1 fun y S2 => (match toKy y with | some k => S2 p = some (.dic kvs) ∧ Q ((valD kvs k).getD .non) S2 | none => False) | _ => False)
  | _ => False
theorem RepK.getD {K : PySem.W.Frag} {H : Hp} {ds : DV} {kvs : List (Key × V)} {k : Ky} {d : D} {v : V} (h : RepK K H ds kvs) (r : Rep K H d v) : Rep K H ((valD ds k).getD d) ((valV kvs k.k).getD v) := by
  have := h.val (k := k)
  cases e : valD ds k with
  | none => rw [e] at this; rw [show valV kvs k.k = none from this]; exact r
  | some d =>
    rw [e] at this
    obtain ⟨v, hv, rv⟩ := this
    rw [hv]; exact rv
theorem e_dget1 (hu : X.A.units + 1 < cLine) (ha : E X o τa) (hi : E X e τb) (m : M1 X o "get" apos e cpos := by exact ⟨rfl, rfl, rfl, rfl⟩) : E X (.Call (.Attribute o "get" apos) [e] [] cpos) (dDGet1 τa τb) := by
  obtain ⟨ta, a1, a2⟩ := ha
  obtain ⟨tb, b1, b2⟩ := hi
  refine ⟨_, pe_dget1 hu a1 b1 m, fun σ H δ S w sl Q R k h => ?_⟩
  refine a2 σ H δ S w sl _ _ (fun x H1 dx S1 g1 r1 q1 => ?_) h
  cases dx with
  | rf p =>
    obtain rfl := r1
    simp only at q1
    cases es : S1 p with
    | none => rw [es] at q1; exact q1.elim
    | some ob =>
      rw [es] at q1
      cases ob with
      | dic kvs =>
        obtain ⟨vs, e1, rk⟩ := g1.wd.dic es
        refine ⟨p, rfl, .inl ⟨vs, .inl e1⟩, ?_⟩
        refine b2 σ H1 δ S1 g1.wd (sl.im (g1.im w)) _ _ (fun y H2 dy S2 g2 r2 q2 => ?_) q1
        cases ek : toKy dy with
        | none => rw [ek] at q2; exact q2.elim
        | some ky =>
          rw [ek] at q2
          obtain ⟨es2, q3⟩ := q2
          obtain rfl := key_rep r2 ek
          obtain ⟨vs2, e2, rk2⟩ := g2.wd.dic es2
          exact ⟨valV vs2 ky.k, DGet.k e2, k _ H2 _ S2 (g1.trans g2) (rk2.getD (d := .non) (v := .non) rfl) q3⟩
      | lst _ => exact q1.elim
      | ins _ _ => exact q1.elim
      | exn _ => exact q1.elim
  | _ => exact q1.elim
/-- d.get(k, x) -/
def dDGet2 (a i f : ED) : ED := fun δ S Q => a δ S fun x S1 => match x with
  | .rf p => (match S1 p with | some (.dic kvs) => i δ S1 fun y S2 => f δ S2 fun z S3 => (match toKy y with | some k => S3 p = some (.dic kvs) ∧ Q ((valD kvs k).getD z) S3 | none => False) | _ => False)
  | _ => False
theorem e_dget2 (hu : X.A.units + 1 < cLine) (ha : E X o τa) (hi : E X e τb) (hf : E X f τc) (m : M2 X o "get" apos e f cpos := by exact ⟨rfl, rfl, rfl, rfl⟩) : E X (.Call (.Attribute o "get" apos) [e, f] [] cpos) (dDGet2 τa τb τc) := by
  obtain ⟨ta, a1, a2⟩ := ha
  obtain ⟨tb, b1, b2⟩ := hi
  obtain ⟨tc, c1, c2⟩ := hf
  refine ⟨_, pe_dget2 hu a1 b1 c1 m, fun σ H δ S w sl Q R k h => ?_⟩
  refine a2 σ H δ S w sl _ _ (fun x H1 dx S1 g1 r1 q1 => ?_) h
  cases dx with
  | rf p =>
    obtain rfl := r1
    simp only at q1
    cases es : S1 p with
    | none => rw [es] at q1; exact q1.elim
    | some ob =>
      rw [es] at q1
      cases ob with
      | dic kvs =>
        obtain ⟨vs, e1, rk⟩ := g1.wd.dic es
        refine ⟨p, rfl, .inl ⟨vs, .inl e1⟩, ?_⟩
        refine b2 σ H1 δ S1 g1.wd (sl.im (g1.im w)) _ _ (fun y H2 dy S2 g2 r2 q2 => ?_) q1
        refine c2 σ H2 δ S2 g2.wd ((sl.im (g1.im w)).im (g2.im g1.wd)) _ _ (fun z H3 dz S3 g3 r3 q3 => ?_) q2
        cases ek : toKy dy with
        | none => rw [ek] at q3; exact q3.elim
        | some ky =>
          rw [ek] at q3
          obtain ⟨es2, q4⟩ := q3
          obtain rfl := key_rep r2 ek
          obtain ⟨vs2, e2, rk2⟩ := g3.wd.dic es2
          exact ⟨valV vs2 ky.k, DGet.k e2, k _ H3 _ S3 ((g1.trans g2).trans g3) (rk2.getD r3) q4⟩
      | lst _ => exact q1.elim
      | ins _ _ => exact q1.elim
      | exn _ => exact q1.elim
  | _ => exact q1.elim
/-- {} -/
def dDNew : ED := fun _ S Q => ∀ p, S p = none → Q (.rf p) (su S p (.dic []))
theorem e_dnew : E X (.Dict [] [] pos) dDNew :=
  ⟨_, pe_dnewK, fun σ H δ S w sl Q R k h p hp => k _ _ (.rf p) _ (Go.newS (o := .dic []) w hp ⟨[], rfl, rfl⟩) rfl (h p (w.free hp))⟩
/-! displays -/
def dPairs : List (ED × ED) → Sl → Sh → (List (D × D) → Sh → Prop) → Prop
  | [], _, S, Q => Q [] S
  | (a, b) :: r, δ, S, Q => a δ S fun x S1 => b δ S1 fun y S2 => dPairs r δ S2 fun ps S3 => Q ((x, y) :: ps) S3
def RepsP (K : PySem.W.Frag) (H : Hp) : List (D × D) → List (V × V) → Prop
  | [], vs => vs = []
  | (a, b) :: ds, vs => ∃ x y r, vs = (x, y) :: r ∧ Rep K H a x ∧ Rep K H b y ∧ RepsP K H ds r
theorem RepsP.im {K : PySem.W.Frag} {H H' : Hp} (m : Im K H H') : ∀ {ds : List (D × D)} {vs : List (V × V)}, RepsP K H ds vs → RepsP K H' ds vs
  | [], _, h => h
  | (_, _) :: _, _, h =>
    let ⟨x, y, r, e, h1, h2, h3⟩ := h
    ⟨x, y, r, e, h1.im m, h2.im m, RepsP.im m h3⟩
def Ps (X : Cx) (pos : Pos) (ks : List (Option Expr)) (vs : List Expr) (τ : List (ED × ED)) : Prop := ∃ trs, PPs X pos ks vs trs ∧
  ∀ σ H δ S, Wd X.K H S → SlOk X.K H σ δ → ∀ (Q : List (D × D) → Sh → Prop) (R : List (V × V) → Hp → Prop), (∀ vs H' ds S', Go X.K S H S' H' → RepsP X.K H' ds vs → Q ds S' → R vs H') → dPairs τ δ S Q → tPairs trs σ H R
theorem ps_nil : Ps X pos [] [] [] := ⟨[], pps_nil, fun σ H δ S w sl Q R k h => k [] H [] S (Go.refl w) rfl h⟩
theorem ps_cons {k v : Expr} {ks : List (Option Expr)} {vs : List Expr} {τs : List (ED × ED)} (hk : E X k τa) (hv : E X v τb) (hr : Ps X pos ks vs τs) : Ps X pos (some k :: ks) (v :: vs) ((τa, τb) :: τs) := by
  obtain ⟨ta, a1, a2⟩ := hk
  obtain ⟨tb, b1, b2⟩ := hv
  obtain ⟨tr, c1, c2⟩ := hr
  refine ⟨_, pps_cons a1 b1 c1, fun σ H δ S w sl Q R k h => ?_⟩
  refine a2 σ H δ S w sl _ _ (fun x H1 dx S1 g1 r1 q1 => ?_) h
  refine b2 σ H1 δ S1 g1.wd (sl.im (g1.im w)) _ _ (fun y H2 dy S2 g2 r2 q2 => ?_) q1
  refine c2 σ H2 δ S2 g2.wd ((sl.im (g1.im w)).im (g2.im g1.wd)) _ _ (fun ps H3 ds S3 g3 r3 q3 => ?_) q2
  exact k _ H3 ((dx, dy) :: ds) S3 ((g1.trans g2).trans g3) ⟨x, y, ps, rfl, (r1.im (g2.im g1.wd)).im (g3.im g2.wd), r2.im (g3.im g2.wd), r3⟩ q3
def kvsOf : List (D × D) → Option DV
  | [] => some []
  | (a, b) :: r => match toKy a, kvsOf r with | some k, some ks => some ((k, b) :: ks) | _, _ => none
theorem kvs_rep {K : PySem.W.Frag} {H : Hp} : ∀ {ds : List (D × D)} {vs : List (V × V)} {ks : DV}, RepsP K H ds vs → kvsOf ds = some ks → ∃ kvs : List (Key × V), vs = kvs.map (fun kv => (kV kv.1, kv.2)) ∧ kvs.length = ks.length ∧ RepK K H ks kvs
  | [], _, ks, h, e => by
    cases e
    rw [show _ = ([] : List (V × V)) from h]
    exact ⟨[], rfl, rfl, rfl⟩
  | (a, b) :: ds, _, ks, h, e => by
    obtain ⟨x, y, r, rfl, h1, h2, h3⟩ := h
    unfold kvsOf at e
    cases ek : toKy a with
    | none => rw [ek] at e; cases e
    | some k =>
      rw [ek] at e
      cases er : kvsOf ds with
      | none => rw [er] at e; cases e
      | some ks' =>
        rw [er] at e
        cases e
        obtain ⟨kvs, rfl, hl, hr⟩ := kvs_rep h3 er
        refine ⟨(k.k, y) :: kvs, ?_, by rw [List.length_cons, List.length_cons, hl], y, kvs, rfl, h2, hr⟩
        rw [List.map_cons, key_rep h1 ek]
def dDisp (ps : List (ED × ED)) : ED := fun δ S Q => dPairs ps δ S fun kvs S1 => match kvsOf kvs with
  | some ks => ks.length ≤ 15 ∧ ∀ p, S1 p = none → Q (.rf p) (su S1 p (.dic (mergeD [] ks)))
  | none => False
theorem Go.ownw {K : PySem.W.Frag} {S S1 : Sh} {H H1 : Hp} (g : Go K S H S1 H1) {p : Addr} {u u' : HO} {o : MO} (h0 : H p = none) (h : H1 p = some u) (hn : (∀ xs, u ≠ .tup xs) ∧ (∀ a b, u ≠ .frz a b) ∧ ∀ f, u ≠ .ext f) (hs : S1 p = none) (r : ∀ H', Im K H1 H' → RepO K H' o u') : Go K S H (su S1 p o) (upd H1 p u') := by
  have im : Im K H1 (upd H1 p u') := ⟨fun a ys q => by
    rcases q with (q | ⟨ob, q⟩) | q
    · exact .inl (.inl (by rw [upd_ne (fun z => by rw [z, h] at q; exact hn.1 ys (Option.some.inj q))]; exact q))
    · exact .inl (.inr ⟨ob, by rw [upd_ne (fun z => by rw [z, h] at q; exact hn.2.1 _ _ (Option.some.inj q))]; exact q⟩)
    · exact .inr q, fun a ys q => by
    rcases q with ⟨ob, q⟩ | q
    · exact .inl ⟨ob, by rw [upd_ne (fun z => by rw [z, h] at q; exact hn.2.1 _ _ (Option.some.inj q))]; exact q⟩
    · exact .inr q, fun a _ _ _ q => by rw [upd_ne (fun z => by rw [z, h] at q; exact hn.2.2 _ (Option.some.inj q))]; exact q⟩
  refine ⟨fun a x h1 h2 => ?_, fun a x h1 h2 => ?_, fun q x hq => ?_, fun a h1 => g.th a (upd_none h1)⟩
  · rw [upd_ne (ne_of_none h1 h0)]; exact g.ext a x h1 h2
  · rw [su_ne (ne_of_none h1 h0)]; exact g.out a x h1 h2
  · by_cases e : q = p
    · subst e
      rw [su_same] at hq; cases hq
      exact ⟨u', upd_same, r _ im⟩
    · rw [su_ne e] at hq
      obtain ⟨ho, e1, r1⟩ := g.wd q x hq
      exact ⟨ho, by rw [upd_ne e]; exact e1, r1.im im⟩
theorem e_disp {ks : List (Option Expr)} {vs : List Expr} {τs : List (ED × ED)} (h : Ps X pos ks vs τs) (hall : ks.all (·.isSome) = true := by rfl) (hl : ks.length = vs.length := by rfl) (h0 : ks ≠ [] := by exact fun z => by cases z)
    (h15 : ks.length ≤ 15 := by decide) : E X (.Dict ks vs pos) (dDisp τs) := by
  obtain ⟨trs, a1, a2⟩ := h
  refine ⟨_, pe_disp a1 hall hl h0 h15, fun σ H δ S w sl Q R k h p hp => ?_⟩
  have g0 := Go.new (u := .dK []) w hp
  refine a2 σ _ δ S g0.wd (sl.im (g0.im w)) _ _ (fun ws H2 ds S2 g2 r2 q2 => ?_) h
  cases e : kvsOf ds with
  | none => rw [e] at q2; exact q2.elim
  | some kk =>
    rw [e] at q2
    obtain ⟨kvs, ev, el, rk⟩ := kvs_rep r2 e
    have hp2 : H2 p = some (.dK []) := g2.ext p _ upd_same (w.free hp)
    have hs2 : S2 p = none := g2.out p _ upd_same (w.free hp)
    refine ⟨hp2, kvs, ev, by rw [el]; exact q2.1, ?_⟩
    have g := Go.ownw (g0.trans g2) (o := .dic (mergeD [] kk)) (u' := .dK (mergeK [] kvs)) hp hp2 ⟨(fun _ z => by cases z), (fun _ _ z => by cases z), (fun _ z => by cases z)⟩ hs2 fun H' im => ⟨_, rfl, RepK.merge (rk.im im) rfl⟩
    exact k _ _ (.rf p) _ g rfl (q2.2 p hs2)
end
end DL

set_option Elab.async false
set_option linter.all false
set_option maxRecDepth 100000
set_option maxHeartbeats 2000000
namespace L2
open PySem PySem.Spec PyProof.Rows
section
variable {X : Cx}
/-- x in t, t a tuple of data -/
def rInTd (K : PySem.W.Frag) (neg : Bool) : R2 := fun x y H Q => ∃ d ds, Dp K H x d ∧ Dp K H y (.tuple ds) ∧ SeqAt.shaped d = true ∧ d.depth ≤ 32 ∧ SeqAt.shaped (.list ds) = true ∧ Q (.bl (if neg then !ds.any fun z => PyData.eqv z d else ds.any fun z => PyData.eqv z d)) H
theorem op_inTd (hu : X.A.units + 64 < cLine) : OpR X (compareOp .In) (rInTd X.K false) := fun pins s σ H x y v u Q I rx ry ⟨d, ds, hd, he, sd, dd, se, q⟩ => by
  obtain ⟨as, r1⟩ := Dp.reads I d x v hd rx
  obtain ⟨bs, r2⟩ := Dp.reads I (.tuple ds) y u he ry
  exact SeqAt.in_tuple_reads r2 r1 (SeqAt.canLay_of_shaped se) (SeqAt.canLay_of_shaped sd) (by have := Nat.min_le_right (PyData.depthAll ds) d.depth; omega) ⟨.bl _, H, I, rfl, q⟩
theorem op_notInTd (hu : X.A.units + 64 < cLine) : OpR X (compareOp .NotIn) (rInTd X.K true) := fun pins s σ H x y v u Q I rx ry ⟨d, ds, hd, he, sd, dd, se, q⟩ => by
  obtain ⟨as, r1⟩ := Dp.reads I d x v hd rx
  obtain ⟨bs, r2⟩ := Dp.reads I (.tuple ds) y u he ry
  exact SeqAt.notIn_tuple_reads r2 r1 (SeqAt.canLay_of_shaped se) (SeqAt.canLay_of_shaped sd) (by have := Nat.min_le_right (PyData.depthAll ds) d.depth; omega) ⟨.bl _, H, I, rfl, q⟩
/-- x.replace(y, z), y nowhere in x -/
theorem mt_repl0 : MtR X "str.replace" (fun x xs H Q => ∃ a y z : Str, x = .str a ∧ xs = [.str y, .str z] ∧ (Builtin.Str.occurrences a y 0 a.length (a.length + 1)).isEmpty = true ∧ Q (.str a) H) := by
  intro pins s σ H x xs v us Q I rx rs ⟨a, y, z, e1, e2, h0, q⟩
  subst e1; subst e2
  obtain ⟨t, rfl⟩ := rx
  rcases rs with _ | ⟨r1, rs⟩
  rcases rs with _ | ⟨r2, rs⟩
  cases rs
  obtain ⟨t1, rfl⟩ := r1
  obtain ⟨t2, rfl⟩ := r2
  have none' : ((Builtin.Str.occurrences a y 0 a.length (a.length + 1)).isEmpty || (y.length == 0 && z.length == 0)) = true := by rw [h0]; rfl
  have g := PySem.gives_str_replace a y z t t1 t2 fun c => by rw [none'] at c; cases c
  rw [if_pos none'] at g
  exact call_gives F.slot_str_replace (typeIs_str _ _ _) F.entry_str_replace (F.args_str_replace_3 _ _ _) g ⟨.str a, H, I, ⟨t, rfl⟩, q⟩
end
end L2
namespace DTr
open PySem PySem.Spec L2 Builtin Builtin.Str
/-- what a dict tells that lets the percent sign fall -/
def Falls (f : Key → Option Value) : Prop := ∀ c : Nat, f (.inl (c : Int)) = if c = 37 then some .none else none
abbrev left (c : Nat) : Bool := !decide (c = 37)
section
variable {prog : Program} {w : World} {A : Around} {E : Value → Shared → Prop} {s : Shared} {d : Addr} {c : Nat}
theorem look {f : Key → Option Value} {Q : Mapped → Shared → Prop} (quiet : A.handled = none) (own : (d == sysModules) = false) (m : s.heap.MapOf (mixKind prog w) d f) (fa : Falls f)
    (yes : c = 37 → ∀ h' k, (∀ b o, s.heap.get? b = some o → h'.get? b = some o) → Q .drop { s with heap := h', toks := k })
    (no : c ≠ 37 → ∀ h' k, (∀ b o, s.heap.get? b = some o → h'.get? b = some o) → Q .keep { s with heap := h', toks := k }) : wpAny (model prog w) A (tableLookup (.ref d) c) Q E s := by
  unfold tableLookup
  apply wpAny_bind
  apply wpAny_attempt
  apply wpAny_bind
  apply wpAny_mkInt
  by_cases e : c = 37
  · have v := fa c
    rw [if_pos e] at v
    exact wpAny_getItem_of (knd := mixKind prog w) (k := .inl (c : Int)) (mixKind_int prog w _ _) m v (wpAny_pure (yes e s.heap _ fun _ _ z => z))
  · have v := fa c
    rw [if_neg e] at v
    refine wpAny_getItem_missing_of (knd := mixKind prog w) (k := .inl (c : Int)) (mixKind_int prog w _ _) own quiet m v fun h2 ex new => ?_
    show wpAny _ _ (isInstance (.ref ex) (.type "LookupError") >>= _) _ _ _
    obtain ⟨ob, _, at', cl, _⟩ := new.there
    apply wpAny_bind
    refine wpAny_isInstance (T := "KeyError") (b := true) ⟨ob, at', cl⟩ key_is_lookup ?_
    show wpAny _ _ (if true = true then (do rule "str.translate.not-in-table"; pure Mapped.keep) else _) _ _ _
    rw [if_pos rfl]
    exact wpAny_bind (wpAny_rule (wpAny_pure (no e h2 _ new.keeps)))
theorem map_keeps {h h' : Heap} {f : Key → Option Value} (m : h.MapOf (mixKind prog w) d f) (k : ∀ b o, h.get? b = some o → h'.get? b = some o) : h'.MapOf (mixKind prog w) d f :=
  let ⟨o, es, ep, ho, r⟩ := m
  ⟨o, es, ep, k _ _ ho, r⟩
end
/-- what was told of signs so far -/
def Told (known : List (Nat × Option Nat)) : Prop := ∀ c a, known.lookup c = some a → a = if c = 37 then none else some c
theorem Told.more {known : List (Nat × Option Nat)} (h : Told known) {c : Nat} {b : Option Nat} (hb : b = if c = 37 then none else some c) : Told ((c, b) :: known) := fun c' a z => by
  rcases PySem.lookup_new z with ⟨e1, e2⟩ | z
  · rw [e2, e1]; exact hb
  · exact h c' a z
abbrev Acc := List Str × Nat × Bool × List (Nat × Option Nat) × Bool
/-- while the signs are walked -/
structure Goes (x : List Nat) (s : Shared) (rest : List Nat) (st : Acc) (s' : Shared) : Prop where
  has : ∃ (done : List Nat) (known : List (Nat × Option Nat)) (h' : Heap) (k : Nat), x = done ++ rest ∧ st = (((done.filter left).map fun c => (⟨#[c]⟩ : Str)).reverse, (done.filter left).length, true, known, false) ∧ Told known ∧ s' = { s with heap := h', toks := k } ∧ ∀ b o, s.heap.get? b = some o → h'.get? b = some o
theorem Goes.on {x done rest : List Nat} {c : Nat} {s : Shared} {known : List (Nat × Option Nat)} {h' : Heap} {k : Nat} {st : Acc} (e : x = done ++ c :: rest) (t : Told known) (kp : ∀ b o, s.heap.get? b = some o → h'.get? b = some o)
    (es : st = ((((done ++ [c]).filter left).map fun c => (⟨#[c]⟩ : Str)).reverse, ((done ++ [c]).filter left).length, true, known, false)) : Goes x s rest st { s with heap := h', toks := k } :=
  ⟨done ++ [c], known, h', k, by rw [e, List.append_assoc]; rfl, es, t, rfl, kp⟩
theorem fl_no {done : List Nat} {c : Nat} (h : c ≠ 37) : (done ++ [c]).filter left = done.filter left ++ [c] := by
  rw [List.filter_append, List.filter_cons, if_pos (by simp [left, h])]; rfl
theorem fl_yes {done : List Nat} {c : Nat} (h : c = 37) : (done ++ [c]).filter left = done.filter left := by
  rw [List.filter_append, List.filter_cons, if_neg (by simp [left, h]), List.filter_nil, List.append_nil]
theorem cat_signs : ∀ (l : List Nat) (acc : Array Nat), (l.map fun c => (⟨#[c]⟩ : Str)).foldl (fun acc (p : Str) => acc ++ p.cps) acc = acc ++ l.toArray
  | [], acc => by simp
  | c :: l, acc => by
    rw [List.map_cons, List.foldl_cons, cat_signs l]
    apply Array.toList_inj.mp
    simp
theorem meets_falls {prog : Program} {w : World} (x : List Nat) (t : Tok) (d : Addr) (own : (d == sysModules) = false) (short : x.length ≤ 16000000) (asc : x.all (· < 128) = true) :
    MeetsIn prog w («str.translate» ⟨[.str (SX.S x) t, .ref d], []⟩) (fun A R s => A.handled = none ∧ (∃ f, s.heap.MapOf (mixKind prog w) d f ∧ Falls f) ∧
      ∀ (v : Value) (h' : Heap) (k : Nat), (∀ b o, s.heap.get? b = some o → h'.get? b = some o) → (∃ t', v = .str (SX.S (x.filter left)) t') → R (.ok (.ret v)) { s with heap := h', toks := k }) := by
  refine .of_wp fun A R s ⟨quiet, ⟨f, m, fa⟩, fin⟩ => ?_
  have quiet1 : A.in1.handled = none := quiet
  have asc' : ((SX.S x).cps.all fun y => decide (y < 128)) = true := by
    show (x.toArray.all fun y => decide (y < 128)) = true
    rw [← Array.all_toList]; exact asc
  show wpAny _ _ (if ((SX.S x).length == 0) = true then _ else _) _ _ s
  by_cases z : ((SX.S x).length == 0) = true
  · rw [if_pos z]
    have hx : x = [] := List.eq_nil_of_length_eq_zero (by rw [beq_iff_eq, SX.S_len] at z; exact z)
    subst hx
    exact wpAny_bind (wpAny_rule (wpAny_pure ⟨_, rfl, fin _ s.heap s.toks (fun _ _ e => e) ⟨t, rfl⟩⟩))
  rw [if_neg z]
  show wpAny _ _ (forIn (SX.S x).cps ((([] : List Str), 0, ((SX.S x).cps.all fun y => decide (y < 128)), ([] : List (Nat × Option Nat)), false) : Acc) _ >>= _) _ _ s
  rw [asc']
  refine wpAny_bind (MeetsSeq2.wpAny_forIn_array _ (Goes x s) _ (fun c rest st s' hI => ?turn) (fun st s' hI => ?fin) (SX.S x).cps ([], 0, true, [], false) ?begin)
  case begin => exact ⟨[], [], s.heap, s.toks, by show x = [] ++ x.toArray.toList; simp, rfl, (fun c a q => by rw [List.lookup_nil] at q; cases q), rfl, fun _ _ e => e⟩
  case turn =>
    obtain ⟨done, known, h', k, e1, rfl, e3, rfl, e5⟩ := hI
    have few : (done.filter left).length ≤ 16000000 := Nat.le_trans (List.length_filter_le _ _) (by
      have := congrArg List.length e1
      rw [List.length_append] at this
      omega)
    have m' : ({ s with heap := h', toks := k } : Shared).heap.MapOf (mixKind prog w) d f := map_keeps m e5
    show wpAny _ _ (if tooLong (done.filter left).length = true then _ else (if true = true then _ else _)) _ _ _
    rw [show tooLong (done.filter left).length = false from PyProof.Rows.short24 (by omega), if_neg Bool.false_ne_true, if_pos rfl]
    cases hl : known.lookup c with
    | some a =>
      have ha := e3 c a hl
      by_cases e : c = 37
      · rw [if_pos e] at ha
        subst ha
        exact wpAny_bind (wpAny_pure (wpAny_pure (Goes.on e1 e3 e5 (by rw [fl_yes e]))))
      · rw [if_neg e] at ha
        subst ha
        exact wpAny_bind (wpAny_pure (wpAny_pure (Goes.on e1 e3 e5 (by rw [fl_no e, List.map_append, List.reverse_append, List.length_append]; rfl))))
    | none =>
      refine wpAny_bind (look quiet1 own m' fa (fun e h2 k2 k3 => ?_) fun e h2 k2 k3 => ?_)
      · exact wpAny_bind (wpAny_pure (wpAny_pure (Goes.on (known := (c, none) :: known) e1 (e3.more (by rw [if_pos e])) (fun b o q => k3 b o (e5 b o q)) (by rw [fl_yes e]))))
      · exact wpAny_bind (wpAny_pure (wpAny_pure (Goes.on (known := (c, some c) :: known) e1 (e3.more (by rw [if_neg e])) (fun b o q => k3 b o (e5 b o q)) (by rw [fl_no e, List.map_append, List.reverse_append, List.length_append]; rfl))))
  case fin =>
    obtain ⟨done, known, h', k, e1, rfl, e3, rfl, e5⟩ := hI
    have ex : x = done := by rw [e1, List.append_nil]
    have few : (done.filter left).length ≤ 16000000 := Nat.le_trans (List.length_filter_le _ _) (by rw [← ex]; exact short)
    show wpAny _ _ (if tooLong (done.filter left).length = true then _ else retStr { cps := (List.reverse (List.reverse ((done.filter left).map fun c => (⟨#[c]⟩ : Str)))).foldl (fun acc (p : Str) => acc ++ p.cps) #[] }) _ _ _
    rw [show tooLong (done.filter left).length = false from PyProof.Rows.short24 (by omega), if_neg Bool.false_ne_true, List.reverse_reverse, cat_signs, Array.empty_append, ← ex]
    exact wpAny_bind (wpAny_mkStr (wpAny_pure ⟨_, rfl, fin _ h' _ e5 ⟨_, rfl⟩⟩) (by
      show (SX.S (x.filter left)).length ≤ sizeLine
      rw [SX.S_len, sizeLine_eq]
      have := List.length_filter_le left x
      omega))
end DTr
namespace L2
open PySem PySem.Spec PyProof.Rows
/-- x.translate({37: None}) -/
theorem mt_falls {X : Cx} (hc : X.calm = true) : MtR X "str.translate" (fun x xs H Q => ∃ (t : List Nat) (d : Addr), x = .str (SX.S t) ∧ xs = [.ref d] ∧ H d = some (.dK [(.inl 37, .non)]) ∧ t.length ≤ 16000000 ∧ t.all (· < 128) = true ∧ Q (.str (SX.S (t.filter DTr.left))) H) := by
  intro pins s σ H x xs v us Q I rx rs ⟨a, d, e1, e2, hd, h3, h4, q⟩
  subst e1; subst e2
  obtain ⟨t, rfl⟩ := rx
  rcases rs with _ | ⟨r1, rs⟩
  cases rs
  cases r1
  obtain ⟨_, own, vs, rel, dd⟩ := dk_of I.hok hd
  refine call_meetsIn F.slot_str_translate (typeIs_str _ _ _) F.entry_str_translate (F.args_str_translate_2 _ _) (DTr.meets_falls a t d own h3 h4) ⟨I.ok.hd hc, ⟨_, dd.mapOf, fun c => ?_⟩, fun v h' k hk ⟨t', e⟩ => ?_⟩
  · have rv := rel.val (.inl (c : Int))
    by_cases e : c = 37
    · subst e
      rw [if_pos rfl]
      have : valV [((Sum.inl 37 : Key), V.non)] (.inl ((37 : Nat) : Int)) = some .non := rfl
      rw [this] at rv
      obtain ⟨w', hw, rw'⟩ := RelO.some_of rv
      rw [hw]
      cases rw'
      rfl
    · rw [if_neg e]
      have : valV [((Sum.inl 37 : Key), V.non)] (.inl (c : Int)) = none := valV_neg (fun z => e (by injection z with z; omega))
      rw [this] at rv
      cases rv' : valueAt vs (.inl (c : Int)) with
      | none => rfl
      | some _ => rw [rv'] at rv; cases rv
  · subst e
    exact ⟨.str _, H, I.kept (t' := k) hk, ⟨t', rfl⟩, q⟩
end L2
namespace DL
open PySem PySem.Spec L2 PyProof.Rows
section
variable {X : Cx}
def toPyX (S : Sh) : D → Option PyData
  | .rf p => (match S p with | some (.lst es) => (toPys es).map .list | _ => none)
  | x => toPy x
theorem toPyX_dp {K : PySem.W.Frag} {H : Hp} {S : Sh} (w : Wd K H S) {d : D} {v : V} {x : PyData} (r : Rep K H d v) (h : toPyX S d = some x) : Dp K H v x := by
  cases d with
  | rf p =>
    obtain rfl := r
    unfold toPyX at h
    simp only at h
    split at h
    · rename_i es ed
      obtain ⟨ho, e0, vs, rfl, rs⟩ := w _ _ ed
      cases e : toPys es with
      | none => rw [e] at h; cases h
      | some xs =>
        rw [e] at h
        cases h
        exact .lst (SqL.of e0) (toPys_dp rs e)
    · cases h
  | _ => exact toPy_dp r h
/-- x in t: t a tuple of data, x any data, also a list -/
def dInX (neg : Bool) : R2D := fun x y S Q => match y with
  | .tup es => (match toPyX S x, toPys es with
    | some d, some ds => SeqAt.shaped d = true ∧ d.depth ≤ 32 ∧ SeqAt.shaped (.list ds) = true ∧ Q (.bl (if neg then !ds.any fun z => PyData.eqv z d else ds.any fun z => PyData.eqv z d)) S
    | _, _ => False)
  | _ => False
theorem o_inXs {op : CmpOp} {neg : Bool} (h : OpR X (compareOp op) (rInTd X.K neg)) : O X (compareOp op) (dInX neg) := by
  refine ⟨_, h, fun H S x y dx dy w rx ry Q R k q => ?_⟩
  unfold dInX at q
  cases dy with
  | tup es =>
    obtain ⟨a, vs, rfl, hq, rs⟩ := ry
    simp only at q
    split at q
    · rename_i d ds e1 e2
      exact ⟨d, ds, toPyX_dp w rx e1, .tup hq (toPys_dp rs e2), q.1, q.2.1, q.2.2.1, k _ H (.bl _) S (Go.refl w) rfl q.2.2.2⟩
    · exact q.elim
  | _ => exact False.elim q
theorem o_inX (hu : X.A.units + 64 < cLine) : O X (compareOp .In) (dInX false) := o_inXs (op_inTd hu)
theorem o_notInX (hu : X.A.units + 64 < cLine) : O X (compareOp .NotIn) (dInX true) := o_inXs (op_notInTd hu)
/-- s.replace(c, z), the sign c nowhere in s -/
def dRepl0 : MD := fun x ds S Q => match x, ds with
  | .str s, [.str [c], .str z] => c ∉ s ∧ Q (.str s) S
  | _, _ => False
theorem occ_no {s : List Nat} {c : Nat} (h : c ∉ s) : (Builtin.Str.occurrences (tx s) (tx [c]) 0 (tx s).length ((tx s).length + 1)).isEmpty = true := by
  obtain ⟨f, ch⟩ := StrLaws.occ_chain (tx s) (tx [c]) ((tx s).length + 1)
  cases e : Builtin.Str.occurrences (tx s) (tx [c]) 0 (tx s).length ((tx s).length + 1) with
  | nil => rfl
  | cons i r =>
    rw [e] at ch
    have at' := (StrLaws.subAt_one (tx s) c i).mp ch.2.1
    have : c ∈ s := by
      have := List.mem_of_getElem? at'
      simpa [tx] using this
    exact absurd this h
theorem m_repl0 : M X "str.replace" dRepl0 := by
  refine ⟨_, mt_repl0, fun H S x dx vs ds w rx rs Q R k q => ?_⟩
  unfold dRepl0 at q
  split at q
  · rename_i s c z
    obtain rfl := rx
    obtain ⟨v1, r1, rfl, h1, v2, r2, rfl, h2, rfl⟩ := rs
    obtain rfl := h1
    obtain rfl := h2
    exact ⟨tx s, tx [c], tx z, rfl, rfl, occ_no q.1, k _ H (.str s) S (Go.refl w) rfl q.2⟩
  · exact q.elim
/-- s.translate({37: None}) -/
def dFalls : MD := fun x ds S Q => match x, ds with
  | .str s, [.rf p] => S p = some (.dic [(.i 37, .non)]) ∧ s.length ≤ 16000000 ∧ s.all (· < 128) = true ∧ Q (.str (s.filter fun c => !decide (c = 37))) S
  | _, _ => False
theorem m_falls (hc : X.calm = true := by rfl) : M X "str.translate" dFalls := by
  refine ⟨_, mt_falls hc, fun H S x dx vs ds w rx rs Q R k q => ?_⟩
  unfold dFalls at q
  split at q
  · rename_i s p
    obtain rfl := rx
    obtain ⟨v1, r1, rfl, h1, rfl⟩ := rs
    obtain rfl := h1
    obtain ⟨vs, e1, v, r, rfl, h2, rfl⟩ := w.dic q.1
    obtain rfl := h2
    exact ⟨s, p, rfl, rfl, e1, q.2.1, q.2.2.1, k _ H (.str (s.filter DTr.left)) S (Go.refl w) rfl q.2.2.2⟩
  · exact q.elim
end
theorem hu1 {k : Nat} {A : Around} (hr : Room k A) : A.units + 1 < cLine := by
  have := hu hr
  omega
end DL

set_option Elab.async false
set_option linter.all false
set_option maxRecDepth 100000
namespace DL
open PySem PySem.Spec L2 PyProof.Rows
/-! ### the law's first statement: behind it a token is out -/
structure PE0 (X : Cx) (e : Expr) (t : TE) : Prop where
  run : ∀ {p : Pins} {s : Shared} {σ : L2.St} {H : Hp} {Q : VK}, Inv X p σ H s → t σ H Q → wpAny (model X.prog X.w) X.A (eval e X.env) (fun v s' => 1 ≤ s'.toks ∧ EP X p σ Q v s') X.xe s
structure PA0 (X : Cx) (es : List Expr) (t : TA) : Prop where
  run : ∀ (pos : Pos) {p : Pins} {s : Shared} {σ : L2.St} {H : Hp} {Q : List V → Hp → Prop}, Inv X p σ H s → t σ H Q → wpAny (model X.prog X.w) X.A (spliced (backTo pos (starEach es X.env))) (fun us s' => 1 ≤ s'.toks ∧ AP X p σ Q us s') X.xe s
structure PS0 (X : Cx) (st : Stmt) (t : TS) : Prop where
  run : ∀ {p : Pins} {s : Shared} {σ : L2.St} {H : Hp} {D : Ends}, Inv X p σ H s → t D σ H → wpAny (model X.prog X.w) X.A (exec st X.env) (fun f s' => 1 ≤ s'.toks ∧ SP X p D f s') X.xe s
section
variable {X : Cx} {a b c e : Expr} {es : List Expr} {st : Stmt} {sts : List Stmt} {te : TE} {al : TA} {t u : TS} {g : TG} {pos q cpos : Pos} {x : Str}
theorem pe0_int {k : Int} {j} : PE0 X (.Constant (.int k) j pos) (tC (.int k)) := ⟨fun {p s σ H Q} I h => wpAny_Constant_int ⟨by show 1 ≤ s.toks + 1; omega, .int k, H, I.tok _, ⟨_, rfl⟩, h⟩⟩
theorem pa0_hd (ha : PE0 X e te) (hr : PA X es al) (hs : starEach (e :: es) X.env = (false, eval e X.env) :: starEach es X.env := by rfl) : PA0 X (e :: es) (tCons te al) :=
  ⟨fun ps {p s σ H Q} I h => by
    rw [hs]
    exact Calls.spliced_cons (rest := backTo ps (starEach es X.env)) (thn (ha.run I h) fun u s1 ⟨k1, x, H1, I1, r1, z⟩ => tn k1 (hr.run ps k1 I1 z) fun us s2 k2 ⟨xs, H2, I2, r2, z2⟩ => ⟨k2, x :: xs, H2, I2, .cons r1 r2, z2⟩)⟩
theorem pa0_tl (ha : L2.PE X e te) (hr : PA0 X es al) (hs : starEach (e :: es) X.env = (false, eval e X.env) :: starEach es X.env := by rfl) : PA0 X (e :: es) (tCons te al) :=
  ⟨fun ps {p s σ H Q} I h => by
    rw [hs]
    exact Calls.spliced_cons (rest := backTo ps (starEach es X.env)) (thn (ha.run p s σ H _ I h) fun u s1 ⟨x, H1, I1, r1, z⟩ => thn (hr.run ps I1 z) fun us s2 ⟨k2, xs, H2, I2, r2, z2⟩ => ⟨k2, x :: xs, H2, I2, .cons r1 r2, z2⟩)⟩
theorem pe0_call {CX : CXT} {k : Nat} {f : Addr} {fd : FuncData} {ps : List Str} {sp : Sp} {dvs : List V} {ds : List Value} {E : XK} (F : FnOk X.prog X.w X.K X.mg X.base CX k f fd ps sp) (hr : Room k X.A) (hg : Gl X x) (hm : X.mg x = some (.ref f)) (hk : PySem.W.keepIn X.K (.ref f) = true) (hb : Binds X.K fd ps ds) (hd : Vals dvs ds) (hx : Passes CX X E) (ha : PA0 X (e :: es) al)
    (hdb : (x == ("__debug__" : Str)) = false := by decide) (he : starEach (e :: es) X.env = (false, eval e X.env) :: starEach es X.env := by rfl) (hpl : (backTo pos (starEach es X.env)).any (·.1) = false := by rfl) : PE0 X (.Call (.Name x q) (e :: es) [] pos) (tCall sp dvs E al) :=
  ⟨fun {p s σ H Q} I h => wpAny_Call_Name_kw (ld_glob I hg hm (PySem.W.callWith_K (h₀ := X.base) I.ok.mod.kin hk (thn (ha.run pos I h) fun _ _ ⟨k1, _, _, I1, r, z⟩ => ⟨I1.kIn, tn k1 (run_fn F hr hb hd hx k1 I1 r z) fun _ _ k2 w => ⟨k2, w⟩⟩) he hpl) hdb)⟩
theorem pe0_lst (h : PA0 X es al) : PE0 X (.List es pos) (tLst al) :=
  ⟨fun {p s σ H Q} I hq => wpAny_List_spliced (thn (h.run pos I hq) fun us s1 ⟨k1, xs, H1, I1, r, z, q⟩ => ⟨by rw [← r.length]; exact z, k1, .ref s1.heap.objs.size, _,
    I1.laid (o := .lst xs) (t' := s1.toks) (fun b u e => Heap.get?_push_of_some _ e) (Nat.le_refl _) ⟨z, us, 0, r, Heap.get?_push_size _ rfl⟩, rfl, q _ (I1.hok.fresh (Nat.le_refl _))⟩)⟩
theorem ps0_asg {tg : Expr} (he : PE0 X e te) (hg : PG X tg g) (hs : swapsWithSole [tg] e pos.line X.env = pure false := by rfl) (hw : swappedStores [tg] e X.env = pure none := by rfl) (h1 : (assignEach [tg] X.env).map (·.2) = [assign tg X.env] := by rfl) :
    PS0 X (.Assign [tg] e pos) (tAsg te g) :=
  ⟨fun I h => wpAny_Assign_stores (thn (he.run I h) fun _ _ ⟨k1, _, _, I1, r1, z⟩ => by rw [h1]; exact tn k1 (hg.run k1 I1 r1 z) fun _ _ k2 w => ⟨k2, w⟩) hs hw⟩
theorem pss0_cons (h1 : PS0 X st t) (h2 : PSs X sts u) : L2.PSs X (st :: sts) (tSeq t u) :=
  ⟨fun p s σ H D I h => wpAny_execs_cons (thn (h1.run (D := { D with nx := u D }) I h) fun fl _ ⟨k1, z⟩ => by
    cases fl with
    | next => obtain ⟨_, _, I1, z⟩ := z; exact h2.run k1 I1 z
    | _ => exact z)⟩
def E0' (X : Cx) (e : Expr) (τ : ED) : Prop := ∃ t, PE0 X e t ∧ SimE X.K t τ
def A0 (X : Cx) (es : List Expr) (τ : AD) : Prop := ∃ t, PA0 X es t ∧ SimA X.K t τ
def N0 (X : Cx) (e : Expr) (τ : AD) : Prop := ∃ t, PE0 X e t ∧ SimN X.K t τ
def S0 (X : Cx) (st : Stmt) (τ : SD) : Prop := ∃ t, PS0 X st t ∧ SimS X.K t τ
def B0 (X : Cx) (st : List Stmt) (τ : SD) : Prop := ∃ t, L2.PSs X st t ∧ SimS X.K t τ
variable {τ : ED} {α ν : AD} {ξ υ : SD}
theorem sim_cons {K : PySem.W.Frag} (a2 : SimE K te τ) (b2 : SimA K al α) : SimA K (tCons te al) (dCons τ α) := fun σ H δ S w sl Q R k h =>
  a2 σ H δ S w sl _ _ (fun v H' d S' g r' q => b2 σ H' δ S' g.wd (sl.im (g.im w)) _ _ (fun vs H2 ds S2 g2 r2 q2 => k (v :: vs) H2 (d :: ds) S2 (g.trans g2) ⟨v, vs, rfl, r'.im (g2.im g.wd), r2⟩ q2) q) h
theorem a0_hd (ha : E0' X e τ) (hr : A X es α) (hs : starEach (e :: es) X.env = (false, eval e X.env) :: starEach es X.env := by rfl) : A0 X (e :: es) (dCons τ α) :=
  let ⟨_, a1, a2⟩ := ha; let ⟨_, b1, b2⟩ := hr; ⟨_, pa0_hd a1 b1 hs, sim_cons a2 b2⟩
theorem a0_var (i : Nat) {y : Str} (hr : A0 X es α) (hN : X.N[i]? = some y := by rfl) (hv : Vis X.env.scope y := by first | exact Or.inl rfl | exact Or.inr (Or.inl rfl) | exact Or.inr (Or.inr rfl)) (hd : (y == ("__debug__" : Str)) = false := by decide)
    (hcd : (y == ("__classdict__" : Str)) = false := by decide) (hs : starEach (.Name y q :: es) X.env = (false, eval (.Name y q) X.env) :: starEach es X.env := by rfl) : A0 X (.Name y q :: es) (dCons (dVar i) α) :=
  let ⟨_, b1, b2⟩ := hr; ⟨_, pa0_tl (L2.pe_var hN hv hd hcd) b1 hs, sim_cons sim_var b2⟩
theorem e0_int {k : Int} {j pos} : E0' X (.Constant (.int k) j pos) (dC (.int k)) := ⟨_, pe0_int, sim_c fun _ => rfl⟩
theorem e0_call {n k : Nat} {sp : SpD} {f : Addr} {fd : FuncData} {ps : List Str} (F : FnOk X.prog X.w X.K X.mg X.base CX0 k f fd ps (lift X.K n sp)) (hr : Room k X.A) (hm : X.mg x = some (.ref f)) (hk : PySem.W.keepIn X.K (.ref f) = true) (hb : Binds X.K fd ps [])
    (ha : A0 X (e :: es) α) (hg : Gl X x := by rfl) (hdb : (x == ("__debug__" : Str)) = false := by decide) (he : starEach (e :: es) X.env = (false, eval e X.env) :: starEach es X.env := by rfl) (hpl : (backTo pos (starEach es X.env)).any (·.1) = false := by rfl) :
    E0' X (.Call (.Name x q) (e :: es) [] pos) (dCall n sp [] α) := let ⟨_, a1, a2⟩ := ha; ⟨_, pe0_call F hr hg hm hk hb .nil pass0 a1 hdb he hpl, sim_call (fun _ => rfl) a2⟩
theorem n0_lst (h : A0 X es α) : N0 X (.List es pos) (dLst α) := by
  obtain ⟨t, a1, a2⟩ := h
  refine ⟨_, pe0_lst a1, fun σ H δ S w sl Q R k h => a2 σ H δ S w sl _ _ (fun vs H' ds S' g r' q => ⟨by rw [← r'.length]; exact q.1, fun p hp => ?_⟩) h⟩
  have g1 := Go.new (u := .lst vs) g.wd hp
  exact k p _ vs ds S' (g.trans g1) (g.th p hp) upd_same (g.wd.free hp) (r'.im (g1.im g.wd)) q.2
theorem e0_new (h : N0 X e ν) : E0' X e (dNew ν) :=
  let ⟨_, a1, a2⟩ := h; ⟨_, a1, fun σ H δ S w sl Q R k h => a2 σ H δ S w sl _ _ (fun p H' vs ds S' g h0 hp hs r' q => k _ H' (.rf p) _ (g.own h0 hp hs r') rfl (q p hs)) h⟩
theorem s0_asg {tg : Expr} {γ : GD} (he : E0' X e τ) (hg : G X tg γ) (hs : swapsWithSole [tg] e pos.line X.env = pure false := by rfl) (hw : swappedStores [tg] e X.env = pure none := by rfl)
    (h1 : (assignEach [tg] X.env).map (·.2) = [assign tg X.env] := by rfl) : S0 X (.Assign [tg] e pos) (dAsg τ γ) :=
  let ⟨_, a1, a2⟩ := he; let ⟨_, g1, g2⟩ := hg; ⟨_, ps0_asg a1 g1 hs hw h1, fun σ H δ S w sl F G hn hr hb hc h => a2 σ H δ S w sl _ _ (fun v H' d S' g r' q =>
    g2 σ H' δ S' v d g.wd (sl.im (g.im w)) r' _ _ (fun σ2 H2 δ2 S2 g' sl2 q2 => hn σ2 H2 δ2 S2 (g.trans g') sl2 q2) q) h⟩
theorem b0_cons (h1 : S0 X st ξ) (h2 : B X sts υ) : B0 X (st :: sts) (dSeq ξ υ) :=
  let ⟨_, a1, a2⟩ := h1; let ⟨u, b1, b2⟩ := h2; ⟨_, pss0_cons a1 b1, fun σ H δ S w sl F G hn hr hb hc h => a2 σ H δ S w sl { F with nx := υ F } { G with nx := u G } (fun σ' H' δ' S' g sl' q =>
    b2 σ' H' δ' S' g.wd sl' F G (fun σ2 H2 δ2 S2 g2 => hn σ2 H2 δ2 S2 (g.trans g2)) (fun v H2 d S2 g2 => hr v H2 d S2 (g.trans g2)) (fun σ2 H2 δ2 S2 g2 => hb σ2 H2 δ2 S2 (g.trans g2)) (fun σ2 H2 δ2 S2 g2 => hc σ2 H2 δ2 S2 (g.trans g2)) q) hr hb hc h⟩
/-! ### s.replace(y, z) of two written texts -/
/-- all of y in s, from the left, turned into z -/
def replD (y z s : List Nat) : List Nat := PySem.StrLaws.replL y z s
def dRepl (y z : List Nat) (a : ED) : ED := fun δ S Q => a δ S fun x S1 => match x with
  | .str s => 1 ≤ y.length ∧ s.length + (s.length + 1) * z.length ≤ 16777216 ∧ Q (.str (replD y z s)) S1
  | _ => False
theorem e_repl {o : Expr} {apos : Pos} {j0 j1 : Nat} {c0 c1 : Pos} {y z : Str} (y' z' : List Nat) (ho : E X o τ) (hy : y = ⟨y'.toArray⟩ := by decide +kernel) (hz : z = ⟨z'.toArray⟩ := by decide +kernel) (hyz : (y == z) = false := by decide +kernel)
    (hst : starEach [.Constant (.str y) j0 c0, .Constant (.str z) j1 c1] X.env = [(false, eval (.Constant (.str y) j0 c0) X.env), (false, eval (.Constant (.str z) j1 c1) X.env)] := by rfl)
    (hbase : attributeBase o "replace" X.env (eval o X.env) = eval o X.env := by rfl) (hline : (apos.endLine == pos.line) = true := by rfl) :
    E X (.Call (.Attribute o "replace" apos) [.Constant (.str y) j0 c0, .Constant (.str z) j1 c1] [] pos) (dRepl y' z' τ) := by
  obtain ⟨t, a1, a2⟩ := ho
  refine ⟨_, pe_repl a1 hyz hst hbase hline, fun σ H δ S w sl Q R k h => a2 σ H δ S w sl _ _ (fun v H1 d S1 g r q => ?_) h⟩
  cases d with
  | str s =>
    obtain ⟨q1, q2, q⟩ := q
    refine ⟨⟨s.toArray⟩, r, ?_, k _ H1 _ S1 g ?_ q⟩
    · rw [hz]; simpa [Str.length] using q2
    · have e := PySem.StrLaws.replace_list (x := ⟨s.toArray⟩) (y := y) (z := z) (by rw [hy]; simpa [Str.length] using q1)
      show V.str _ = V.str _
      congr 1
      generalize hr : Txt.replace ⟨s.toArray⟩ y z = rr at e ⊢
      cases rr with
      | mk cs =>
        have e2 : cs.toList = replD y' z' s := by rw [e, hy, hz]; simp [replD]
        rw [← e2]
  | _ => exact q.elim
end
/-! ### the law's def -/
section
variable {P : Program} {w : World} {K : PySem.W.Frag} {mg : Str → Option Value} {base : Heap}
theorem fn0_lift {x qual : Str} {st : Stmt} {f : Addr} {fd : FuncData} {N ps : List Str} {k : Nat} {sp : SpD} {τ : SD} (F : Fun K x qual st f fd) (Sc : FnScope N ps (defScope st))
    (hd : ∀ (cdv : Value) (A : Around) (outer : List Env) (s : Shared) (H : Hp) (E : XK), Room k (A.deeper (envOfC qual (defScope st) s.heap.objs.size f cdv)) → B0 (cxOf CX0 P w K mg base N qual (defScope st) f cdv A outer s H E).nox (defBody st) τ)
    (hq : ∀ ds S Q, ds.length = ps.length → sp ds S Q → τ (endsD Q) (startD N ds) S) : L2.FnOk P w K mg base CX0 (k + 1) f fd ps (lift K ps.length sp) := by
  refine F.ok Sc (fun vs H Q E h => ?_) (fun cdv A outer s H vs Q E hr h => ?_)
  · obtain ⟨S, ds, _, r, hl, _⟩ := h
    rw [← r.length, hl]
  · obtain ⟨S, ds, wd, r, hl, Qd, hk, hs⟩ := h
    obtain ⟨t, h1, h2⟩ := hd cdv A outer s H E hr
    refine ⟨t, h1, h2 _ H _ S wd (start_ok r) (endsD Qd) _ (fun σ' H' δ' S' g _ q => ?_) (fun v H' d S' g r' q => ?_) (fun _ _ _ _ _ _ q => q.elim) (fun _ _ _ _ _ _ q => q.elim) (hq ds S Qd hl hs)⟩
    · obtain ⟨S2, le, q⟩ := q
      exact hk _ H' .non S2 (g.le le) rfl q
    · obtain ⟨S2, le, q⟩ := q
      exact hk _ H' d S2 (g.le le) r' q
end
end DL

set_option Elab.async false
set_option linter.all false
set_option maxRecDepth 100000
namespace DL
open PySem PySem.Spec L2 PyProof.Rows
section
variable {X : Cx}
/-! ### signs cut off at one end; find from a place -/
def dLstripC : MD := mS1 (fun s t => .str (Txt.lstripChars (tx s) (tx t)).cps.toList) (fun s _ => okT s)
theorem m_lstripC : M X "str.lstrip" dLstripC := m_S1 mt_lstripChars fun K H s t R h k => ⟨_, _, rfl, rfl, by rw [str_len]; exact h, k _ rfl⟩
def dRstripC : MD := mS1 (fun s t => .str (Txt.rstripChars (tx s) (tx t)).cps.toList) (fun s _ => okT s)
theorem m_rstripC : M X "str.rstrip" dRstripC := m_S1 mt_rstripChars fun K H s t R h k => ⟨_, _, rfl, rfl, by rw [str_len]; exact h, k _ rfl⟩
def dFind3 : MD := fun x ds S Q => match x, ds with | .str s, [.str t, .int i] => Q (.int (Txt.find3 (tx s) (tx t) i)) S | _, _ => False
theorem m_find3 : M X "str.find" dFind3 := by
  refine ⟨_, mt_find3, fun H S x dx vs ds w rx rs Q R k q => ?_⟩
  unfold dFind3 at q
  split at q
  · obtain rfl := rx
    obtain ⟨v, r2, rfl, rv, v2, r3, rfl, rv2, rfl⟩ := rs
    obtain rfl := rv
    obtain rfl := rv2
    exact ⟨_, _, _, rfl, rfl, k _ H (.int _) S (Go.refl w) rfl q⟩
  · exact q.elim
end
/-! ### a table of the top with plain values -/
structure KTabV (K : PySem.W.Frag) (w : World) (a : Addr) (tbl : List (List Nat × D)) : Prop where
  dic : ∃ es n, KDict K w a es n
  hit : ∀ k d, tbl.lookup k = some d → ∃ r v, PySem.W.nsIn K a (tx k) = some (some r) ∧ RelV v r ∧ ∀ H, Rep K H d v
  miss : ∀ k, tbl.lookup k = none → PySem.W.nsIn K a (tx k) = some none
def TabVC (K : PySem.W.Frag) (w : World) (mg : Str → Option Value) (x : Str) (tbl : List (List Nat × D)) : Prop := ∃ a, mg x = some (.ref a) ∧ KTabV K w a tbl
section
variable {X : Cx} {x : Str} {e : Expr} {τ : ED} {p apos cpos pos : Pos} {tbl : List (List Nat × D)}
def dTabVIx (tbl : List (List Nat × D)) (τ : ED) : ED := fun δ S Q => τ δ S fun x S1 => match x with
  | .str k => (match tbl.lookup k with | some d => Q d S1 | none => False)
  | _ => False
theorem e_tabVIx (h : TabVC X.K X.w X.mg x tbl) (he : E X e τ) (hs : PlainIx e := by exact fun _ _ => rfl) (hg : Gl X x := by rfl) (hd : (x == ("__debug__" : Str)) = false := by decide) : E X (.Subscript (.Name x p) e pos) (dTabVIx tbl τ) := by
  obtain ⟨a, hm, ⟨es, n, KD⟩, hit, miss⟩ := h
  obtain ⟨t, a1, a2⟩ := he
  refine ⟨_, pe_ix ix_kdict (pe_glob (v := .ref a) hg hm rfl hd) a1 hs, fun σ H δ S w sl Q R k h => a2 σ H δ S w sl _ _ (fun v H1 d S1 g1 rv q => ?_) h⟩
  cases d with
  | str s =>
    obtain rfl := rv
    dsimp only at q
    cases el : tbl.lookup s with
    | none => rw [el] at q; exact q.elim
    | some d =>
      rw [el] at q
      obtain ⟨r, v, hb, rv, hs⟩ := hit s d el
      exact ⟨a, tx s, v, rfl, rfl, ⟨es, n, r, KD.at_, KD.lit, hb, rv⟩, k v H1 d S1 g1 (hs H1) q⟩
  | _ => exact q.elim
/-- k in d -/
def dTabVIn (neg : Bool) (tbl : List (List Nat × D)) (τ : ED) : ED := fun δ S Q => τ δ S fun x S1 => match x with
  | .str k => Q (.bl (if neg then (tbl.lookup k).isNone else (tbl.lookup k).isSome)) S1
  | _ => False
theorem tabV_in {s : List Nat} (h : KTabV X.K X.w p' tbl) : ∃ r, PySem.W.nsIn X.K p' (tx s) = some r ∧ r.isSome = (tbl.lookup s).isSome := by
  cases el : tbl.lookup s with
  | none => exact ⟨none, h.miss s el, rfl⟩
  | some d => obtain ⟨r, _, hb, _⟩ := h.hit s d el; exact ⟨some r, hb, rfl⟩
theorem o_tabVIn {a : Addr} (h : KTabV X.K X.w a tbl) (he : E X e τ) (hm : X.mg x = some (.ref a)) (hg : Gl X x := by rfl) (hd : (x == ("__debug__" : Str)) = false := by decide) (hb : behindInMarks .In (.Name x p) = false := by rfl) :
    E X (.Compare e [.In] [.Name x p] pos) (dTabVIn false tbl τ) ∧ T X (.Compare e [.In] [.Name x p] pos) (dTB (dTabVIn false tbl τ)) := by
  obtain ⟨es, n, KD⟩ := h.dic
  obtain ⟨t, a1, a2⟩ := he
  have ng := pe_glob (v := V.ref a) (pos := p) hg hm rfl hd
  have sim : SimE X.K (tOp (fun x y H Q => ∃ (z : Str) (r : Option Value), x = .str z ∧ y = .ref a ∧ PySem.W.nsIn X.K a z = some r ∧ Q (.bl r.isSome) H) t (tC (.ref a))) (dTabVIn false tbl τ) := fun σ H δ S w sl Q R k h' => by
    refine a2 σ H δ S w sl _ _ (fun v H1 d S1 g1 rv q => ?_) h'
    cases d with
    | str s =>
      obtain rfl := rv
      obtain ⟨r, h1, h2⟩ := tabV_in (s := s) h
      exact ⟨tx s, r, rfl, rfl, h1, by rw [h2]; exact k _ H1 (.bl _) S1 g1 rfl q⟩
    | _ => exact q.elim
  refine ⟨⟨_, pe_cmpR (op_in_kd KD) a1 ng hb, sim⟩, ⟨_, pt_cmpR (op_in_kd KD) a1 ng hb, fun σ H δ S w sl Q R k h' => ?_⟩⟩
  refine sim σ H δ S w sl _ _ (fun v H' d S' g r' q => ?_) h'
  cases d <;> first | exact False.elim q | skip
  obtain rfl := r'
  exact ⟨_, rfl, k _ H' S' g q⟩
theorem e_tabVIn (h : TabVC X.K X.w X.mg x tbl) (he : E X e τ) (hg : Gl X x := by rfl) (hd : (x == ("__debug__" : Str)) = false := by decide) (hb : behindInMarks .In (.Name x p) = false := by rfl) : E X (.Compare e [.In] [.Name x p] pos) (dTabVIn false tbl τ) :=
  let ⟨_, hm, k⟩ := h; (o_tabVIn k he hm hg hd hb).1
theorem t_tabVIn (h : TabVC X.K X.w X.mg x tbl) (he : E X e τ) (hg : Gl X x := by rfl) (hd : (x == ("__debug__" : Str)) = false := by decide) (hb : behindInMarks .In (.Name x p) = false := by rfl) : T X (.Compare e [.In] [.Name x p] pos) (dTB (dTabVIn false tbl τ)) :=
  let ⟨_, hm, k⟩ := h; (o_tabVIn k he hm hg hd hb).2
end
end DL

set_option Elab.async false
set_option linter.all false
set_option maxRecDepth 100000
/-! int(text) and str(int) up to the bound of 4300 digits -/
namespace DL
open PySem PySem.Spec L2 PyProof.Rows PySem.NumText PySem.W
theorem wp_maxd {M : Model} {A : Around} {E : Value → Shared → Prop} {s : Shared} {Q : Nat → Shared → Prop} (hn : s.heap.NoDigits) (h : Q 4300 s) : wpAny M A Builtin.intMaxStrDigits Q E s := by
  obtain ⟨mc, hns, e⟩ := hn
  unfold Builtin.intMaxStrDigits
  refine wpAny_bind (wpAny_nsGet hns ?_)
  rw [e]
  exact wpAny_pure h
theorem wp_big {M : Model} {A : Around} {E : Value → Shared → Prop} {s : Shared} {Q : Value → Shared → Prop} {v : Value} {text : List Nat} {n : Int} (hn : s.heap.NoDigits)
    (hs : ¬ (text.takeWhile (· != 0)).length ≤ 640) (hr : (int_private% "readNumeral") 4300 10 (text.takeWhile (· != 0)) = (int_private% "Numeral.value") n)
    (ha : ((text.takeWhile (· != 0)).length == text.length) = true) (h : Q (.int n s.toks) { s with toks := s.toks + 1 }) :
    wpAny M A ((int_private% "intFromText") v text 10) Q E s := by
  obtain ⟨hp, g, d, tk, os⟩ := s
  repeat (any_goals (first
    | assumption
    | (with_reducible refine wp_maxd hn ?_)
    | (with_reducible refine wpAny_ite_false (decide_eq_false hs) ?_)
    | (with_reducible refine wpAny_ite_true (decide_eq_true ha) ?_)
    | wp_step))
  all_goals (try rw [hr])
  all_goals (try dsimp only)
  repeat (any_goals (first
    | assumption
    | (with_reducible refine wp_maxd hn ?_)
    | (with_reducible refine wpAny_ite_false (decide_eq_false hs) ?_)
    | (with_reducible refine wpAny_ite_true (decide_eq_true ha) ?_)
    | wp_step))
structure Hid2 (p : Prop) : Prop where
  out : p
set_option maxHeartbeats 4000000 in
theorem meets_big {x : PySem.Str} {u : Tok} {n : Int} (hl : x.length ≤ sizeLine) (h640 : ¬ (numSeenOf x).length ≤ 640) (hn : PySem.intText? x = some n) :
    Meets (Builtin.«int.__new__» ⟨[.type "int", .str x u], []⟩) (fun A R s => s.heap.NoDigits ∧ R (.ok (.ret (.int n s.toks))) { s with toks := s.toks + 1 }) :=
  .of_wp fun prog w A R s ⟨nd, h⟩ => by
    obtain ⟨hp, g, d, tk, os⟩ := s
    have f1 := F.conv_sub_int
    have f2 := F.madeHere_int
    have f3 := KIN.str_int
    have f4 := KIN.str_idx
    have f5 := KIN.str_trunc
    have f6 : typeOf (.str x u) = pure (.type "str") := rfl
    have hr : (int_private% "readNumeral") 4300 10 (numSeenOf x) = (int_private% "Numeral.value") n ∧ ((numSeenOf x).length == (numTextOf x).length) = true := by
      rcases read4300 x hl with ⟨m, h1, h2, h3⟩ | ⟨h1, _⟩
      · rw [hn] at h1
        injection h1 with h1
        subst h1
        exact ⟨h3, h2⟩
      · rw [hn] at h1
        cases h1
    have hk := Hid2.mk (And.intro nd (And.intro h640 hr))
    clear h640 hr hl hn nd
    repeat (any_goals (first
      | assumption
      | ((with_reducible show wpAny _ _ ((int_private% "intFromText") _ _ _) _ _ _); refine wp_big hk.out.1 hk.out.2.1 hk.out.2.2.1 hk.out.2.2.2 ?_)
      | wp_step))
    all_goals first | exact ⟨_, rfl, h⟩ | skip
theorem seen_all {x : PySem.Str} (h : ∀ c ∈ x.cps.toList, c ≠ 0 ∧ c < 128) : numSeenOf x = x.cps.toList := by
  have h1 : x.cps.all (· < 128) = true := by
    rw [← Array.all_toList]
    exact List.all_eq_true.mpr fun c hc => decide_eq_true (h c hc).2
  have h2 : numTextOf x = x.cps.toList := if_pos h1
  show (numTextOf x).takeWhile (· != 0) = _
  rw [h2]
  generalize x.cps.toList = l at h
  induction l with
  | nil => rfl
  | cons c r ih => rw [List.takeWhile_cons, if_pos (by simpa using (h c (List.mem_cons_self ..)).1), ih fun d hd => h d (List.mem_cons_of_mem _ hd)]
theorem call_big {prog : Program} {w : World} {A : Around} {E : Value → Shared → Prop} {s : Shared} {Q : Value → Shared → Prop} {x : PySem.Str} {t : Tok} {n : Int} (nd : s.heap.NoDigits) (hn : PySem.intText? x = some n) (hl : x.length ≤ sizeLine) (hc : ∀ c ∈ x.cps.toList, c ≠ 0 ∧ c < 128)
    (h : Q (.int n s.toks) { s with toks := s.toks + 1 }) : wpAny (model prog w) A (call (.type "int") [.str x t]) Q E s := by
  by_cases h640 : x.length ≤ 640
  · exact KIN.call_text hn h640 h
  · refine call_int_1 (meets_big hl (by rw [seen_all hc]; simpa [Str.length] using h640) hn) ⟨nd, typeIs_int _ _ _, h⟩
/-- the bound on digits is the one that Python begins with -/
def DigC (K : PySem.W.Frag) : Prop := PySem.W.nsIn K cStatics "sys.int_max_str_digits" = some none
theorem Inv.nodig {X : Cx} {p : Pins} {σ : L2.St} {H : Hp} {s : Shared} (I : Inv X p σ H s) (h : DigC X.K) : s.heap.NoDigits := by
  obtain ⟨mc, hns, _⟩ := I.nolimit
  exact ⟨mc, hns, PySem.W.ns_none_of I.kIn hns h⟩
section
variable {X : Cx}
def dIntB : CD := fun ds S Q => match ds with | [.str s] => s.length ≤ 4300 ∧ (∀ c ∈ s, c ≠ 0 ∧ c < 128) ∧ ∃ n, PySem.intText? ⟨s.toArray⟩ = some n ∧ Q (.int n) S | _ => False
theorem c_intB (hd : DigC X.K) : C X (.type "int") dIntB := by
  refine ⟨fun xs H Q => ∃ a n, xs = [.str a] ∧ PySem.intText? a = some n ∧ a.length ≤ 4300 ∧ (∀ c ∈ a.cps.toList, c ≠ 0 ∧ c < 128) ∧ Q (.int n) H, fun p s σ H vs us Q I r ⟨a, n, e, h1, h2, h3, q⟩ => ?_, fun H S vs ds w rs Q R k q => ?_⟩
  · subst e
    cases r with
    | cons r rr =>
      cases rr
      obtain ⟨t, rfl⟩ := r
      exact call_big (Inv.nodig I hd) h1 (by rw [sizeLine_eq]; omega) h3 ⟨.int n, H, I.tok _, ⟨_, rfl⟩, q⟩
  · unfold dIntB at q
    split at q
    · obtain ⟨v, r, rfl, rv, rfl⟩ := rs
      obtain rfl := rv
      obtain ⟨q1, q2, n, q3, q⟩ := q
      exact ⟨_, n, rfl, q3, by rw [str_len]; exact q1, by simpa using q2, k _ H (.int n) S (Go.refl w) rfl q⟩
    · exact q.elim
/-- the first number that str refuses -/
def bigD : Nat := 10 ^ 4300
def dStrB : CD := fun ds S Q => match ds with | [.int i] => i.natAbs < bigD ∧ Q (.str (decs i)) S | [.str s] => Q (.str s) S | _ => False
theorem str_intB (hc : X.calm = true) (hd : DigC X.K) : CallR X (.type "str") (fun xs H Q => ∃ i, xs = [.int i] ∧ i.natAbs < 10 ^ 4300 ∧ Q (.str (Str.ofString (toString i))) H) := fun p s σ H vs us Q I r ⟨i, e, h1, q⟩ => by
  subst e
  cases r with
  | cons r rr =>
    cases rr
    obtain ⟨t, rfl⟩ := r
    exact str_of_int_or (I.ok.hd hc) (Inv.nodig I hd) (fun _ => ⟨.str _, H, I.tok _, ⟨_, rfl⟩, q⟩) fun h2 => absurd h1 (Nat.not_lt.mpr h2)
theorem c_strB (hd : DigC X.K) (hc : X.calm = true := by rfl) : C X (.type "str") dStrB := by
  refine ⟨_, CallR.or (str_intB hc hd) SkE.call_str_str, fun H S vs ds w rs Q R k q => ?_⟩
  unfold dStrB at q
  split at q
  · obtain ⟨v, r, rfl, rv, rfl⟩ := rs
    obtain rfl := rv
    exact .inl ⟨_, rfl, q.1, k _ H (.str (decs _)) S (Go.refl w) (by show V.str _ = V.str ⟨(decs _).toArray⟩; unfold decs; rw [Array.toArray_toList]) q.2⟩
  · obtain ⟨v, r, rfl, rv, rfl⟩ := rs
    obtain rfl := rv
    exact .inr ⟨_, rfl, k _ H (.str _) S (Go.refl w) rfl q⟩
  · exact q.elim
end
end DL

set_option Elab.async false
set_option linter.all false
set_option maxRecDepth 100000
namespace DL
open PySem PySem.Spec L2 PyProof.Rows
theorem lookup_notA {α : Type} {k : List Nat} : ∀ {tbl : List (List Nat × α)}, tbl.lookup k = none → ∀ p ∈ tbl, p.1 ≠ k
  | [], _, p, h => by cases h
  | (k0, v0) :: r, h, p, hp => by
    rw [List.lookup_cons] at h
    by_cases e : k = k0
    · subst e
      rw [show (k == k) = true from beq_self_eq_true k] at h
      cases h
    · rw [show (k == k0) = false from beq_eq_false_iff_ne.mpr e] at h
      rcases List.mem_cons.mp hp with z | z
      · subst z; exact fun w => e w.symm
      · exact lookup_notA h p z
def rowsV (K : PySem.W.Frag) (a : Addr) : List (List Nat × D) → Prop
  | [] => True
  | p :: r => (∃ (u : Value) (v : V), PySem.W.nsIn K a (tx p.1) = some (some u) ∧ RelV v u ∧ ∀ H, Rep K H p.2 v) ∧ rowsV K a r
theorem rowsV.at {K : PySem.W.Frag} {a : Addr} : ∀ {tbl : List (List Nat × D)} {k : List Nat} {d : D}, rowsV K a tbl → tbl.lookup k = some d → ∃ r v, PySem.W.nsIn K a (tx k) = some (some r) ∧ RelV v r ∧ ∀ H, Rep K H d v
  | [], k, v, _, h => by cases h
  | (k0, v0) :: r, k, v, ⟨⟨u, x, h1, h2, h3⟩, hr⟩, h => by
    rw [List.lookup_cons] at h
    by_cases e : k = k0
    · subst e
      rw [show (k == k) = true from beq_self_eq_true k] at h
      cases h
      exact ⟨u, x, h1, h2, h3⟩
    · rw [show (k == k0) = false from beq_eq_false_iff_ne.mpr e] at h
      exact rowsV.at hr h
theorem miss_of {α : Type} {K : PySem.W.Frag} {w : World} {a : Addr} {es : Array DictEntry} {n : Nat} {tbl : List (List Nat × α)} (dl : K.lookup a = some ⟨.type "dict", none, .dict es n, #[]⟩) (dk : PySem.W.KeysLit w.params es.toList)
    (dm : es.toList.map keyS = tbl.map fun p => some (tx p.1)) (k : List Nat) (h : tbl.lookup k = none) : PySem.W.nsIn K a (tx k) = some none := by
  have no : ∀ e ∈ es.toList, e.key.isStr (tx k) = false ∧ e.refKey = false := fun e he => by
    obtain ⟨x, t, e1, _⟩ := dk.all e he
    have m : keyS e ∈ tbl.map fun p => some (tx p.1) := by rw [← dm]; exact List.mem_map_of_mem he
    obtain ⟨p, hp, ep⟩ := List.mem_map.mp m
    have ks : keyS e = some x := by unfold keyS; rw [e1]
    rw [ks] at ep
    have ex : tx p.1 = x := Option.some.inj ep
    have ne := lookup_notA h p hp
    refine ⟨?_, by unfold DictEntry.refKey; rw [e1]⟩
    rw [e1, ← ex]
    show (tx p.1 == tx k) = false
    exact beq_eq_false_iff_ne.mpr fun z => ne (by have := congrArg (fun s : Str => s.cps.toList) z; exact this)
  have f : es.toList.find? (fun e => e.key.isStr (tx k)) = none := List.find?_eq_none.mpr fun e he => by rw [(no e he).1]; exact Bool.false_ne_true
  have g : es.toList.any (·.refKey) = false := List.any_eq_false.mpr fun e he => by rw [(no e he).2]; exact Bool.false_ne_true
  unfold PySem.W.nsIn
  rw [dl]
  dsimp only
  rw [f]
  dsimp only
  rw [g]
  rfl
theorem ktabV_mk {K : PySem.W.Frag} {w : World} {a : Addr} {es : Array DictEntry} {n : Nat} {tbl : List (List Nat × D)} (dl : K.lookup a = some ⟨.type "dict", none, .dict es n, #[]⟩) (dk : PySem.W.KeysLit w.params es.toList) (dz : (a == sysModules) = false)
    (dm : es.toList.map keyS = tbl.map fun p => some (tx p.1)) (rows : rowsV K a tbl) : KTabV K w a tbl := ⟨⟨es, n, dl, dk, dz⟩, fun _ _ h => rows.at h, miss_of dl dk dm⟩
end DL

set_option Elab.async false
set_option linter.all false
set_option maxRecDepth 100000
set_option maxHeartbeats 2000000
/-! The data layer: what is wished of an exception (its class, its dict), readings that may raise. -/
namespace DL
open PySem PySem.Spec L2 PyProof.Rows
/-- a wish: class, dict, slots, objects -/
abbrev XSD := Addr → Addr → Sl → Sh → Prop
abbrev XD := Addr → Addr → Sh → Prop
abbrev SpX := List D → Sh → QD → XD → Prop
def XRel (K : PySem.W.Frag) (S : Sh) (H : Hp) (w : XSD) (W : WX) : Prop :=
  ∀ σ' H' δ' S' c d fs, Go K S H S' H' → SlOk K H' σ' δ' → S' d = some (.exn fs) → w c d δ' S' → W (.ref c) (some d) σ' H'
theorem XRel.go {K : PySem.W.Frag} {S S1 : Sh} {H H1 : Hp} {w : XSD} {W : WX} (r : XRel K S H w W) (g : Go K S H S1 H1) : XRel K S1 H1 w W :=
  fun σ' H' δ' S' c d fs g' sl e z => r σ' H' δ' S' c d fs (g.trans g') sl e z
def SimEX (K : PySem.W.Frag) (t : WX → TE) (τ : XSD → ED) : Prop := ∀ σ H δ S, Wd K H S → SlOk K H σ δ → ∀ (Q : QD) (R : VK) (w : XSD) (W : WX), (∀ v H' d S', Go K S H S' H' → Rep K H' d v → Q d S' → R v H') → XRel K S H w W → τ w δ S Q → t W σ H R
def SimAX (K : PySem.W.Frag) (t : WX → TA) (τ : XSD → AD) : Prop := ∀ σ H δ S, Wd K H S → SlOk K H σ δ → ∀ (Q : List D → Sh → Prop) (R : List V → Hp → Prop) (w : XSD) (W : WX), (∀ vs H' ds S', Go K S H S' H' → Reps K H' ds vs → Q ds S' → R vs H') → XRel K S H w W → τ w δ S Q → t W σ H R
def SimSX (K : PySem.W.Frag) (t : WX → TS) (τ : XSD → SD) : Prop := ∀ σ H δ S, Wd K H S → SlOk K H σ δ → ∀ (F : EndsD) (G : Ends) (w : XSD) (W : WX),
  (∀ σ' H' δ' S', Go K S H S' H' → SlOk K H' σ' δ' → F.nx δ' S' → G.nx σ' H') → (∀ v H' d S', Go K S H S' H' → Rep K H' d v → F.rt d S' → G.rt v H') →
  (∀ σ' H' δ' S', Go K S H S' H' → SlOk K H' σ' δ' → F.bk δ' S' → G.bk σ' H') → (∀ σ' H' δ' S', Go K S H S' H' → SlOk K H' σ' δ' → F.ct δ' S' → G.ct σ' H') → XRel K S H w W → τ w F δ S → t W G σ H
def EX (X : Cx) (e : Expr) (τ : XSD → ED) : Prop := ∃ t, (∀ W, L2N.Takes X W → PE X e (t W)) ∧ SimEX X.K t τ
def AX (X : Cx) (es : List Expr) (τ : XSD → AD) : Prop := ∃ t, (∀ W, L2N.Takes X W → PA X es (t W)) ∧ SimAX X.K t τ
def SX (X : Cx) (st : Stmt) (τ : XSD → SD) : Prop := ∃ t, (∀ W, L2N.Takes X W → PS X st (t W)) ∧ SimSX X.K t τ
def BX (X : Cx) (st : List Stmt) (τ : XSD → SD) : Prop := ∃ t, (∀ W, L2N.Takes X W → PSs X st (t W)) ∧ SimSX X.K t τ
section
variable {X : Cx} {e : Expr} {es : List Expr} {st : Stmt} {sts : List Stmt} {τ : ED} {α : AD} {ξ : SD}
theorem ex_of (h : E X e τ) : EX X e (fun _ => τ) := by
  obtain ⟨t, h1, h2⟩ := h
  exact ⟨fun _ => t, fun _ _ => h1, fun σ H δ S w sl Q R _ _ k _ z => h2 σ H δ S w sl Q R k z⟩
theorem ax_of (h : A X es α) : AX X es (fun _ => α) := by
  obtain ⟨t, h1, h2⟩ := h
  exact ⟨fun _ => t, fun _ _ => h1, fun σ H δ S w sl Q R _ _ k _ z => h2 σ H δ S w sl Q R k z⟩
theorem sx_of (h : S1 X st ξ) : SX X st (fun _ => ξ) := by
  obtain ⟨t, h1, h2⟩ := h
  exact ⟨fun _ => t, fun _ _ => h1, fun σ H δ S w sl F G _ _ a b c d _ z => h2 σ H δ S w sl F G a b c d z⟩
theorem bx_of (h : B X sts ξ) : BX X sts (fun _ => ξ) := by
  obtain ⟨t, h1, h2⟩ := h
  exact ⟨fun _ => t, fun _ _ => h1, fun σ H δ S w sl F G _ _ a b c d _ z => h2 σ H δ S w sl F G a b c d z⟩
end
/-! ### canonical readings -/
def canSX (K : PySem.W.Frag) (τ : XSD → SD) : WX → TS := fun W G σ H => ∃ δ S F w, Wd K H S ∧ SlOk K H σ δ ∧
  (∀ σ' H' δ' S', Go K S H S' H' → SlOk K H' σ' δ' → F.nx δ' S' → G.nx σ' H') ∧ (∀ v H' d S', Go K S H S' H' → Rep K H' d v → F.rt d S' → G.rt v H') ∧
  (∀ σ' H' δ' S', Go K S H S' H' → SlOk K H' σ' δ' → F.bk δ' S' → G.bk σ' H') ∧ (∀ σ' H' δ' S', Go K S H S' H' → SlOk K H' σ' δ' → F.ct δ' S' → G.ct σ' H') ∧ XRel K S H w W ∧ τ w F δ S
theorem BX.can {X : Cx} {sts : List Stmt} {τ : XSD → SD} (h : BX X sts τ) {W : WX} (tk : L2N.Takes X W) : PSs X sts (canSX X.K τ W) := by
  obtain ⟨t, h1, h2⟩ := h
  exact ⟨fun k0 I ⟨δ, S, F, w, wd, sl, a, b, c, d, x, z⟩ => (h1 W tk).run k0 I (h2 _ _ δ S wd sl F _ w W a b c d x z)⟩
def canS (K : PySem.W.Frag) (τ : SD) : TS := fun G σ H => ∃ δ S F, Wd K H S ∧ SlOk K H σ δ ∧
  (∀ σ' H' δ' S', Go K S H S' H' → SlOk K H' σ' δ' → F.nx δ' S' → G.nx σ' H') ∧ (∀ v H' d S', Go K S H S' H' → Rep K H' d v → F.rt d S' → G.rt v H') ∧
  (∀ σ' H' δ' S', Go K S H S' H' → SlOk K H' σ' δ' → F.bk δ' S' → G.bk σ' H') ∧ (∀ σ' H' δ' S', Go K S H S' H' → SlOk K H' σ' δ' → F.ct δ' S' → G.ct σ' H') ∧ τ F δ S
theorem B.can {X : Cx} {sts : List Stmt} {τ : SD} (h : B X sts τ) : PSs X sts (canS X.K τ) := by
  obtain ⟨t, h1, h2⟩ := h
  exact ⟨fun k0 I ⟨δ, S, F, wd, sl, a, b, c, d, z⟩ => h1.run k0 I (h2 _ _ δ S wd sl F _ a b c d z)⟩
/-! ### expressions -/
section
variable {X : Cx} {e : Expr} {es : List Expr} {pos p : Pos} {α : XSD → AD} {τ : XSD → ED}
def dConsX (a : XSD → ED) (b : XSD → AD) : XSD → AD := fun w => dCons (a w) (b w)
theorem ax_cons (ha : EX X e τ) (hr : AX X es α) (hs : starEach (e :: es) X.env = (false, eval e X.env) :: starEach es X.env := by rfl) : AX X (e :: es) (dConsX τ α) := by
  obtain ⟨t, a1, a2⟩ := ha
  obtain ⟨u, b1, b2⟩ := hr
  refine ⟨fun W => tCons (t W) (u W), fun W tk => pa_cons (a1 W tk) (b1 W tk) hs, fun σ H δ S w sl Q R x W k xr h => ?_⟩
  refine a2 σ H δ S w sl _ _ x W (fun v H1 d S1 g1 r1 q1 => ?_) xr h
  refine b2 σ H1 δ S1 g1.wd (sl.im (g1.im w)) _ _ x W (fun vs H2 ds S2 g2 r2 q2 => ?_) (xr.go g1) q1
  exact k (v :: vs) H2 (d :: ds) S2 (g1.trans g2) ⟨v, vs, rfl, r1.im (g2.im g1.wd), r2⟩ q2
end
end DL

set_option Elab.async false
set_option linter.all false
set_option maxRecDepth 100000
set_option maxHeartbeats 2000000
namespace DL
open PySem PySem.Spec L2 PyProof.Rows RZ
/-! ### calls -/
def liftX (K : PySem.W.Frag) (n : Nat) (sp : SpX) : Sp := fun vs H Q E => ∃ S ds, Wd K H S ∧ Reps K H ds vs ∧ ds.length = n ∧ ∃ (Qd : QD) (Xd : XD), (∀ v H' d S', Go K S H S' H' → Rep K H' d v → Qd d S' → Q v H') ∧
  (∀ H' S' c d fs, Go K S H S' H' → S' d = some (.exn fs) → Xd c d S' → E (.ref c) (some d) H') ∧ sp ds S Qd Xd
def dCallX (n : Nat) (sp : SpX) (a : XSD → AD) : XSD → ED := fun w δ S Q => a w δ S fun ds S1 => ds.length = n ∧ sp ds S1 Q fun c d S' => w c d δ S'
section
variable {X : Cx} {e : Expr} {es : List Expr} {pos p : Pos} {α : XSD → AD} {τ : XSD → ED} {n k : Nat} {sp : SpX} {f : Addr} {fd : FuncData} {ps : List Str} {x : Str}
theorem ex_call (F : FnOk X.prog X.w X.K X.mg X.base (L2N.CX X.prog X.w) k f fd ps (liftX X.K n sp)) (hr : Room k X.A) (hm : X.mg x = some (.ref f)) (hk : PySem.W.keepIn X.K (.ref f) = true) (hb : Binds X.K fd ps [])
    (ha : AX X (e :: es) α) (hg : Gl X x := by rfl) (hdb : (x == ("__debug__" : Str)) = false := by decide) (he : starEach (e :: es) X.env = (false, eval e X.env) :: starEach es X.env := by rfl) (hpl : (backTo pos (starEach es X.env)).any (·.1) = false := by rfl) :
    EX X (.Call (.Name x p) (e :: es) [] pos) (dCallX n sp α) := by
  obtain ⟨ta, a1, a2⟩ := ha
  refine ⟨fun W => tCallS (liftX X.K n sp) (WE W) (ta W), fun W tk => pe_callS F hr hg hm hk hb (fun σ => L2N.passAt tk σ) (a1 W tk) hdb he hpl, fun σ H δ S w sl Q R x W k xr h => ?_⟩
  refine a2 σ H δ S w sl _ _ x W (fun vs H1 ds S1 g1 r1 q1 => ?_) xr h
  exact ⟨S1, ds, g1.wd, r1, q1.1, Q, _, fun v H2 d S2 g2 r2 q2 => k v H2 d S2 (g1.trans g2) r2 q2, fun H2 S2 c d fs g2 e2 q2 => xr σ H2 δ S2 c d fs (g1.trans g2) ((sl.im (g1.im w)).im (g2.im g1.wd)) e2 q2, q1.2⟩
theorem ex_tup {x1} (h : AX X es α) : EX X (.Tuple es x1 pos) (fun w => dTup (α w)) := by
  obtain ⟨t, a1, a2⟩ := h
  refine ⟨fun W => _, fun W tk => pe_tup (a1 W tk), fun σ H δ S w sl Q R x W k xr h => ?_⟩
  refine a2 σ H δ S w sl _ _ x W (fun vs H' ds S' g r' q => ?_) xr h
  refine ⟨by rw [← r'.length]; exact q.1, fun p hp => ?_⟩
  have g2 := Go.new (u := .tup vs) g.wd hp
  exact k _ _ (.tup ds) S' (g.trans g2) ⟨p, vs, rfl, SqT.of upd_same, r'.im (g2.im g.wd)⟩ q.2
theorem ex_lst (h : AX X es α) : EX X (.List es pos) (fun w => dNew (dLst (α w))) := by
  obtain ⟨t, a1, a2⟩ := h
  refine ⟨fun W => _, fun W tk => pe_lst (a1 W tk), fun σ H δ S w sl Q R x W k xr h => ?_⟩
  refine a2 σ H δ S w sl _ _ x W (fun vs H' ds S' g r' q => ?_) xr h
  refine ⟨by rw [← r'.length]; exact q.1, fun p hp => ?_⟩
  have g1 := Go.new (u := .lst vs) g.wd hp
  have gg := (g.trans g1).own (g.th p hp) upd_same (g.wd.free hp) (r'.im (g1.im g.wd))
  exact k _ _ (.rf p) _ gg rfl (q.2 p (g.wd.free hp))
end
/-! ### statements -/
section
variable {X : Cx} {a b c e : Expr} {pos p : Pos} {α : XSD → AD} {τ : XSD → ED} {ξ υ : XSD → SD} {st : Stmt} {sts body : List Stmt} {κ : TD} {ι : ID} {γ : GD} {tg iter : Expr}
theorem bx_cons (h1 : SX X st ξ) (h2 : BX X sts υ) : BX X (st :: sts) (fun w => dSeq (ξ w) (υ w)) := by
  obtain ⟨t, a1, a2⟩ := h1
  obtain ⟨u, b1, b2⟩ := h2
  refine ⟨fun W => _, fun W tk => pss_cons (a1 W tk) (b1 W tk), fun σ H δ S w sl F G x W hn hr hb hc xr h => ?_⟩
  refine a2 σ H δ S w sl { F with nx := υ x F } { G with nx := u W G } x W (fun σ' H' δ' S' g sl' q => ?_) hr hb hc xr h
  exact b2 σ' H' δ' S' g.wd sl' F G x W (fun σ2 H2 δ2 S2 g2 => hn σ2 H2 δ2 S2 (g.trans g2)) (fun v H2 d S2 g2 => hr v H2 d S2 (g.trans g2)) (fun σ2 H2 δ2 S2 g2 => hb σ2 H2 δ2 S2 (g.trans g2)) (fun σ2 H2 δ2 S2 g2 => hc σ2 H2 δ2 S2 (g.trans g2)) (xr.go g) q
theorem bx_one (h1 : SX X st ξ) : BX X [st] ξ := by
  obtain ⟨t, a1, a2⟩ := h1
  exact ⟨t, fun W tk => pss_one (a1 W tk), a2⟩
theorem sx_expr (he : EX X e τ) (hs : swapsWith e none pos.line X.env = pure false := by rfl) : SX X (.Expr e pos) (fun w => dDrop (τ w)) := by
  obtain ⟨t, a1, a2⟩ := he
  exact ⟨fun W => _, fun W tk => ps_expr (a1 W tk) hs, fun σ H δ S w sl F G x W hn hr hb hc xr h => a2 σ H δ S w sl _ _ x W (fun v H' d S' g r' q => hn σ H' δ S' g (sl.im (g.im w)) q) xr h⟩
theorem sx_ret (he : EX X e τ) : SX X (.Return (some e) pos) (fun w => dRet (τ w)) := by
  obtain ⟨t, a1, a2⟩ := he
  exact ⟨fun W => _, fun W tk => ps_ret (a1 W tk), fun σ H δ S w sl F G x W hn hr hb hc xr h => a2 σ H δ S w sl _ _ x W (fun v H' d S' g r' q => hr v H' d S' g r' q) xr h⟩
theorem sx_asg (he : EX X e τ) (hg : G X tg γ) (hs : swapsWithSole [tg] e pos.line X.env = pure false := by rfl) (hw : swappedStores [tg] e X.env = pure none := by rfl)
    (h1 : (assignEach [tg] X.env).map (·.2) = [assign tg X.env] := by rfl) : SX X (.Assign [tg] e pos) (fun w => dAsg (τ w) γ) := by
  obtain ⟨t, a1, a2⟩ := he
  obtain ⟨tg', g1, g2⟩ := hg
  refine ⟨fun W => _, fun W tk => ps_asg (a1 W tk) g1 hs hw h1, fun σ H δ S w sl F G x W hn hr hb hc xr h => ?_⟩
  refine a2 σ H δ S w sl _ _ x W (fun v H' d S' g r' q => ?_) xr h
  exact g2 σ H' δ S' v d g.wd (sl.im (g.im w)) r' _ _ (fun σ2 H2 δ2 S2 g' sl2 q2 => hn σ2 H2 δ2 S2 (g.trans g') sl2 q2) q
theorem sx_if {yes no : List Stmt} (hc : T X c κ) (ha : BX X yes ξ) (hb : BX X no υ) : SX X (.If c yes no pos) (fun w => dIfS κ (ξ w) (υ w)) := by
  obtain ⟨tc, c1, c2⟩ := hc
  obtain ⟨ta, a1, a2⟩ := ha
  obtain ⟨tb, b1, b2⟩ := hb
  refine ⟨fun W => _, fun W tk => ps_if c1 (a1 W tk) (b1 W tk), fun σ H δ S w sl F G x W hn hr hb hc xr h => ?_⟩
  refine c2 σ H δ S w sl _ _ (fun t H' S' g q => ?_) h
  cases t with
  | true => exact a2 σ H' δ S' g.wd (sl.im (g.im w)) F G x W (fun σ2 H2 δ2 S2 g2 => hn σ2 H2 δ2 S2 (g.trans g2)) (fun v H2 d S2 g2 => hr v H2 d S2 (g.trans g2)) (fun σ2 H2 δ2 S2 g2 => hb σ2 H2 δ2 S2 (g.trans g2)) (fun σ2 H2 δ2 S2 g2 => hc σ2 H2 δ2 S2 (g.trans g2)) (xr.go g) q
  | false => exact b2 σ H' δ S' g.wd (sl.im (g.im w)) F G x W (fun σ2 H2 δ2 S2 g2 => hn σ2 H2 δ2 S2 (g.trans g2)) (fun v H2 d S2 g2 => hr v H2 d S2 (g.trans g2)) (fun σ2 H2 δ2 S2 g2 => hb σ2 H2 δ2 S2 (g.trans g2)) (fun σ2 H2 δ2 S2 g2 => hc σ2 H2 δ2 S2 (g.trans g2)) (xr.go g) q
theorem sim_whileX {K : PySem.W.Frag} {tc : TT} {tb : WX → TS} (hc : SimT K tc κ) (hb : SimSX K tb ξ) : SimSX K (fun W => tWhile tc (tb W)) (fun w => dWhile κ (ξ w)) := by
  intro σ H δ S w sl F G x W hn hr hbk hct xr h
  obtain ⟨n, h⟩ := h
  refine ⟨fun m σ' H' => ∃ δ' S', Go K S H S' H' ∧ SlOk K H' σ' δ' ∧ dWh κ (ξ x) F m δ' S', ⟨n, δ, S, Go.refl w, sl, h⟩, ?_⟩
  rintro m σ' H' ⟨δ', S', g', sl', q'⟩
  cases m with
  | zero => exact False.elim q'
  | succ m =>
    refine hc σ' H' δ' S' g'.wd sl' _ _ (fun b H2 S2 g2 q2 => ?_) q'
    cases b with
    | true =>
      rw [if_pos rfl] at q2 ⊢
      refine ⟨fun σ3 H3 => ∃ δ3 S3, Go K S H S3 H3 ∧ SlOk K H3 σ3 δ3 ∧ dWh κ (ξ x) F m δ3 S3, fun σ3 H3 q3 => ⟨m, Nat.lt_succ_self m, q3⟩, ?_⟩
      have gg := g'.trans g2
      refine hb σ' H2 δ' S2 g2.wd (sl'.im (g2.im g'.wd)) _ _ x W (fun σ4 H4 δ4 S4 g4 sl4 q4 => ?_) (fun v H4 d S4 g4 r4 q4 => ?_) (fun σ4 H4 δ4 S4 g4 sl4 q4 => ?_) (fun σ4 H4 δ4 S4 g4 sl4 q4 => ?_) (xr.go gg) q2
      · exact ⟨δ4, S4, gg.trans g4, sl4, q4⟩
      · exact hr v H4 d S4 (gg.trans g4) r4 q4
      · exact hn σ4 H4 δ4 S4 (gg.trans g4) sl4 q4
      · exact ⟨δ4, S4, gg.trans g4, sl4, q4⟩
    | false =>
      rw [if_neg Bool.false_ne_true] at q2 ⊢
      exact hn σ' H2 δ' S2 (g'.trans g2) (sl'.im (g2.im g'.wd)) q2
theorem sx_while (hc : T X c κ) (hb : BX X body ξ) (hp : PassesOwn (model X.prog X.w) X.A X.env X.xe) : SX X (.While c body [] pos) (fun w => dWhile κ (ξ w)) := by
  obtain ⟨tc, c1, c2⟩ := hc
  obtain ⟨tb, b1, b2⟩ := hb
  exact ⟨fun W => _, fun W tk => ps_while hp c1 (b1 W tk), sim_whileX c2 b2⟩
theorem sim_forX {K : PySem.W.Frag} {wi : TI} {g : TG} {tb : WX → TS} (hi : SimI K wi ι) (hg : SimG K g γ) (hb : SimSX K tb ξ) : SimSX K (fun W => tFor wi g (tb W)) (fun w => dFor ι γ (ξ w)) := by
  intro σ H δ S w sl F G x W hn hr hbk hct xr h
  refine hi σ H δ S w sl _ _ (fun J H1 S1 xs ck g1 hJ hck q => ?_) h
  refine ⟨fun i m σ' H' => ∃ δ' S', Go K S1 H1 S' H' ∧ SlOk K H' σ' δ' ∧ ck S' ∧ i ≤ xs.length ∧ m = xs.length - i ∧ dLoop γ (ξ x) F ck (xs.drop i) δ' S', ⟨xs.length, δ, S1, Go.refl g1.wd, sl.im (g1.im w), hck, Nat.zero_le _, rfl, by simpa using q⟩, ?_⟩
  rintro i m σ' H' ⟨δ', S', g', sl', ck', hi', rfl, q'⟩
  obtain ⟨j1, j2⟩ := hJ S' H' (g'.kp g1.wd) ck' i
  by_cases hlt : i < xs.length
  · obtain ⟨go, yl⟩ := j1 xs[i] (by simp [hlt])
    rw [drop_cons hlt] at q'
    refine .inr ⟨go, fun σ2 H2 => ∃ δ2 S2, Go K S1 H1 S2 H2 ∧ SlOk K H2 σ2 δ2 ∧ ck S2 ∧ dLoop γ (ξ x) F ck (xs.drop (i + 1)) δ2 S2, fun σ2 H2 ⟨δ2, S2, g2, sl2, ck2, q2⟩ => ⟨xs.length - (i + 1), by omega, δ2, S2, g2, sl2, ck2, hlt, rfl, q2⟩, fun y0 H2 y => ?_⟩
    obtain ⟨g2, rx⟩ := yl y0 H2 y
    refine hg σ' H2 δ' S' y0 xs[i] g2.wd (sl'.im (g2.im g'.wd)) rx _ _ (fun σ3 H3 δ3 S3 g3 sl3 q3 => ?_) q'
    have g13 : Go K S1 H1 S3 H3 := (g'.trans g2).trans g3
    refine hb σ3 H3 δ3 S3 g3.wd sl3 _ _ x W (fun σ4 H4 δ4 S4 g4 sl4 q4 => ?_) (fun v H4 d S4 g4 r4 q4 => ?_) (fun σ4 H4 δ4 S4 g4 sl4 q4 => ?_) (fun σ4 H4 δ4 S4 g4 sl4 q4 => ?_) (xr.go (g1.trans g13)) q3
    · exact ⟨δ4, S4, g13.trans g4, sl4, q4.1, q4.2⟩
    · exact hr v H4 d S4 (g1.trans (g13.trans g4)) r4 q4
    · exact hn σ4 H4 δ4 S4 (g1.trans (g13.trans g4)) sl4 q4
    · exact ⟨δ4, S4, g13.trans g4, sl4, q4.1, q4.2⟩
  · have e : xs.drop i = [] := List.drop_eq_nil_of_le (by omega)
    rw [e] at q'
    exact .inl ⟨j2 (by omega), hn σ' H' δ' S' (g1.trans g') sl' q'⟩
theorem sx_for (hi : I X tg iter ι) (hg : G X tg γ) (hb : BX X body ξ) (hp : PassesOwn (model X.prog X.w) X.A X.env X.xe) (hc : X.calm = true := by rfl) (hs : ∀ x, foldedSetIterable iter X.env x = pure x := by intro _; rfl) :
    SX X (.For tg iter body [] pos) (fun w => dFor ι γ (ξ w)) := by
  obtain ⟨ti, i1, i2⟩ := hi
  obtain ⟨g', g1, g2⟩ := hg
  obtain ⟨tb, b1, b2⟩ := hb
  exact ⟨fun W => _, fun W tk => ps_for hp hc i1 g1 (b1 W tk) hs, sim_forX i2 g2 b2⟩
end
/-! ### raise -/
/-- an expression that makes an exception: its class, its dict -/
abbrev MkD := Sl → Sh → (Addr → Addr → Sh → Prop) → Prop
def SimMk (K : PySem.W.Frag) (t : L2.St → Hp → XK → Prop) (τ : MkD) : Prop := ∀ σ H δ S, Wd K H S → SlOk K H σ δ → ∀ (Q : Addr → Addr → Sh → Prop) (R : XK), (∀ H' S' c d fs, Go K S H S' H' → S' d = some (.exn fs) → Q c d S' → R (.ref c) (some d) H') → τ δ S Q → t σ H R
def Mx (X : Cx) (e : Expr) (τ : MkD) : Prop := ∃ t, PMk X e t ∧ SimMk X.K t τ
def dRaise (m : MkD) : XSD → SD := fun w _ δ S => m δ S fun c d S' => w c d δ S'
theorem sx_raise {X : Cx} {e : Expr} {m : MkD} {pos : Pos} (he : Mx X e m) (hc : X.calm = true := by rfl) : SX X (.Raise (some e) none pos) (dRaise m) := by
  obtain ⟨t, h1, h2⟩ := he
  exact ⟨fun W => _, fun W tk => ps_raise hc tk h1, fun σ H δ S w sl F G x W hn hr hb hc' xr h => h2 σ H δ S w sl _ _ (fun H' S' c d fs g e q => xr σ H' δ S' c d fs g (sl.im (g.im w)) e q) h⟩
/-! ### a def that may raise -/
def endX (Xd : XD) : XSD := fun c d _ S => ∃ S', Sle S' S ∧ (∃ fs, S' d = some (.exn fs)) ∧ Xd c d S'
section
variable {P : Program} {w : World} {K : PySem.W.Frag} {mg : Str → Option Value} {base : Heap}
abbrev cxR (P : Program) (w : World) (K : PySem.W.Frag) (mg : Str → Option Value) (base : Heap) (N : List Str) (qual : Str) (st : Stmt) (f : Addr) (cdv : Value) (A : Around) (outer : List Env) (s : Shared) (H : Hp) (E : XK) : Cx :=
  cxOf (L2N.CX P w) P w K mg base N qual (defScope st) f cdv A outer s H E
theorem passR {N : List Str} {qual : Str} {st : Stmt} {f : Addr} {cdv : Value} {A : Around} {outer : List Env} {s : Shared} {H : Hp} {E : XK} : PassesOwn (model P w) (cxR P w K mg base N qual st f cdv A outer s H E).A (cxR P w K mg base N qual st f cdv A outer s H E).env (cxR P w K mg base N qual st f cdv A outer s H E).xe :=
  L2.passes_of (X := cxR P w K mg base N qual st f cdv A outer s H E) rfl
theorem fn_liftX {x qual : Str} {st : Stmt} {f : Addr} {fd : FuncData} {N ps : List Str} {k : Nat} {sp : SpX} {τ : XSD → SD} (F : Fun K x qual st f fd) (Sc : FnScope N ps (defScope st))
    (hd : ∀ (cdv : Value) (A : Around) (outer : List Env) (s : Shared) (H : Hp) (E : XK), Room k (A.deeper (envOfC qual (defScope st) s.heap.objs.size f cdv)) → BX (cxOf (L2N.CX P w) P w K mg base N qual (defScope st) f cdv A outer s H E) (defBody st) τ)
    (hq : ∀ ds S Q Xd, ds.length = ps.length → sp ds S Q Xd → τ (endX Xd) (endsD Q) (startD N ds) S) : FnOk P w K mg base (L2N.CX P w) (k + 1) f fd ps (liftX K ps.length sp) := by
  obtain ⟨oc, od, kV, doc, pm, an, cdv, ct, osl, e, lk, hcd⟩ := F.ex
  subst e
  refine fn_of lk hcd Sc (fun vs H Q E h => ?_) fun A outer s H vs Q E hr h => ?_
  · obtain ⟨S, ds, _, r, hl, _⟩ := h
    rw [← r.length, hl]
  · obtain ⟨S, ds, wd, r, hl, Qd, Xd, hk, hx, hs⟩ := h
    obtain ⟨t, h1, h2⟩ := hd cdv A outer s H E hr
    refine ⟨_, h1 (fun cls d _ H => E cls d H) (L2N.takes_of rfl rfl rfl rfl), h2 _ H _ S wd (start_ok r) (endsD Qd) _ (endX Xd) _ (fun σ' H' δ' S' g _ q => ?_) (fun v H' d S' g r' q => ?_) (fun _ _ _ _ _ _ q => q.elim) (fun _ _ _ _ _ _ q => q.elim)
      (fun σ' H' δ' S' c d fs g _ e q => ?_) (hq ds S Qd Xd hl hs)⟩
    · obtain ⟨S2, le, q⟩ := q
      exact hk _ H' .non S2 (g.le le) rfl q
    · obtain ⟨S2, le, q⟩ := q
      exact hk _ H' d S2 (g.le le) r' q
    · obtain ⟨S2, le, ⟨fs2, e2⟩, q⟩ := q
      exact hx H' S2 c d fs2 (g.le le) e2 q
/-- a weaker promise -/
theorem fn_impX {k : Nat} {f : Addr} {fd : FuncData} {ps : List Str} {n : Nat} {sp sp' : SpX} {CX : CXT} (F : FnOk P w K mg base CX k f fd ps (liftX K n sp)) (h : ∀ ds S Q E, sp' ds S Q E → sp ds S Q E) : FnOk P w K mg base CX k f fd ps (liftX K n sp') :=
  F.imp fun vs H Q E ⟨S, ds, wd, r, hl, Qd, Xd, hk, hx, hs⟩ => ⟨S, ds, wd, r, hl, Qd, Xd, hk, hx, h _ _ _ _ hs⟩
/-- what never raises there -/
theorem fn_calm {k : Nat} {f : Addr} {fd : FuncData} {ps : List Str} {n : Nat} {sp : SpX} (F : FnOk P w K mg base (L2N.CX P w) k f fd ps (liftX K n sp)) : FnOk P w K mg base CX0 k f fd ps (lift K n fun ds S Q => sp ds S Q fun _ _ _ => False) := by
  have key : ∀ vs H Q (E : XK), lift K n (fun ds S Q => sp ds S Q fun _ _ _ => False) vs H Q E → liftX K n sp vs H Q (fun _ _ _ => False) := fun vs H Q E ⟨S, ds, wd, r, hl, Qd, hk, hs⟩ => ⟨S, ds, wd, r, hl, Qd, _, hk, fun _ _ _ _ _ _ _ z => z.elim, hs⟩
  refine ⟨fun vs H Q E z => F.len vs H Q _ (key vs H Q E z), fun A outer s H args us vs Q E k1 hr he hb hv z => codeAny_mono (F.run A outer s H args us vs Q _ k1 hr he hb hv (key vs H Q E z)) fun r s' hz => ?_⟩
  rcases r with er | fl
  · obtain ⟨_, _, _, _, _, _, _, _, _, _, _, _, z⟩ := hz
    exact z.elim
  · cases fl <;> first | exact hz | exact hz.elim
theorem fn_noneX {k : Nat} {f : Addr} {fd : FuncData} {ps : List Str} {n : Nat} {CX : CXT} (sp : SpX) (h : ∀ ds S Q E, ¬ sp ds S Q E) : FnOk P w K mg base CX k f fd ps (liftX K n sp) :=
  ⟨fun _ _ _ _ ⟨_, _, _, _, _, _, _, _, _, hs⟩ => (h _ _ _ _ hs).elim, fun _ _ _ _ _ _ _ _ _ _ _ _ _ _ ⟨_, _, _, _, _, _, _, _, _, hs⟩ => (h _ _ _ _ hs).elim⟩
end
end DL

set_option Elab.async false
set_option linter.all false
set_option maxRecDepth 100000
set_option maxHeartbeats 2000000
namespace DL
open PySem PySem.Spec L2 PyProof.Rows RZ NdefX
/-! ### try -/
def goneD (F : EndsD) : Option Nat → EndsD
  | none => F
  | some i => { nx := fun δ S => F.nx (δ.set i none) S, rt := F.rt, bk := fun δ S => F.bk (δ.set i none) S, ct := fun δ S => F.ct (δ.set i none) S }
def setD (δ : Sl) (a : Addr) : Option Nat → Sl
  | none => δ
  | some i => δ.set i (some (.rf a))
/-- the first clause alone is read: it takes the classes ys -/
def dTry (ys : List Addr) (oi : Option Nat) (su : Addr → Addr → Addr → SD) (tb : XSD → SD) : XSD → SD := fun _ F δ S =>
  tb (fun c d δ' S' => c ∈ ys ∧ ∀ a, S' a = none → su a c d (goneD F oi) (setD δ' a oi) S') F δ S
theorem SlOk.setN {K : PySem.W.Frag} {H : Hp} {σ : L2.St} {δ : Sl} (h : SlOk K H σ δ) (i : Nat) : SlOk K H (σ.set i none) (δ.set i none) := by
  refine ⟨by rw [List.length_set, List.length_set]; exact h.1, fun j e q => ?_⟩
  by_cases z : i = j
  · subst z
    rw [List.getElem?_set_self'] at q
    cases hq : δ[i]? with
    | none => rw [hq] at q; cases q
    | some x => rw [hq] at q; cases q
  · rw [List.getElem?_set_ne z] at q ⊢
    exact h.2 j e q
def tSu (K : PySem.W.Frag) (ys : List Addr) (su : Addr → Addr → Addr → SD) : Addr → Value → Option Addr → TS := fun a cls d G σ H => ∃ c dd, cls = .ref c ∧ d = some dd ∧ c ∈ ys ∧ canS K (su a c dd) G σ H
/-- a suite of the first clause -/
def SuD (X : Cx) (ys : List Addr) (suite : List Stmt) (su : Addr → Addr → Addr → SD) : Prop :=
  ∀ (a : Addr) (oe : Obj) (c d : Addr) (pn : Pins), c ∈ ys → L2N.Zn (.ref c) (some d) oe → (∃ vs, oe.data = .fields vs) → B (X.suite a ((a, oe) :: pn)) suite (su a c d)
section
variable {X : Cx} {body suite sts : List Stmt} {b₀ : Stmt} {hds : List ExceptHandler} {l : List Hdl} {pos pos' np : Pos} {τ : XSD → SD} {ys : List Addr} {su : Addr → Addr → Addr → SD} {x n : Str} {cv : Value} {i : Nat}
theorem suOk_of (h : SuD X ys suite su) : SuOk X suite (tSu X.K ys su) := fun a oe cls d pn hz hf => ⟨fun k0 I ⟨c, dd, e1, e2, hc, z⟩ => by
  subst e1 e2
  exact (h a oe c dd pn hc hz hf).can.run k0 I z⟩
theorem suOk_never : SuOk X suite (fun _ _ _ _ _ _ => False) := fun a oe cls d pn hz hf => ⟨fun k0 I z => z.elim⟩
theorem sim_try {oi : Option Nat} (hm : ∀ c ∈ ys, PySem.W.exmOne X.K (.ref c) cv = some true) : SimSX X.K (fun W D σ H => canSX X.K τ (wAll X.K W D ((cv, oi, tSu X.K ys su) :: l)) D σ H) (dTry ys oi su τ) := by
  intro σ H δ S w sl F G x W hn hr hb hc xr h
  refine ⟨δ, S, F, _, w, sl, hn, hr, hb, hc, fun σ' H' δ' S' c d fs g sl' e q => ?_, h⟩
  refine ⟨true, hm c q.1, fun _ a na => ⟨c, d, rfl, rfl, q.1, setD δ' a oi, S', goneD F oi, g.wd, ?_, ?_, ?_, ?_, ?_, q.2 a (g.wd.free na)⟩, fun z => by cases z⟩
  · cases oi with
    | none => exact sl'
    | some i => exact sl'.set i (d := .rf a) rfl
  · cases oi with
    | none => exact fun σ2 H2 δ2 S2 g2 => hn σ2 H2 δ2 S2 (g.trans g2)
    | some i => exact fun σ2 H2 δ2 S2 g2 s2 => hn _ H2 _ S2 (g.trans g2) (s2.setN i)
  · cases oi with
    | none => exact fun v H2 d S2 g2 => hr v H2 d S2 (g.trans g2)
    | some i => exact fun v H2 d S2 g2 => hr v H2 d S2 (g.trans g2)
  · cases oi with
    | none => exact fun σ2 H2 δ2 S2 g2 => hb σ2 H2 δ2 S2 (g.trans g2)
    | some i => exact fun σ2 H2 δ2 S2 g2 s2 => hb _ H2 _ S2 (g.trans g2) (s2.setN i)
  · cases oi with
    | none => exact fun σ2 H2 δ2 S2 g2 => hc σ2 H2 δ2 S2 (g.trans g2)
    | some i => exact fun σ2 H2 δ2 S2 g2 s2 => hc _ H2 _ S2 (g.trans g2) (s2.setN i)
/-- try: .. except x as n: .. (further clauses are not read) -/
theorem sx_tryAs (i : Nat) (hN : X.N.Nodup) (hb : ∀ pn xe, BX (X.tr pn xe) body τ) (hcl : Names X x cv) (hm : ∀ c ∈ ys, PySem.W.exmOne X.K (.ref c) cv = some true) (hsu : SuD X ys (b₀ :: suite) su) {l : List Hdl} (hr : HdsOk X hds l) (hs : X.stack = X.env :: X.outer := by rfl)
    (hf : X.env.frame = some X.env.locals := by rfl) (hi : X.N[i]? = some n := by rfl) (hln : X.env.kindOf n = some .local := by rfl) :
    SX X (.Try body (.ExceptHandler (some (.Name x np)) (some n) (b₀ :: suite) pos' :: hds) [] [] pos) (dTry ys (some i) su τ) :=
  ⟨_, fun W tk => ps_try hs hf hN tk (fun W' pn xe tk' => (hb pn xe).can tk') (.as hcl hi hln (suOk_of hsu) hr), sim_try hm⟩
theorem sx_try (hN : X.N.Nodup) (hb : ∀ pn xe, BX (X.tr pn xe) body τ) (hcl : Names X x cv) (hm : ∀ c ∈ ys, PySem.W.exmOne X.K (.ref c) cv = some true) (hsu : SuD X ys (b₀ :: suite) su) {l : List Hdl} (hr : HdsOk X hds l) (hs : X.stack = X.env :: X.outer := by rfl)
    (hf : X.env.frame = some X.env.locals := by rfl) :
    SX X (.Try body (.ExceptHandler (some (.Name x np)) none (b₀ :: suite) pos' :: hds) [] [] pos) (dTry ys none su τ) :=
  ⟨_, fun W tk => ps_try hs hf hN tk (fun W' pn xe tk' => (hb pn xe).can tk') (.only hcl (suOk_of hsu) hr), sim_try hm⟩
theorem hds_one (hcl : Names X x cv) : HdsOk X [.ExceptHandler (some (.Name x np)) none (b₀ :: suite) pos'] [(cv, none, fun _ _ _ _ _ _ => False)] := .only hcl suOk_never .nil
/-- a statement that lets nothing out (its wish is not asked) -/
theorem takes_never : L2N.Takes X (fun _ _ _ _ => False) := fun _ _ ⟨_, _, _, _, _, _, _, _, _, _, _, _, _, _, _, _, z⟩ => z.elim
theorem s_ofX {st : Stmt} {ξ : XSD → SD} (h : SX X st ξ) : S1 X st (ξ fun _ _ _ _ => False) := by
  obtain ⟨t, h1, h2⟩ := h
  exact ⟨_, h1 _ takes_never, fun σ H δ S w sl F G a b c d z => h2 σ H δ S w sl F G _ _ a b c d (fun _ _ _ _ _ _ _ _ _ _ y => y.elim) z⟩
theorem e_ofX {e : Expr} {ξ : XSD → ED} (h : EX X e ξ) : E X e (ξ fun _ _ _ _ => False) := by
  obtain ⟨t, h1, h2⟩ := h
  exact ⟨_, h1 _ takes_never, fun σ H δ S w sl Q R k z => h2 σ H δ S w sl Q R _ _ k (fun _ _ _ _ _ _ _ _ _ _ y => y.elim) z⟩
end
/-! ### in a suite: the exception's fields, isinstance -/
section
variable {X : Cx} {a c d : Addr} {oe : Obj} {pn : Pins} {e : Expr} {τ : ED} {pos p q0 : Pos} {f : Str}
theorem pe_xf {cls : Value} {d : Option Addr} {te : TE} {C : Addr} (T : XfC X.K C) (hno : PySem.W.findIn X.K (.ref C) f = some none) (hz : Zc cls d oe) (hf : ∃ vs, oe.data = .fields vs) (he : PE (X.suite a ((a, oe) :: pn)) e te) (hb : attributeBase e f X.env (eval e X.env) = eval e X.env := by rfl) :
    PE (X.suite a ((a, oe) :: pn)) (.Attribute e f pos) (tXf a cls d C f te) :=
  ⟨fun {p s σ H Q} k I h => by
    refine attr_of hb (tn k (he.run k I h) fun u s1 k1 hh => ?_)
    obtain ⟨x, H1, I1, rx, ex, ec, dd, fs, v, ed, ea, l, q⟩ := hh
    subst ex
    obtain rfl : u = Value.ref a := rx
    subst ec
    subst ed
    obtain ⟨ha, _⟩ := I1.pin (a, oe) (List.mem_append_left _ List.mem_cons_self)
    obtain ⟨vs, hd⟩ := hf
    have hx : ObjOk X.prog X.w H1 s1.heap dd (.xd fs) := I1.hok dd _ ea
    obtain ⟨mA, hns, hr⟩ := hx
    obtain ⟨od, ho, hl⟩ := lookIn_ns hns
    obtain ⟨u, hu, ru⟩ := RelO.some_of (v := v) (o := mA f) (by rw [← l]; exact hr f)
    have J : PySem.W.InstAt s1.heap a oe C (some od) := ⟨ha, hz.1, by unfold PySem.W.notCls; rw [hd] <;> rfl, by rw [hz.2]; exact ho⟩
    exact HandSPX.exc_get I1.kIn J T.ga T.gg T.exC (PySem.W.findObj_own T.hdC hno rfl (by rw [hl, hu])) (handed_of ru) ⟨v, H1, I1.tok _, ru, q⟩⟩
def dXF (a d : Addr) (f : Str) (τ : ED) : ED := fun δ S Q => τ δ S fun x S1 => match x with
  | .rf p => p = a ∧ (match S1 d with | some (.exn fs) => (match fs.lookup f with | some v => Q v S1 | none => False) | _ => False)
  | _ => False
theorem e_xf (T : XfC X.K c) (hno : PySem.W.findIn X.K (.ref c) f = some none) (hz : L2N.Zn (.ref c) (some d) oe) (hf : ∃ vs, oe.data = .fields vs) (he : E (X.suite a ((a, oe) :: pn)) e τ) (hb : attributeBase e f X.env (eval e X.env) = eval e X.env := by rfl) :
    E (X.suite a ((a, oe) :: pn)) (.Attribute e f pos) (dXF a d f τ) := by
  obtain ⟨t, h1, h2⟩ := he
  refine ⟨_, pe_xf T hno hz.zc hf h1 hb, fun σ H δ S w sl Q R k h => ?_⟩
  refine h2 σ H δ S w sl _ _ (fun v H' x S' g r q => ?_) h
  cases x <;> first | exact q.elim | skip
  obtain ⟨rfl, q⟩ := q
  cases es : S' d with
  | none => simp only [es] at q
  | some o =>
    cases o <;> simp only [es] at q <;> try exact q.elim
    rename_i fs
    cases el : fs.lookup f with
    | none => rw [el] at q; exact q.elim
    | some y =>
      rw [el] at q
      obtain ⟨ho, e1, fv, rfl, rf⟩ := g.wd d _ es
      obtain ⟨u, lu, ru⟩ := RepF.lookup rf el
      exact ⟨r, rfl, d, fv, u, rfl, e1, lu, k u H' y S' g ru q⟩
/-- isinstance(e, c), e the caught exception: known ahead -/
def dIsX (a d : Addr) (b : Bool) (τ : ED) : ED := fun δ S Q => τ δ S fun x S1 => match x with | .rf p => p = a ∧ (match S1 d with | some (.exn _) => True | _ => False) ∧ Q (.bl b) S1 | _ => False
theorem e_isX {x2 : Str} {cv : Value} {b : Bool} (T : ExcC X.K c) (hz : L2N.Zn (.ref c) (some d) oe) (hf : ∃ vs, oe.data = .fields vs) (hk : PySem.W.kitOne X.K (.ref c) cv = some b) (hm : X.mg "isinstance" = none) (he : E (X.suite a ((a, oe) :: pn)) e τ)
    (hc : ∃ v : V, (∀ u, RelV v u → u = cv) ∧ PE (X.suite a ((a, oe) :: pn)) (.Name x2 q0) (tC v)) (hg : Gl X "isinstance" := by rfl)
    (hs1 : starEach [e, .Name x2 q0] X.env = (false, eval e X.env) :: starEach [.Name x2 q0] X.env := by rfl) (hpl : (backTo pos (starEach [.Name x2 q0] X.env)).any (·.1) = false := by rfl) (hs2 : starEach [.Name x2 q0] X.env = (false, eval (.Name x2 q0) X.env) :: starEach [] X.env := by rfl) :
    E (X.suite a ((a, oe) :: pn)) (.Call (.Name "isinstance" p) [e, .Name x2 q0] [] pos) (dIsX a d b τ) := by
  obtain ⟨t, h1, h2⟩ := he
  obtain ⟨v, hv, hpe⟩ := hc
  have hcall : CallR (X.suite a ((a, oe) :: pn)) (.builtin "isinstance") (fun xs H Q => xs = [.ref a, v] ∧ (∃ fs, H d = some (.xd fs)) ∧ Q (.bl b) H) := by
    intro pins s σ H xs us Q I r h
    obtain ⟨rfl, ⟨fs, ed⟩, q⟩ := h
    cases r with
    | cons rx rr =>
      cases rr with
      | cons rt rr =>
        cases rr
        cases rx
        have ec := hv _ rt
        subst ec
        obtain ⟨hget, _⟩ := I.pin (a, oe) (List.mem_append.mpr (.inl List.mem_cons_self))
        obtain ⟨vs, hv2⟩ := hf
        have J : ∃ od, PySem.W.InstAt s.heap a oe c od := by
          have hx : ObjOk X.prog X.w H s.heap d (.xd fs) := I.hok d _ ed
          obtain ⟨mA, hns, hr⟩ := hx
          obtain ⟨od, ho, hl⟩ := lookIn_ns hns
          exact ⟨some od, hget, hz.1, by unfold PySem.W.notCls; rw [hv2] <;> rfl, by rw [hz.2.1]; exact ho⟩
        obtain ⟨od, J⟩ := J
        exact PySem.W.kia_one (PySem.W.kitx_exc (by obtain ⟨cd, hc, _⟩ := PySem.W.any_some T.hd; rw [hc]; rfl) T.hg T.hk T.hs T.ha T.hn T.ht T.hm) I.kIn J hk (fun z => nomatch z) fun tk => ⟨.bl b, H, I.kept (t' := tk) fun _ _ z => z, rfl, q⟩
  refine ⟨_, pe_callB hcall hg hm (by decide +kernel) (pa_cons h1 (pa_cons hpe pa_nil hs2) hs1) (by decide) (by decide) hs1 hpl, fun σ H δ S w sl Q R k h => ?_⟩
  refine h2 σ H δ S w sl _ _ (fun u H' x S' g r q => ?_) h
  cases x <;> first | exact q.elim | skip
  obtain ⟨rfl, qd, q⟩ := q
  cases r
  refine ⟨rfl, ?_, k _ H' (.bl b) S' g rfl q⟩
  cases es : S' d with
  | none => simp only [es] at qd
  | some o =>
    cases o <;> simp only [es] at qd
    obtain ⟨ho, e1, fv, rfl, rf⟩ := g.wd d _ es
    exact ⟨fv, e1⟩
end
end DL

set_option Elab.async false
set_option linter.all false
set_option maxRecDepth 100000
set_option maxHeartbeats 2000000
namespace DL
open PySem PySem.Spec L2 DK PyProof.Rows RZ NdefX
/-! ### own exceptions made -/
abbrev Fin1 := Hp → Addr → Addr → List V → Hp
def spI (K : PySem.W.Frag) (c : Addr) (N : List Str) (n : Nat) (α : AD) (fin : Fin1) : Sp := fun vs H Q _ => ∃ (a : Addr) (vs' : List V) (S : Sh) (ds : List D) (R : Sh → Prop), vs = .ref a :: vs' ∧ vs.length = n ∧ H a = some (exo a c none) ∧ Wd K H S ∧ Reps K H ds vs' ∧
  α (startD N (.rf a :: ds)) S (fun xs S' => xs.length ≤ 1000 ∧ R S') ∧ ∀ H1 S', Go K S H S' H1 → R S' → ∀ d, H1 d = none → d ≠ a → Q .non (fin H1 a d vs')
def fin1 (c : Addr) (f1 : Str) : Fin1 := fun H a d vs => match vs with
  | [y] => upd (upd H d (exd d [(f1, y)])) a (exo a c (some d))
  | _ => H
def fin2 (c : Addr) (f1 f2 : Str) : Fin1 := fun H a d vs => match vs with
  | [y, z] => upd (upd (upd H d (exd d [(f1, y)])) a (exo a c (some d))) d (exd d [(f2, z), (f1, y)])
  | _ => H
theorem startF_eq {N : List Str} {vs : List V} (h : vs.length < N.length) : startF N vs [none] = L2.start N vs := by
  unfold startF L2.start
  have : N.length - vs.length = 1 + (N.length - vs.length - ([none] : List (Option V)).length) := by simp only [List.length_cons, List.length_nil]; omega
  rw [this, Nat.add_comm 1, List.replicate_succ]
  simp
abbrev ostSt (s0 f x : Str) (q1 q2 q3 q4 : Pos) : Stmt := .Assign [.Attribute (.Name s0 q1) f q2] (.Name x q3) q4
section
variable {P : Program} {w : World} {K : PySem.W.Frag} {mg : Str → Option Value} {base : Heap} {N ps : List Str} {f c cc ca : Addr} {α : AD}
  {name qual : Str} {params : Arguments} {scope : Scope} {dV kV doc pm ct oc : Value} {an od : Option Addr} {osl : Array (Option Value)} {p0 p1 p2 p3 p4 q1 q2 q3 q4 r1 r2 r3 r4 : Pos} {e : Expr} {s0 f1 f2 x1 x2 : Str}
theorem fn_ini1 (lk : K.lookup f = some ⟨oc, od, .func (PySem.W.ksFn name qual params [supSt p0 p1 p2 p3 p4 e, ostSt s0 f1 x1 q1 q2 q3 q4] scope dV kV doc pm an (.ref ca) ct cc), osl⟩) (hcd : PySem.W.codeIn K (.ref ca) qual = true)
    (S : NScope N [s0, x1] ["__class__"] scope) (sc : SupC P K c cc ca)
    (hself : ∃ ar, (params.posonlyargs ++ params.args).head? = some ar ∧ s0 = ar.arg) (hsup : mg "super" = none) (hks : scope.names.lookup ("super" : Str) = some .globalImplicit)
    (hst : ∀ env, starEach [e] env = [(false, eval e env)])
    (hcall : ∀ env : Env, ∃ pl : Sem Bool, eval (.Call (.Attribute (.Call (.Name "super" p0) [] [] p1) "__init__" p2) [e] [] p3) env = (do
      let ov ← attributeBase (.Call (.Name "super" p0) [] [] p1) "__init__" env (eval (.Call (.Name "super" p0) [] [] p1) env)
      standAt p2.atName
      let (f, first) ← holding [ov] (getMethod ov "__init__" pl)
      callWith p3 f first (backTo p3 (starEach [e] env)) []))
    (no1 : PySem.W.findIn K (.ref c) f1 = some none) (hN : N = [s0, x1, "__class__"]) (hd : ∀ x ∈ [s0, x1], (x == ("__debug__" : Str)) = false ∧ (x == ("__classdict__" : Str)) = false)
    (hα : ∀ (A : Around) (outer : List Env) (s : Shared) (H : Hp) (E : XK), DL.A (ncx CX0 P w K mg base N (supF name qual params [supSt p0 p1 p2 p3 p4 e, ostSt s0 f1 x1 q1 q2 q3 q4] scope cc ca) f A outer s H E) [e] α) :
    FnOk P w K mg base CX0 1 f (PySem.W.ksFn name qual params [supSt p0 p1 p2 p3 p4 e, ostSt s0 f1 x1 q1 q2 q3 q4] scope dV kV doc pm an (.ref ca) ct cc) [s0, x1] (spI K c N 2 α (fin1 c f1)) := by
  refine fn_init (k := 0) lk hcd S sc (by obtain ⟨ar, h1, h2⟩ := hself; exact ⟨ar, h1, by rw [h2]; rfl⟩) hsup hks hst hcall (fun vs H Q E h => by obtain ⟨_, _, _, _, _, _, h, _⟩ := h; exact h) fun A outer s H vs Q E hr h => ?_
  obtain ⟨a, vs', Sh', ds, R, rfl, hl, ea, wd, rp, hα0, hfin⟩ := h
  obtain ⟨ta, a1, a2⟩ := hα A outer s H E
  obtain ⟨y, rfl⟩ : ∃ y, vs' = [y] := by
    rcases vs' with _ | ⟨y, _ | ⟨z, r⟩⟩
    · simp at hl
    · exact ⟨y, rfl⟩
    · simp at hl
  have hNl : ([V.ref a, y] : List V).length < N.length := by rw [hN]; simp
  have hσ : startF N [.ref a, y] [none] = [some (.ref a), some y, none] := by rw [hN]; rfl
  have vis : ∀ x ∈ [s0, x1], Vis (ncx CX0 P w K mg base N (supF name qual params [supSt p0 p1 p2 p3 p4 e, ostSt s0 f1 x1 q1 q2 q3 q4] scope cc ca) f A outer s H E).env.scope x := fun x hx => .inl (S.par x hx)
  refine ⟨ta, _, a, [y], rfl, ea, a1, pss_one (ps_ost (pe_var (i := 0) (by show N[0]? = _; rw [hN]; rfl) (vis s0 (by simp)) (hd s0 (by simp)).1 (hd s0 (by simp)).2) (pe_var (i := 1) (by show N[1]? = _; rw [hN]; rfl) (vis x1 (by simp)) (hd x1 (by simp)).1 (hd x1 (by simp)).2)), ?_⟩
  have sl : SlOk K H (startF N [.ref a, y] [none]) (startD N (.rf a :: ds)) := by rw [startF_eq hNl]; exact start_ok ⟨_, _, rfl, rfl, rp⟩
  refine a2 _ H _ Sh' wd sl _ _ (fun xs H1 dx S' g r q => ?_) hα0
  have eaH : H1 a = some (exo a c none) := g.ext a _ ea (by
    have : (exo a c none) = HO.ext _ := rfl
    rw [this] at ea
    exact wd.noset ea)
  rw [hσ]
  refine ⟨by rw [← r.length]; exact q.1, eaH, y, rfl, .ref a, rfl, a, c, rfl, sc.oex, no1, .inl ⟨eaH, fun d hd' hda => ?_⟩⟩
  exact hfin H1 S' g q.2 d hd' hda
theorem fn_ini2 (lk : K.lookup f = some ⟨oc, od, .func (PySem.W.ksFn name qual params [supSt p0 p1 p2 p3 p4 e, ostSt s0 f1 x1 q1 q2 q3 q4, ostSt s0 f2 x2 r1 r2 r3 r4] scope dV kV doc pm an (.ref ca) ct cc), osl⟩) (hcd : PySem.W.codeIn K (.ref ca) qual = true)
    (S : NScope N [s0, x1, x2] ["__class__"] scope) (sc : SupC P K c cc ca)
    (hself : ∃ ar, (params.posonlyargs ++ params.args).head? = some ar ∧ s0 = ar.arg) (hsup : mg "super" = none) (hks : scope.names.lookup ("super" : Str) = some .globalImplicit)
    (hst : ∀ env, starEach [e] env = [(false, eval e env)])
    (hcall : ∀ env : Env, ∃ pl : Sem Bool, eval (.Call (.Attribute (.Call (.Name "super" p0) [] [] p1) "__init__" p2) [e] [] p3) env = (do
      let ov ← attributeBase (.Call (.Name "super" p0) [] [] p1) "__init__" env (eval (.Call (.Name "super" p0) [] [] p1) env)
      standAt p2.atName
      let (f, first) ← holding [ov] (getMethod ov "__init__" pl)
      callWith p3 f first (backTo p3 (starEach [e] env)) []))
    (no1 : PySem.W.findIn K (.ref c) f1 = some none) (no2 : PySem.W.findIn K (.ref c) f2 = some none) (hN : N = [s0, x1, x2, "__class__"]) (hd : ∀ x ∈ [s0, x1, x2], (x == ("__debug__" : Str)) = false ∧ (x == ("__classdict__" : Str)) = false)
    (hα : ∀ (A : Around) (outer : List Env) (s : Shared) (H : Hp) (E : XK), DL.A (ncx CX0 P w K mg base N (supF name qual params [supSt p0 p1 p2 p3 p4 e, ostSt s0 f1 x1 q1 q2 q3 q4, ostSt s0 f2 x2 r1 r2 r3 r4] scope cc ca) f A outer s H E) [e] α) :
    FnOk P w K mg base CX0 1 f (PySem.W.ksFn name qual params [supSt p0 p1 p2 p3 p4 e, ostSt s0 f1 x1 q1 q2 q3 q4, ostSt s0 f2 x2 r1 r2 r3 r4] scope dV kV doc pm an (.ref ca) ct cc) [s0, x1, x2] (spI K c N 3 α (fin2 c f1 f2)) := by
  refine fn_init (k := 0) lk hcd S sc (by obtain ⟨ar, h1, h2⟩ := hself; exact ⟨ar, h1, by rw [h2]; rfl⟩) hsup hks hst hcall (fun vs H Q E h => by obtain ⟨_, _, _, _, _, _, h, _⟩ := h; exact h) fun A outer s H vs Q E hr h => ?_
  obtain ⟨a, vs', Sh', ds, R, rfl, hl, ea, wd, rp, hα0, hfin⟩ := h
  obtain ⟨ta, a1, a2⟩ := hα A outer s H E
  obtain ⟨y, z, rfl⟩ : ∃ y z, vs' = [y, z] := by
    rcases vs' with _ | ⟨y, _ | ⟨z, _ | ⟨u, r⟩⟩⟩
    · simp at hl
    · simp at hl
    · exact ⟨y, z, rfl⟩
    · simp at hl
  have hNl : ([V.ref a, y, z] : List V).length < N.length := by rw [hN]; simp
  have hσ : startF N [.ref a, y, z] [none] = [some (.ref a), some y, some z, none] := by rw [hN]; rfl
  have vis : ∀ x ∈ [s0, x1, x2], Vis (ncx CX0 P w K mg base N (supF name qual params [supSt p0 p1 p2 p3 p4 e, ostSt s0 f1 x1 q1 q2 q3 q4, ostSt s0 f2 x2 r1 r2 r3 r4] scope cc ca) f A outer s H E).env.scope x := fun x hx => .inl (S.par x hx)
  refine ⟨ta, _, a, [y, z], rfl, ea, a1, pss_cons (ps_ost (pe_var (i := 0) (by show N[0]? = _; rw [hN]; rfl) (vis s0 (by simp)) (hd s0 (by simp)).1 (hd s0 (by simp)).2) (pe_var (i := 1) (by show N[1]? = _; rw [hN]; rfl) (vis x1 (by simp)) (hd x1 (by simp)).1 (hd x1 (by simp)).2)) (pss_one (ps_ost (pe_var (i := 0) (by show N[0]? = _; rw [hN]; rfl) (vis s0 (by simp)) (hd s0 (by simp)).1 (hd s0 (by simp)).2) (pe_var (i := 2) (by show N[2]? = _; rw [hN]; rfl) (vis x2 (by simp)) (hd x2 (by simp)).1 (hd x2 (by simp)).2))), ?_⟩
  have sl : SlOk K H (startF N [.ref a, y, z] [none]) (startD N (.rf a :: ds)) := by rw [startF_eq hNl]; exact start_ok ⟨_, _, rfl, rfl, rp⟩
  refine a2 _ H _ Sh' wd sl _ _ (fun xs H1 dx S' g r q => ?_) hα0
  have eaH : H1 a = some (exo a c none) := g.ext a _ ea (by
    have : (exo a c none) = HO.ext _ := rfl
    rw [this] at ea
    exact wd.noset ea)
  rw [hσ]
  refine ⟨by rw [← r.length]; exact q.1, eaH, y, rfl, .ref a, rfl, a, c, rfl, sc.oex, no1, .inl ⟨eaH, fun d hd' hda => ⟨z, rfl, .ref a, rfl, a, c, rfl, sc.oex, no2, .inr ⟨d, [(f1, y)], upd_same, by rw [upd_ne hda]; exact upd_same, by simp, ?_⟩⟩⟩⟩
  exact hfin H1 S' g q.2 d hd' hda
end
/-! ### C(e, ..) over data -/
def dMkX (c : Addr) (N : List Str) (n : Nat) (α : AD) (fl : List D → List (Str × D)) (a : AD) : MkD := fun δ S Q => a δ S fun ds S1 => ds.length + 1 = n ∧ ∀ p, S1 p = none → α (startD N (.rf p :: ds)) S1 fun xs S2 => xs.length ≤ 1000 ∧ ∀ d, S2 d = none → Q c d (su S2 d (.exn (fl ds)))
theorem exo_ne_setM {e C : Addr} {d : Option Addr} {w : World} {M : Key → Bool} {n : Nat} : exo e C d ≠ SetM w e M n := fun z => by
  have z' : (fun h : Heap => ∃ t1 : Addr, h.get? e = some ({ cls := .ref C, dict := d, data := .fields #[.ref t1, .none, .none, .none, .bool false, .none] } : Obj)) = fun h => SetQ w h e M n := HO.ext.inj z
  have g : (⟨(Array.replicate e (default : Obj)).push { cls := .ref C, dict := d, data := .fields #[.ref 0, .none, .none, .none, .bool false, .none] }, {}⟩ : Heap).get? e = some ({ cls := .ref C, dict := d, data := .fields #[.ref 0, .none, .none, .none, .bool false, .none] } : Obj) := by
    unfold Heap.get?
    have : ((Array.replicate e (default : Obj)).push { cls := .ref C, dict := d, data := .fields #[.ref 0, .none, .none, .none, .bool false, .none] })[e]? = some { cls := .ref C, dict := d, data := .fields #[.ref 0, .none, .none, .none, .bool false, .none] } := by
      have := Array.getElem?_push_size (xs := Array.replicate e (default : Obj)) (x := ({ cls := .ref C, dict := d, data := .fields #[.ref 0, .none, .none, .none, .bool false, .none] } : Obj))
      rwa [Array.size_replicate] at this
    show (match ((Array.replicate e (default : Obj)).push { cls := .ref C, dict := d, data := .fields #[.ref 0, .none, .none, .none, .bool false, .none] })[e]? with | some ⟨_, _, .freed, _⟩ => none | o => o) = _
    rw [this]
  have q : SetQ w _ e M n := (congrFun z' _).mp ⟨0, g⟩
  obtain ⟨o, es, ep, t, h1, _, h3, _⟩ := q
  rw [g] at h1
  cases h1
  cases h3
theorem go_exn {K : PySem.W.Frag} {S S2 : Sh} {H1 H2 H3 : Hp} {a d c : Addr} {fs : List (Str × V)} {ds : List (Str × D)} (n1 : H1 a = none) (wd : Wd K H1 S) (g : Go K S (upd H1 a (exo a c none)) S2 H2) (hd : H2 d = none) (hda : d ≠ a) (e : ∀ b, b ≠ a → b ≠ d → H3 b = H2 b)
    (r : RepF K H2 ds fs) : Go K S H1 (su S2 d (.exn ds)) (upd (del H3 a) d (.xd fs)) := by
  have hd1 : H1 d = none := by
    have z := g.th d hd
    rwa [upd_ne hda] at z
  have ea2 : H2 a = some (exo a c none) := g.ext a _ upd_same (wd.free n1)
  have look : ∀ {b : Addr} {o : HO}, H1 b = some o → S b = none → (upd (del H3 a) d (.xd fs)) b = some o := fun {b o} h1 h2 => by
    have nb : b ≠ a := ne_of_none h1 n1
    have nd : b ≠ d := ne_of_none h1 hd1
    rw [upd_ne nd, del_ne nb, e b nb nd]
    exact g.ext b o (by rw [upd_ne nb]; exact h1) h2
  have low : ∀ {b : Addr} {o : HO}, H2 b = some o → b ≠ a → (upd (del H3 a) d (.xd fs)) b = some o := fun {b o} h2 nb => by
    have nd : b ≠ d := ne_of_none h2 hd
    rw [upd_ne nd, del_ne nb, e b nb nd]
    exact h2
  have im : Im K H2 (upd (del H3 a) d (.xd fs)) := {
    t := fun b xs r => by
      rcases r with (r | ⟨o, r⟩) | r
      · exact .inl (.inl (low r fun z => by rw [z, ea2] at r; cases r))
      · exact .inl (.inr ⟨o, low r fun z => by rw [z, ea2] at r; cases r⟩)
      · exact .inr r
    f := fun b xs r => by
      rcases r with ⟨o, r⟩ | r
      · exact .inl ⟨o, low r fun z => by rw [z, ea2] at r; cases r⟩
      · exact .inr r
    s := fun b w' M' n' r => low r fun z => by
      rw [z, ea2] at r
      exact exo_ne_setM (Option.some.inj r) }
  refine ⟨fun b o h1 h2 => look h1 h2, fun b o h1 h2 => ?_, fun q x hq => ?_, fun b hb => ?_⟩
  · have nd : b ≠ d := ne_of_none h1 hd1
    rw [su_ne nd]
    exact g.out b o (by rw [upd_ne (ne_of_none h1 n1)]; exact h1) h2
  · by_cases z : q = d
    · subst z
      rw [su_same] at hq; cases hq
      exact ⟨_, upd_same, fs, rfl, r.im im⟩
    · rw [su_ne z] at hq
      obtain ⟨ho, h1, r'⟩ := g.wd q x hq
      refine ⟨ho, low h1 fun y => ?_, r'.im im⟩
      rw [y] at hq
      have := g.wd.noset ea2
      rw [this] at hq; cases hq
  · by_cases nd : b = d
    · rw [nd]; exact hd1
    · by_cases nb : b = a
      · rw [nb]; exact n1
      · rw [upd_ne nd, del_ne nb, e b nb nd] at hb
        have z := g.th b hb
        rwa [upd_ne nb] at z
structure FinOk (c : Addr) (n : Nat) (fin : Fin1) (fl : List D → List (Str × D)) : Prop where
  of : ∀ (H2 : Hp) (a d : Addr) (vs : List V), vs.length + 1 = n → d ≠ a → ∃ fs, fin H2 a d vs a = some (exo a c (some d)) ∧ fin H2 a d vs d = some (exd d fs) ∧ (∀ b, b ≠ a → b ≠ d → fin H2 a d vs b = H2 b) ∧
    ∀ (K : PySem.W.Frag) (H : Hp) (ds : List D), Reps K H ds vs → RepF K H (fl ds) fs
def fl1 (f1 : Str) : List D → List (Str × D) := fun ds => match ds with | [y] => [(f1, y)] | _ => []
def fl2 (f1 f2 : Str) : List D → List (Str × D) := fun ds => match ds with | [y, z] => [(f2, z), (f1, y)] | _ => []
theorem fin1_ok {c : Addr} {f1 : Str} : FinOk c 2 (fin1 c f1) (fl1 f1) := ⟨fun H2 a d vs hl hda => by
  obtain ⟨y, rfl⟩ : ∃ y, vs = [y] := by
    rcases vs with _ | ⟨y, _ | ⟨z, r⟩⟩
    · simp at hl
    · exact ⟨y, rfl⟩
    · simp at hl
  refine ⟨[(f1, y)], upd_same, by show upd (upd H2 d _) a _ d = _; rw [upd_ne hda]; exact upd_same, fun b h1 h2 => by show upd (upd H2 d _) a _ b = _; rw [upd_ne h1, upd_ne h2], fun K H ds r => ?_⟩
  obtain ⟨v, vr, e, r1, r2⟩ : ∃ v vr, ds = v :: vr ∧ Rep K H v y ∧ Reps K H vr [] := by
    cases ds with
    | nil => cases (show [y] = [] from r)
    | cons v vr =>
      obtain ⟨u, us, e, h1, h2⟩ := r
      cases e
      exact ⟨v, vr, rfl, h1, h2⟩
  subst e
  cases vr with
  | nil => exact ⟨y, [], rfl, r1, rfl⟩
  | cons _ _ => obtain ⟨_, _, e, _⟩ := r2; cases e⟩
theorem fin2_ok {c : Addr} {f1 f2 : Str} : FinOk c 3 (fin2 c f1 f2) (fl2 f1 f2) := ⟨fun H2 a d vs hl hda => by
  obtain ⟨y, z, rfl⟩ : ∃ y z, vs = [y, z] := by
    rcases vs with _ | ⟨y, _ | ⟨z, _ | ⟨u, r⟩⟩⟩
    · simp at hl
    · simp at hl
    · exact ⟨y, z, rfl⟩
    · simp at hl
  refine ⟨[(f2, z), (f1, y)], by show upd (upd (upd H2 d _) a _) d _ a = _; rw [upd_ne (Ne.symm hda)]; exact upd_same, upd_same, fun b h1 h2 => by show upd (upd (upd H2 d _) a _) d _ b = _; rw [upd_ne h2, upd_ne h1, upd_ne h2], fun K H ds r => ?_⟩
  rcases ds with _ | ⟨v, _ | ⟨v2, vr⟩⟩
  · cases (show [y, z] = [] from r)
  · obtain ⟨u, us, e, h1, h2⟩ := r
    cases e
    cases (show [z] = [] from h2)
  · obtain ⟨u, us, e, h1, h2⟩ := r
    cases e
    obtain ⟨u, us, e, h3, h4⟩ := h2
    cases e
    cases vr with
    | nil => exact ⟨z, _, rfl, h3, y, [], rfl, h1, rfl⟩
    | cons _ _ => obtain ⟨_, _, e, _⟩ := h4; cases e⟩
section
variable {X : Cx} {c fI : Addr} {fd : FuncData} {ps : List Str} {x : Str} {e : Expr} {es : List Expr} {α αa : AD} {fin : Fin1} {fl : List D → List (Str × D)} {N : List Str} {n : Nat} {q pos : Pos} {k : Nat}
theorem mk_exc (T : OexC X.K c) (iC : PySem.W.findIn X.K (.ref c) "__init__" = some (some (.ref fI))) (tI : PySem.W.typeIn X.K (.ref fI) = some (.type "function")) (kC : PySem.W.keepIn X.K (.ref c) = true)
    (F1 : FnOk X.prog X.w X.K X.mg X.base CX0 k fI fd ps (spI X.K c N n α fin)) (fo : FinOk c n fin fl) (hn : n ≤ 1000) (hr : Room (k + 1) X.A) (hb : Binds X.K fd ps []) (hm : X.mg x = some (.ref c)) (ha : DL.A X (e :: es) αa) (hg : Gl X x := by rfl)
    (hdb : (x == ("__debug__" : Str)) = false := by decide) (he : starEach (e :: es) X.env = (false, eval e X.env) :: starEach es X.env := by rfl) (hpl : (backTo pos (starEach es X.env)).any (·.1) = false := by rfl) :
    Mx X (.Call (.Name x q) (e :: es) [] pos) (dMkX c N n α fl αa) := by
  obtain ⟨ta, a1, a2⟩ := ha
  refine ⟨_, pmk_oex T iC tI kC F1 hr hb pass0 hg hm a1 hdb he hpl, fun σ H δ S w sl Q R kk h => ?_⟩
  refine a2 σ H δ S w sl _ _ (fun vs H1 ds S1 g1 r1 q1 => ?_) h
  have hl : vs.length + 1 = n := by rw [← r1.length]; exact q1.1
  refine ⟨by omega, fun a na => ?_⟩
  have gn := Go.new (u := exo a c none) g1.wd na
  refine ⟨a, vs, S1, ds, fun S2 => ∀ d, S2 d = none → Q c d (su S2 d (.exn (fl ds))), by rw [List.append_nil], by rw [List.append_nil]; exact hl, upd_same, gn.wd, r1.im (gn.im g1.wd), q1.2 a (g1.wd.free na), fun H2 S2 g2 hR d hd hda => ?_⟩
  obtain ⟨fs, e1, e2, e3, e4⟩ := fo.of H2 a d vs hl hda
  refine ⟨rfl, d, fs, e1, e2, ?_, ?_⟩
  · have z := g2.th d hd
    rwa [upd_ne hda] at z
  · exact kk _ _ c d _ (g1.trans (go_exn na g1.wd g2 hd hda e3 (e4 _ _ ds ((r1.im (gn.im g1.wd)).im (g2.im gn.wd))))) su_same (hR d (g2.wd.free hd))
end
end DL

set_option Elab.async false
set_option linter.all false
set_option maxRecDepth 100000
set_option maxHeartbeats 2000000
namespace DL
open PySem PySem.Spec L2 DK PyProof.Rows RZ NdefX
/-- all that is asked of an own exception class -/
structure XCls (P : Program) (K : PySem.W.Frag) (mg : Str → Option Value) (nm : Str) (c fI : Addr) (fd : FuncData) (N ps : List Str) (n : Nat) (α : AD) (fin : Fin1) : Prop where
  oex : OexC K c
  gl : mg nm = some (.ref c)
  ini : PySem.W.findIn K (.ref c) "__init__" = some (some (.ref fI))
  tI : PySem.W.typeIn K (.ref fI) = some (.type "function")
  kC : PySem.W.keepIn K (.ref c) = true
  bi : Binds K fd ps []
  fn : ∀ (w : World) (base : Heap), FnOk P w K mg base CX0 1 fI fd ps (spI K c N n α fin)
  xf : XfC K c
  xc : ExcC K c
  me : PySem.W.exmOne K (.ref c) (.ref c) = some true
section
variable {X : Cx} {c fI : Addr} {fd : FuncData} {ps : List Str} {x : Str} {e : Expr} {es : List Expr} {α αa : AD} {fin : Fin1} {fl : List D → List (Str × D)} {N : List Str} {n : Nat} {q pos : Pos}
theorem mk_cls (T : XCls X.prog X.K X.mg x c fI fd N ps n α fin) (fo : FinOk c n fin fl) (hr : Room 2 X.A) (ha : DL.A X (e :: es) αa) (hn : n ≤ 1000 := by decide) (hg : Gl X x := by rfl)
    (hdb : (x == ("__debug__" : Str)) = false := by decide) (he : starEach (e :: es) X.env = (false, eval e X.env) :: starEach es X.env := by rfl) (hpl : (backTo pos (starEach es X.env)).any (·.1) = false := by rfl) :
    Mx X (.Call (.Name x q) (e :: es) [] pos) (dMkX c N n α fl αa) := mk_exc T.oex T.ini T.tI T.kC (T.fn X.w X.base) fo hn hr T.bi T.gl ha hg hdb he hpl
theorem suD_one {suite : List Stmt} {su : Addr → Addr → Addr → SD} (h : ∀ (a : Addr) (oe : Obj) (d : Addr) (pn : Pins), L2N.Zn (.ref c) (some d) oe → (∃ vs, oe.data = .fields vs) → B (X.suite a ((a, oe) :: pn)) suite (su a c d)) : SuD X [c] suite su := fun a oe c' d pn hc hz hf => by
  cases List.mem_singleton.mp hc
  exact h a oe d pn hz hf
theorem one_mem {cv : Value} (h : PySem.W.exmOne X.K (.ref c) cv = some true) : ∀ c' ∈ [c], PySem.W.exmOne X.K (.ref c') cv = some true := fun c' hc => by
  cases List.mem_singleton.mp hc
  exact h
theorem pn_glob {C : Addr} {x2 : Str} {q0 : Pos} (hm : X.mg x2 = some (.ref C)) (hg : Gl X x2) (hd : (x2 == ("__debug__" : Str)) = false := by decide) : ∃ v : V, (∀ u, RelV v u → u = .ref C) ∧ PE X (.Name x2 q0) (tC v) := ⟨.ref C, fun u h => h, pe_glob hg hm rfl hd⟩
theorem pn_blt {T : String} {x2 : Str} {q0 : Pos} (hm : X.mg x2 = none) (hg : Gl X x2) (hv : bootBuiltins x2 = some (.type T)) (hn : x2 ≠ "__name__" := by decide) (hd : (x2 == ("__debug__" : Str)) = false := by decide) : ∃ v : V, (∀ u, RelV v u → u = .type T) ∧ PE X (.Name x2 q0) (tC v) :=
  ⟨.ty T, fun u h => h, pe_bltn hg hm hv rfl hn hd⟩
end
/-- a class's facts, from the written part -/
theorem exm_selfD {K : PySem.W.Frag} {S : Addr} {b : Bool} {c : Value} (h1 : PySem.W.subIn K (.ref S) (.type "BaseException") = some true) (h2 : PySem.W.isClsIn K S = true) (h3 : PySem.W.typeIn K (.ref S) = some (.type "type")) (h4 : PySem.W.subIn K c (.ref S) = some b) :
    PySem.W.exmOne K c (.ref S) = some b := by
  have e1 : (PySem.W.subIn K (.ref S) (.type "BaseException") == some true) = true := by rw [h1] <;> rfl
  have e2 : ((PySem.W.clsIn K S).isSome && PySem.W.typeIn K (.ref S) == some (.type "type")) = true := by
    have h2' : (PySem.W.clsIn K S).isSome = true := h2
    rw [h2', h3] <;> rfl
  show (if (PySem.W.subIn K (.ref S) (.type "BaseException") == some true) = true then (if ((PySem.W.clsIn K S).isSome && PySem.W.typeIn K (.ref S) == some (.type "type")) = true then PySem.W.subIn K c (.ref S) else none) else none) = some b
  rw [if_pos e1, if_pos e2]
  exact h4
end DL

set_option Elab.async false
set_option linter.all false
set_option maxRecDepth 100000
set_option maxHeartbeats 2000000
namespace DL
open PySem PySem.Spec L2 DK PyProof.Rows
def calmS (sp : SpX) : SpD := fun ds S Q => sp ds S Q fun _ _ _ => False
section
variable {X : Cx}
def rSS (g : List Nat → List Nat → D) : R2D := fun x y S Q => match x, y with | .str i, .str j => Q (g i j) S | _, _ => False
def dLtS : R2D := rSS fun i j => .bl (decide (i < j))
def dGtS : R2D := rSS fun i j => .bl (decide (j < i))
theorem cps_tl (s : List Nat) : (⟨s.toArray⟩ : Str).cps.toList = s := by simp
theorem op_gt_str : OpR X (compareOp .Gt) (fun x y H Q => ∃ i j, x = .str i ∧ y = .str j ∧ Q (.bl (decide (j.cps.toList < i.cps.toList))) H) := by
  intro pins s σ H x y v u Q I rx ry h
  obtain ⟨i, j, rfl, rfl, q⟩ := h
  obtain ⟨t, rfl⟩ := rx
  obtain ⟨t', rfl⟩ := ry
  exact PySem.P.gt_str (fin_bl I q rfl)
theorem o_ltS : O X (compareOp .Lt) dLtS := by
  refine ⟨_, op_lt_str, fun H S x y dx dy w rx ry Q R k q => ?_⟩
  cases dx <;> cases dy <;> first | exact False.elim q | skip
  rename_i i j
  exact ⟨_, _, rx, ry, by rw [cps_tl, cps_tl]; exact k _ H (.bl _) S (Go.refl w) rfl q⟩
theorem o_gtS : O X (compareOp .Gt) dGtS := by
  refine ⟨_, op_gt_str, fun H S x y dx dy w rx ry Q R k q => ?_⟩
  cases dx <;> cases dy <;> first | exact False.elim q | skip
  rename_i i j
  exact ⟨_, _, rx, ry, by rw [cps_tl, cps_tl]; exact k _ H (.bl _) S (Go.refl w) rfl q⟩
def dOrd : CD := fun ds S Q => match ds with | [.str [c]] => Q (.int (c : Nat)) S | _ => False
theorem c_ord : C X (.builtin "ord") dOrd := by
  refine ⟨_, call_ord, fun H S vs ds w rs Q R k q => ?_⟩
  rcases ds with _ | ⟨d, _ | ⟨d2, ds⟩⟩
  · exact False.elim q
  · obtain ⟨v, r, rfl, rv, rfl⟩ := rs
    cases d with
    | str s =>
      rcases s with _ | ⟨c, _ | ⟨c2, s⟩⟩
      · exact False.elim q
      · obtain rfl := rv
        exact ⟨_, rfl, rfl, k _ H (.int (c : Nat)) S (Go.refl w) rfl q⟩
      · exact False.elim q
    | _ => exact False.elim q
  · exact absurd q (by unfold dOrd; cases d <;> (try exact id) <;> (rename_i s; rcases s with _ | ⟨c, _ | ⟨c2, s⟩⟩ <;> exact id))
end
end DL

set_option Elab.async false
set_option linter.all false
set_option maxRecDepth 100000
set_option maxHeartbeats 2000000
/-! Defs called within an except suite: at states that have given out a token. -/
namespace DL
open PySem PySem.Spec PyProof.Rows L2
open L2H (RoomH Hot1 PinOk HotC cxH)
structure FnTH (P : Program) (w : World) (K : PySem.W.Frag) (mg : Str → Option Value) (base : Heap) (CX : CXT) (k : Nat) (f : Addr) (fd : FuncData) (ps : List Str) (sp : Sp) : Prop where
  len : ∀ vs H Q E, sp vs H Q E → vs.length = ps.length
  run : ∀ (A : Around) (outer : List Env) (s : Shared) (H : Hp) (args : Args) (us : List Value) (vs : List V) (Q : VK) (E : XK) (p : Addr × Obj), 1 ≤ s.toks → RoomH k A → Hot1 A p → PinOk outer H s p → Env0 P w K mg base A outer s H → BindsTo s fd args (ps.zip us) → Vals vs us → sp vs H Q E →
    codeAny (model P w) A (.call (.ref f) args) (CR CX outer P w H s Q E) s
theorem hot_suite {X : Cx} {a c d : Addr} {oe : Obj} {pn : List (Addr × Obj)} (hz : L2N.Zn (.ref c) (some d) oe) (hf : ∃ vs, oe.data = .fields vs) : HotC (X.suite a ((a, oe) :: pn)) := by
  obtain ⟨vs, e⟩ := hf
  exact ⟨(a, oe), ⟨rfl, vs, e, hz.2.2 vs e⟩, List.mem_cons_self⟩
theorem hot_deep {A : Around} {p : Addr × Obj} {env : Env} (h : Hot1 A p) : Hot1 (A.deeper env) p := h
theorem hot_body {CX : CXT} {P : Program} {w : World} {K : PySem.W.Frag} {mg : Str → Option Value} {base : Heap} {N : List Str} {qual : Str} {scope : Scope} {f : Addr} {cd : Value} {A : Around} {outer : List Env} {s : Shared} {H : Hp} {E : XK} {p : Addr × Obj} (h : Hot1 A p) :
    HotC (cxH CX P w K mg base N qual scope f cd A outer s H E p).nox := ⟨p, hot_deep h, List.mem_singleton.mpr rfl⟩
theorem roomH_suite {X : Cx} {k : Nat} {a : Addr} {pn : List (Addr × Obj)} (hr : Room k X.A) : RoomH k (X.suite a pn).A := ⟨hr.dp, hr.un⟩
section
variable {X : Cx} {CX : CXT} {k : Nat} {f : Addr} {fd : FuncData} {ps : List Str} {sp : Sp} {E : XK} {x : Str} {q pos : Pos} {e : Expr} {es : List Expr} {t : TA} {pins : Pins} {s : Shared} {σ : L2.St} {H : Hp} {Q : VK} {us : List Value} {vs : List V}
theorem run_fnH (F : FnTH X.prog X.w X.K X.mg X.base CX k f fd ps sp) (hr : RoomH k X.A) (hc : HotC X) (hb : Binds X.K fd ps []) (hx : Passes CX X E) (k1 : 1 ≤ s.toks) (I : Inv X pins σ H s) (r : Vals vs us) (h : sp vs H Q E) :
    wpAny (model X.prog X.w) X.A (call (.ref f) us) (EP X pins σ Q) X.xe s := by
  obtain ⟨p, hot, hp⟩ := hc
  have hl : us.length = ps.length := by rw [← Paired.length r]; exact F.len _ _ _ _ h
  have b := hb s us I.kIn (by rw [List.append_nil]; exact hl)
  rw [List.append_nil] at b
  have P1 := I.pin p (List.mem_append_left _ hp)
  have hpin : PinOk X.stack H s p := ⟨P1.1, P1.2.1, fun hm => (List.mem_cons.mp (I.stkSub p.1 hm)).elim P1.2.2.1 P1.2.2.2.1, P1.2.2.2.2⟩
  refine wpAny_call (codeAny_mono (F.run X.A X.stack s H ⟨us, []⟩ us vs Q E p k1 hr hot hpin I.env0 b r h) fun z s' hz => ?_)
  rcases z with er | fl
  · exact hx pins σ H s er s' I hz
  · cases fl <;> first | exact I.after hz | exact hz.elim
theorem pe_callH (F : FnTH X.prog X.w X.K X.mg X.base CX k f fd ps sp) (hr : RoomH k X.A) (hc : HotC X) (hg : Gl X x) (hm : X.mg x = some (.ref f)) (hk : PySem.W.keepIn X.K (.ref f) = true) (hb : Binds X.K fd ps []) (hx : Passes CX X E) (ha : PA X (e :: es) t)
    (hdb : (x == ("__debug__" : Str)) = false := by decide) (he : starEach (e :: es) X.env = (false, eval e X.env) :: starEach es X.env := by rfl) (hpl : (backTo pos (starEach es X.env)).any (·.1) = false := by rfl) : PE X (.Call (.Name x q) (e :: es) [] pos) (tCall sp [] E t) :=
  ⟨fun k0 I h => wpAny_Call_Name_kw (ld_glob I hg hm (PySem.W.callWith_K (h₀ := X.base) I.ok.mod.kin hk (tn k0 (ha.run pos k0 I h) fun _ _ k1 ⟨vs, _, I1, r, z⟩ => ⟨I1.kIn, run_fnH F hr hc hb hx k1 I1 r (by have z' := z; simp only [List.append_nil] at z'; exact z')⟩) he hpl) hdb)⟩
end
theorem e_callH {X : Cx} {n k : Nat} {sp : SpD} {f : Addr} {fd : FuncData} {ps : List Str} {x : Str} {p pos : Pos} {e : Expr} {es : List Expr} {α : AD} (F : FnTH X.prog X.w X.K X.mg X.base CX0 k f fd ps (lift X.K n sp)) (hr : RoomH k X.A) (hc : HotC X) (hm : X.mg x = some (.ref f)) (hk : PySem.W.keepIn X.K (.ref f) = true) (hb : Binds X.K fd ps [])
    (ha : A X (e :: es) α) (hg : Gl X x := by rfl) (hdb : (x == ("__debug__" : Str)) = false := by decide) (he : starEach (e :: es) X.env = (false, eval e X.env) :: starEach es X.env := by rfl) (hpl : (backTo pos (starEach es X.env)).any (·.1) = false := by rfl) :
    E X (.Call (.Name x p) (e :: es) [] pos) (dCall n sp [] α) := by
  obtain ⟨ta, a1, a2⟩ := ha
  exact ⟨_, pe_callH F hr hc hg hm hk hb pass0 a1 hdb he hpl, sim_call (fun _ => rfl) a2⟩
section
variable {P : Program} {w : World} {K : PySem.W.Frag} {mg : Str → Option Value} {base : Heap}
theorem fn_ofH {CX : CXT} {k : Nat} {f : Addr} {name qual : Str} {params : Arguments} {body : List Stmt} {scope : Scope} {dV kV doc pm cdv ct oc : Value} {an od : Option Addr} {osl : Array (Option Value)} {N ps : List Str} {sp : Sp}
    (lk : K.lookup f = some ⟨oc, od, .func (PySem.W.fnOf name qual params body scope dV kV doc pm an cdv ct), osl⟩) (hcd : PySem.W.codeIn K cdv qual = true) (S : FnScope N ps scope) (len : ∀ vs H Q E, sp vs H Q E → vs.length = ps.length)
    (hbody : ∀ (A : Around) (outer : List Env) (s : Shared) (H : Hp) (vs : List V) (Q : VK) (E : XK) (p : Addr × Obj), Hot1 A p → RoomH k (A.deeper (envOfC qual scope s.heap.objs.size f cdv)) → sp vs H Q E →
      ∃ t, PSs (cxH CX P w K mg base N qual scope f cdv A outer s H E p) body t ∧ t { nx := fun _ H' => Q .non H', rt := Q } (start N vs) H) :
    FnTH P w K mg base CX (k + 1) f (PySem.W.fnOf name qual params body scope dV kV doc pm an cdv ct) ps sp :=
  ⟨len, fun A outer s H args us vs Q E p k1 hr hot hpin e0 hb r hsp => by
    have KX : K.In s.heap := e0.mod.kin.keeps fun b o e => (e0.bs b o e).1
    have lim : s.heap.NoLimit := e0.mod.nolimit.keeps fun b o e => (e0.bs b o e).1
    refine codeAny_call_function hr.depth (KX _ _ lk) rfl S.co S.gen rfl (PySem.W.codeRec_of KX hcd) (hb _ _ _ _ (wpAny_with_toks k1 (wpAny_newFunctionEnv_cells S.kind (fun ⟨m, v⟩ hy => (S.par m (List.of_mem_zip hy).1).imp id fun z => ⟨z, PySem.W.cellsFrom_some _ _ _ (.inl z)⟩) fun env he s1 xx k2 => ?_)))
    subst he
    refine ⟨lim.keeps xx.toInCall.keep, codeAny_func ?_⟩
    obtain ⟨t, ht, hq⟩ := hbody A outer s H vs Q E p hot (hr.deeper _) hsp
    have I : Inv (cxH CX P w K mg base N qual scope f cdv A outer s H E p) [] (start N vs) H s1 := L2H.inv_startH S hpin e0 (len _ _ _ _ hsp) r xx
    refine wpAny_mono (ht.run k2 I hq) (fun fl s' z => ?_) fun _ _ z => z
    have out : ∀ {σ' : L2.St} {H' : Hp} {v : V} {u : Value}, Inv (cxH CX P w K mg base N qual scope f cdv A outer s H E p) [] σ' H' s' → RelV v u → Q v H' → CE outer P w H s Q u s' := fun J rv q => ⟨_, _, J.os, J.bare, J.base, J.hok, rv, q⟩
    cases fl with
    | ret u => obtain ⟨_, _, _, J, rv, q⟩ := z; exact out J rv q
    | next => obtain ⟨_, _, J, q⟩ := z; exact out (v := V.non) (u := Value.none) J rfl q
    | brk => obtain ⟨_, _, _, q⟩ := z; exact q.elim
    | cont => obtain ⟨_, _, _, q⟩ := z; exact q.elim⟩
theorem fun_okH {x qual : Str} {st : Stmt} {f : Addr} {fd : FuncData} {N ps : List Str} {k : Nat} {sp : Sp} (F : Fun K x qual st f fd) (S : FnScope N ps (defScope st)) (len : ∀ vs H Q E, sp vs H Q E → vs.length = ps.length)
    (hbody : ∀ (cdv : Value) (A : Around) (outer : List Env) (s : Shared) (H : Hp) (vs : List V) (Q : VK) (E : XK) (p : Addr × Obj), Hot1 A p → RoomH k (A.deeper (envOfC qual (defScope st) s.heap.objs.size f cdv)) → sp vs H Q E →
      ∃ t, PSs (cxH CX0 P w K mg base N qual (defScope st) f cdv A outer s H E p).nox (defBody st) t ∧ t { nx := fun _ H' => Q .non H', rt := Q } (start N vs) H) : FnTH P w K mg base CX0 (k + 1) f fd ps sp := by
  obtain ⟨oc, od, kV, doc, pm, an, cdv, ct, osl, e, lk, hcd⟩ := F.ex
  subst e
  exact fn_ofH lk hcd S len fun A outer s H vs Q E p hot hr z => let ⟨t, h, q⟩ := hbody cdv A outer s H vs Q E p hot hr z; ⟨t, h.nox, q⟩
theorem fn_liftH {x qual : Str} {st : Stmt} {f : Addr} {fd : FuncData} {N ps : List Str} {k : Nat} {sp : SpD} {τ : SD} (F : Fun K x qual st f fd) (Sc : FnScope N ps (defScope st))
    (hd : ∀ (cdv : Value) (A : Around) (outer : List Env) (s : Shared) (H : Hp) (E : XK) (p : Addr × Obj), Hot1 A p → RoomH k (A.deeper (envOfC qual (defScope st) s.heap.objs.size f cdv)) → B (cxH CX0 P w K mg base N qual (defScope st) f cdv A outer s H E p).nox (defBody st) τ)
    (hq : ∀ ds S Q, ds.length = ps.length → sp ds S Q → τ (endsD Q) (startD N ds) S) : FnTH P w K mg base CX0 (k + 1) f fd ps (lift K ps.length sp) := by
  refine fun_okH F Sc (fun vs H Q E h => ?_) (fun cdv A outer s H vs Q E p hot hr h => ?_)
  · obtain ⟨S, ds, _, r, hl, _⟩ := h
    rw [← r.length, hl]
  · obtain ⟨S, ds, wd, r, hl, Qd, hk, hs⟩ := h
    obtain ⟨t, h1, h2⟩ := hd cdv A outer s H E p hot hr
    refine ⟨t, h1, h2 _ H _ S wd (start_ok r) (endsD Qd) _ (fun σ' H' δ' S' g _ q => ?_) (fun v H' d S' g r' q => ?_) (fun _ _ _ _ _ _ q => q.elim) (fun _ _ _ _ _ _ q => q.elim) (hq ds S Qd hl hs)⟩
    · obtain ⟨S2, le, q⟩ := q
      exact hk _ H' .non S2 (g.le le) rfl q
    · obtain ⟨S2, le, q⟩ := q
      exact hk _ H' d S2 (g.le le) r' q
end
end DL

set_option Elab.async false
set_option linter.all false
set_option maxRecDepth 100000
namespace DL
open PySem PySem.Spec L2
structure Hd (P : Prop) : Prop where
  a : P
/-- a test's answer -/
def Tq (κ : TD) (δ : Sl) (S : Sh) (b : Bool) : Prop := ∀ Q : Bool → Sh → Prop, Q b S → κ δ S Q
section
variable {κ κ1 κ2 : TD} {t u : SD} {F : EndsD} {δ : Sl} {S : Sh} {a b : Bool}
theorem if_yes (h : Tq κ δ S true) (hu : t F δ S) : dIfS κ t u F δ S := h _ (by rw [if_pos rfl]; exact hu)
theorem if_no (h : Tq κ δ S false) (hu : u F δ S) : dIfS κ t u F δ S := h _ (by rw [if_neg Bool.false_ne_true]; exact hu)
theorem if_b (h : Tq κ δ S b) (ht : b = true → t F δ S) (hf : b = false → u F δ S) : dIfS κ t u F δ S := by
  cases b with
  | true => exact if_yes h (ht rfl)
  | false => exact if_no h (hf rfl)
theorem tq_or (h1 : Tq κ1 δ S a) (h2 : a = false → Tq κ2 δ S b) : Tq (dOr κ1 κ2) δ S (a || b) := fun Q hQ => h1 _ (by
  cases a with
  | true => rw [if_pos rfl]; exact hQ
  | false => rw [if_neg Bool.false_ne_true]; exact h2 rfl _ hQ)
theorem tq_and (h1 : Tq κ1 δ S a) (h2 : a = true → Tq κ2 δ S b) : Tq (dAnd κ1 κ2) δ S (a && b) := fun Q hQ => h1 _ (by
  cases a with
  | true => rw [if_pos rfl]; exact h2 rfl _ hQ
  | false => rw [if_neg Bool.false_ne_true]; exact hQ)
theorem tq_not (h : Tq κ δ S a) : Tq (dNot κ) δ S (!a) := fun Q hQ => h _ hQ
theorem tq_iff (h : Tq κ δ S a) (e : a = b) : Tq κ δ S b := e ▸ h
end
theorem comp_mapA {α : Type} (g f : α → D) {γ : GD} {τ : ED} {δ : Sl} {ck : Sh → Prop} {Q : List D → Sh → Prop} {S : Sh} (hc : ck S) : ∀ (xs : List α) (acc : List D), (∀ x ∈ xs, ∀ R : QD, R (f x) S → γ (g x) δ S fun δ1 S1 => τ δ1 S1 R) → acc.length + xs.length ≤ sizeLine → Q (acc ++ xs.map f) S →
    dComp γ dYes τ δ ck Q (xs.map g) acc S
  | [], acc, _, _, q => by rw [List.map_nil, List.append_nil] at q; exact q
  | x :: xs, acc, h, hl, q => by
    rw [List.length_cons] at hl
    refine h x List.mem_cons_self _ ⟨by omega, hc, comp_mapA g f hc xs (acc ++ [f x]) (fun y hy => h y (List.mem_cons_of_mem _ hy)) (by rw [List.length_append, List.length_singleton]; omega) ?_⟩
    rw [List.append_assoc]
    exact q
theorem comp_allP {γ : GD} {τ : ED} {δ : Sl} {ck : Sh → Prop} {Q : List D → Sh → Prop} (P0 P : D → Prop) (Iv : Sh → Prop) (hck : ∀ S, Iv S → ck S) (hs : ∀ x, P0 x → ∀ S, Iv S → ∀ R : QD, (∀ d S', P d → Iv S' → R d S') → γ x δ S fun δ1 S1 => τ δ1 S1 R) :
    ∀ (xs acc : List D) (S : Sh), (∀ x ∈ xs, P0 x) → Iv S → (∀ d ∈ acc, P d) → acc.length + xs.length ≤ sizeLine → (∀ ds S', ds.length = acc.length + xs.length → (∀ d ∈ ds, P d) → Iv S' → Q ds S') → dComp γ dYes τ δ ck Q xs acc S
  | [], acc, S, _, hi, ha, _, q => q acc S (by simp) ha hi
  | x :: xs, acc, S, hx, hi, ha, hl, q => by
    rw [List.length_cons] at hl
    refine hs x (hx x List.mem_cons_self) S hi _ fun d S' hp hi' => ⟨by omega, hck S' hi', comp_allP P0 P Iv hck hs xs (acc ++ [d]) S' (fun y hy => hx y (List.mem_cons_of_mem _ hy)) hi' (fun e he => ?_) (by rw [List.length_append, List.length_singleton]; omega) fun ds S2 e1 e2 e3 => q ds S2 (by rw [e1, List.length_append, List.length_singleton, List.length_cons]; omega) e2 e3⟩
    rcases List.mem_append.mp he with z | z
    · exact ha e z
    · rw [List.mem_singleton.mp z]; exact hp
theorem sz6 : (2000000 : Nat) ≤ sizeLine := by rw [sizeLine_eq]; omega
/-! ### objects kept -/
theorem Sle.su {S S' : Sh} {p : Addr} {o : MO} (h : Sle S S') : Sle (su S p o) (su S' p o) := fun q x e => by
  by_cases z : q = p
  · rw [z, su_same] at e ⊢; exact e
  · rw [su_ne z] at e ⊢; exact h q x e
theorem Sle.none {S S' : Sh} {p : Addr} (h : Sle S S') (e : S' p = none) : S p = none := by
  cases q : S p with
  | none => rfl
  | some o => rw [h p o q] at e; cases e
theorem sle_end {Q : QD} {d : D} {S S' : Sh} (le : Sle S S') (h : Q d S) : (endsD Q).rt d S' := ⟨S, le, h⟩
theorem sle_new {Q : QD} {S S' : Sh} {o : MO} (le : Sle S S') {q : Addr} (hq : S' q = none) (h : ∀ q, S q = none → Q (.rf q) (su S q o)) : (endsD Q).rt (.rf q) (su S' q o) := ⟨su S q o, le.su, h q (le.none hq)⟩
/-! ### raised -/
/-- an exception of the class c with these fields is what is wished -/
def XBf (c : Addr) (fs : List (Str × D)) (S : Sh) (Xd : XD) : Prop := ∀ d, S d = none → Xd c d (su S d (.exn fs))
theorem XBf.end {c : Addr} {fs : List (Str × D)} {S0 S : Sh} {Xd : XD} {δ : Sl} (le : Sle S0 S) (h : XBf c fs S0 Xd) : XBf c fs S fun c d S' => endX Xd c d δ S' := fun d hd =>
  ⟨su S0 d (.exn fs), le.su, ⟨fs, su_same⟩, h d (le.none hd)⟩
end DL

set_option Elab.async false
set_option linter.all false
set_option maxRecDepth 100000
set_option maxHeartbeats 2000000
/-! name += e, divmod, str.index, range with a step, enumerate of a tuple from a count, a tuple at the top, list * int. -/
namespace DL
open PySem PySem.Spec PyProof.Rows L2
section
variable {X : Cx} {e a b c : Expr} {es : List Expr} {τ : ED} {α : AD} {te : TE} {al : TA} {pos q p : Pos} {x : Str} {tg : Expr}
/-! ### name op= e -/
theorem ps_aug {i : Nat} {op : Operator} {ti : TIp} (hN : X.N.Nodup) (hi : X.N[i]? = some x) (hx : Loc X.env.scope x) (he : PE X e te) (ho : PIp X op ti) (hf : X.fn x = true ∨ X.env.scope.names.lookup x = some .local := by first | exact .inl rfl | exact .inr rfl | assumption) :
    PS X (.AugAssign (.Name x q) op e pos) (tAug i te ti) :=
  ⟨fun {pi s σ H D} k I h => by
    obtain ⟨v, e1, h⟩ := h
    obtain ⟨m, hn, hl⟩ := I.loc
    have vis : Vis X.env.scope x := by rcases hx with k | k; exact .inl k; exact .inr (.inl k)
    obtain ⟨u, r, l⟩ := hl i x v hi e1 vis
    refine wpAny_AugAssign_Name ?_
    have go : wpAny (model X.prog X.w) X.A (eval e X.env) (fun w s₂ => wpAny (model X.prog X.w) X.A (inplaceOp op u w) (fun r s₃ => wpAny (model X.prog X.w) X.A (storeName X.env x r) (fun _ => SP X pi D .next) X.xe s₃) X.xe s₂) X.xe s := by
      refine tn k (he.run k I h) fun w s1 k1 ⟨y, H1, I1, r1, q1⟩ => ?_
      refine tn k1 (ho pi s1 σ H1 v y u w _ I1 r r1 q1) fun z s2 k2 ⟨zv, H2, I2, r2, q2⟩ => ?_
      exact store_ok I2 hN hi hx r2 (fun s3 I3 => ⟨_, H2, I3, q2⟩) hf
    rcases l with ⟨hk, hm⟩ | ⟨hk, c, hc, hcell⟩
    · exact wpAny_loadName_local I.ok.kind hk hn hm go
    · rcases hk with hk | hk
      · exact wpAny_loadName_cell I.ok.kind hk hc hcell go
      · rcases hx with k | k
        · have : X.env.scope.names.lookup x = some .free := hk
          rw [k] at this; cases this
        · have : X.env.scope.names.lookup x = some .free := hk
          rw [k] at this; cases this⟩
/-- ints -/
def dAugI (f : Int → Int → Int) (i : Nat) (τ : ED) : SD := fun F δ S => match δ[i]? with
  | some (some (.int a)) => τ δ S fun y S1 => match y with
    | .int b => F.nx (δ.set i (some (.int (f a b)))) S1
    | _ => False
  | _ => False
theorem s_aug (i : Nat) {op : Operator} {f : Int → Int → Int} (hN : X.N.Nodup) (ho : PIp X op (ipI f)) (he : E X e τ) (hi : X.N[i]? = some x := by rfl) (hx : Loc X.env.scope x := by first | exact Or.inl rfl | exact Or.inr rfl) (hf : X.fn x = true ∨ X.env.scope.names.lookup x = some .local := by first | exact .inl rfl | exact .inr rfl) :
    S1 X (.AugAssign (.Name x q) op e pos) (dAugI f i τ) := by
  obtain ⟨t, a1, a2⟩ := he
  refine ⟨_, ps_aug hN hi hx a1 ho hf, fun σ H δ S w sl F G hn hr hb hc h => ?_⟩
  unfold dAugI at h
  cases ed : δ[i]? with
  | none => simp only [ed] at h
  | some o =>
    cases o with
    | none => simp only [ed] at h
    | some d =>
      simp only [ed] at h
      cases d <;> try exact h.elim
      rename_i n
      obtain ⟨v, ev, rv⟩ := sl.2 i _ ed
      obtain rfl := rv
      refine ⟨_, ev, a2 σ H δ S w sl _ _ (fun y H1 dy S1 g r q => ?_) h⟩
      cases dy <;> try exact q.elim
      rename_i m
      obtain rfl := r
      exact ⟨n, m, rfl, rfl, hn _ H1 _ S1 g (SlOk.set (d := .int (f n m)) (sl.im (g.im w)) i rfl) q⟩
/-! ### divmod -/
def dDivmod : CD := fun ds S Q => match ds with | [.int i, .int j] => CDiv i j ∧ Q (.tup [.int (i / j), .int (i % j)]) S | _ => False
theorem c_divmod : C X (.builtin "divmod") dDivmod := by
  refine ⟨_, call_divmod, fun H S vs ds w rs Q R k q => ?_⟩
  rcases ds with _ | ⟨d, _ | ⟨d2, _ | ⟨d3, ds⟩⟩⟩
  · exact False.elim q
  · cases d <;> exact False.elim q
  · obtain ⟨v, r, rfl, rv, v2, r2, rfl, rv2, rfl⟩ := rs
    cases d <;> first | exact False.elim q | skip
    cases d2 <;> first | exact False.elim q | skip
    rename_i i j
    obtain rfl := rv
    obtain rfl := rv2
    refine ⟨i, j, rfl, q.1, fun p hp => ?_⟩
    have g := Go.new (u := .tup [.int (i / j), .int (i % j)]) w hp
    exact k _ _ (.tup [.int (i / j), .int (i % j)]) S g ⟨p, [.int (i / j), .int (i % j)], rfl, SqT.of upd_same, .int (i / j), _, rfl, rfl, .int (i % j), _, rfl, rfl, rfl⟩ q.2
  · cases d <;> first | exact False.elim q | (cases d2 <;> exact False.elim q)
/-! ### s.index(t), found -/
theorem mt_index : MtR X "str.index" (fun x xs H Q => ∃ (a b : Str) (k : Nat), x = .str a ∧ xs = [.str b] ∧ Txt.index0 a b = some k ∧ Q (.int (k : Nat)) H) := by
  intro pins s σ H x xs v us Q I rx rs h
  obtain ⟨a, b, k, rfl, rfl, hk, w⟩ := h
  obtain ⟨t, rfl⟩ := rx
  cases rs with
  | cons r1 rs =>
    cases rs
    obtain ⟨u, rfl⟩ := r1
    unfold Txt.index0 at hk
    cases q : Builtin.Str.occurrences a b 0 a.length 1 with
    | nil => rw [q] at hk; cases hk
    | cons k' rest =>
      rw [q] at hk
      cases hk
      exact PySem.SC.index q ⟨.int (k : Nat), H, I.tok _, ⟨_, rfl⟩, w⟩
def dIndex : MD := fun x ds S Q => match x, ds with | .str s, [.str t] => ∃ k : Nat, Txt.index0 (tx s) (tx t) = some k ∧ Q (.int (k : Nat)) S | _, _ => False
theorem m_index : M X "str.index" dIndex := by
  refine ⟨_, mt_index, fun H S x dx vs ds w rx rs Q R k q => ?_⟩
  cases dx <;> first | exact False.elim q | skip
  rename_i s
  obtain rfl := rx
  rcases ds with _ | ⟨d, _ | ⟨d2, ds⟩⟩
  · exact False.elim q
  · obtain ⟨v, r2, rfl, rv, rfl⟩ := rs
    cases d <;> first | exact False.elim q | skip
    rename_i t
    obtain rfl := rv
    obtain ⟨n, hn, q⟩ := q
    exact ⟨_, _, n, rfl, rfl, hn, k _ H (.int (n : Nat)) S (Go.refl w) rfl q⟩
  · cases d <;> exact False.elim q
/-! ### range(i, j, c), upwards -/
def rngC (lo c : Int) (n : Nat) : List D := (List.range n).map fun i : Nat => .int (lo + (i : Nat) * c)
theorem simj_rngC {K : PySem.W.Frag} {Hb : Hp} {S : Sh} {H : Hp} {lo c : Int} {n : Nat} : SimJ K Hb S H (Itc lo c n) (rngC lo c n) (fun _ => True) := fun S' H' g _ i => by
  refine ⟨fun d hd => ?_, fun hi => ?_⟩
  · unfold rngC at hd
    rw [List.getElem?_map] at hd
    have hl : i < n := by
      cases e : (List.range n)[i]? with
      | none => rw [e] at hd; cases hd
      | some j => have := (List.getElem?_eq_some_iff.mp e).1; simpa using this
    rw [List.getElem?_range hl] at hd
    cases hd
    exact ⟨hl, fun x H2 ⟨e1, e2⟩ => by subst e1; subst e2; exact ⟨Go.refl g.wd, rfl⟩⟩
  · show n ≤ i
    simpa [rngC] using hi
/-- how many -/
def nC (i j c : Int) : Nat := if i < j then ((j - i - 1) / c + 1).toNat else 0
theorem rgc_up {i j c : Int} (hc : 0 < c) (hc2 : c < 1073741824) (ha : 0 ≤ i) (hj : 0 ≤ j) (ha' : i < 2 ^ 61) (hb' : j < 2 ^ 61) : RgC i j c (nC i j c) := by
  have hs : Builtin.Range.rangeSize i j c = (nC i j c : Int) := by
    unfold Builtin.Range.rangeSize nC
    rw [if_pos hc]
    split
    · have : 0 ≤ (j - i - 1) / c := Int.ediv_nonneg (by omega) (by omega)
      omega
    · rfl
  refine ⟨by omega, by omega, ?_, hs⟩
  have hn : (nC i j c : Int) ≤ 2 ^ 61 := by
    unfold nC
    split
    · have := Int.ediv_le_self c (show (0 : Int) ≤ j - i - 1 by omega)
      have : 0 ≤ (j - i - 1) / c := Int.ediv_nonneg (by omega) (by omega)
      omega
    · omega
  have hn0 : 0 ≤ (nC i j c : Int) := Int.natCast_nonneg _
  unfold Builtin.Range.small
  rw [hs]
  generalize (nC i j c : Int) = m at *
  simp only [Builtin.Range.rangeFitsLong, Bool.and_eq_true, Bool.or_eq_true, decide_eq_true_eq, beq_iff_eq]
  rw [if_pos (show c > 0 from hc), Bool.and_eq_true, decide_eq_true_eq, decide_eq_true_eq]
  omega
theorem pi_range3 (hg : Gl X "range") (hm : X.mg "range" = none) (ha : PA X [a, b, c] al) (hs : starEach [a, b, c] X.env = (false, eval a X.env) :: starEach [b, c] X.env := by rfl) (hpl : (backTo pos (starEach [b, c] X.env)).any (·.1) = false := by rfl) :
    PI X tg (.Call (.Name "range" p) [a, b, c] [] pos) (iRng3 al) :=
  ⟨fun {pi s σ H R} k I h => Call_ (ld_blt I hg hm boot_range (PyProof.Rows.callWith_type1 (tn k (ha.run pos k I h) fun us s1 _ ⟨vs, H1, I1, r1, q1⟩ => by
    obtain ⟨i, j, k, n, e, ⟨c0, c1, c2, c3⟩, q⟩ := q1
    subst e
    rcases r1 with _ | ⟨⟨t1, rfl⟩, r1⟩
    rcases r1 with _ | ⟨⟨t2, rfl⟩, r1⟩
    rcases r1 with _ | ⟨⟨t3, rfl⟩, r1⟩
    cases r1
    refine call_range_3 c0 ?_ (.inl (PyProof.noPylong_small c1))
    refine wpAny_pyIter_range (IsRange.new ..) c2 ?_
    have I2 : Inv X pi σ H1 { s1 with heap := s1.heap.push { cls := .type "range", data := .fields #[.int i t1, .int j t2, .int k t3] } } := I1.kept (t' := s1.toks) fun b o e => Heap.get?_push_of_some _ e
    refine pi_one (tk := s1.toks) I2 _ (turn_rangeC _ i k n) ?_ q
    have e1 : i + ((0 : Nat) : Int) * k = i := by simp
    have e2 : (n : Int) - ((0 : Nat) : Int) = Builtin.Range.rangeSize i j k := by rw [c3]; simp
    show IsRangeIter _ _ (i + ((0 : Nat) : Int) * k) ((n : Int) - ((0 : Nat) : Int)) k
    rw [e1, e2]
    exact Heap.get?_push_size _ rfl) hs hpl))⟩
def dRng3 (a : AD) : ID := fun δ S Q => a δ S fun ds S1 => match ds with | [.int i, .int j, .int c] => (0 < c ∧ c < 1073741824 ∧ 0 ≤ i ∧ 0 ≤ j ∧ i < 2 ^ 61 ∧ j < 2 ^ 61) ∧ Q (rngC i c (nC i j c)) (fun _ => True) S1 | _ => False
theorem i_rng3 (hm : X.mg "range" = none) (ha : A X [a, b, c] α) (hg : Gl X "range" := by rfl) (hs : starEach [a, b, c] X.env = (false, eval a X.env) :: starEach [b, c] X.env := by rfl) (hpl : (backTo pos (starEach [b, c] X.env)).any (·.1) = false := by rfl) : I X tg (.Call (.Name "range" p) [a, b, c] [] pos) (dRng3 α) := by
  obtain ⟨t, a1, a2⟩ := ha
  refine ⟨_, pi_range3 hg hm a1 hs hpl, fun σ H δ S w sl Q R k h => ?_⟩
  refine a2 σ H δ S w sl _ _ (fun vs H1 ds S1 g1 rs q => ?_) h
  unfold dRng3 at h
  rcases ds with _ | ⟨d1, _ | ⟨d2, _ | ⟨d3, _ | ⟨d4, ds⟩⟩⟩⟩
  · exact False.elim q
  · cases d1 <;> exact False.elim q
  · cases d1 <;> first | exact False.elim q | (cases d2 <;> exact False.elim q)
  · obtain ⟨v1, r1, rfl, rv1, v2, r2, rfl, rv2, v3, r3, rfl, rv3, rfl⟩ := rs
    cases d1 <;> first | exact False.elim q | skip
    cases d2 <;> first | exact False.elim q | skip
    cases d3 <;> first | exact False.elim q | skip
    rename_i i j c
    obtain rfl := rv1
    obtain rfl := rv2
    obtain rfl := rv3
    obtain ⟨⟨q1, q2, q3, q4, q5, q6⟩, q⟩ := q
    exact ⟨i, j, c, nC i j c, rfl, rgc_up q1 q2 q3 q4 q5 q6, k _ H1 S1 _ _ g1 simj_rngC trivial q⟩
  · cases d1 <;> first | exact False.elim q | (cases d2 <;> first | exact False.elim q | (cases d3 <;> exact False.elim q))
/-! ### enumerate(tuple, start=k) -/
def IteT (K : PySem.W.Frag) (a : Addr) (k0 : Int) : It :=
  ⟨fun i H => ∃ (xs : List V) (x : V), SqT K H a xs ∧ xs[i]? = some x, fun i H v H' => ∃ T x, v = .ref T ∧ H T = none ∧ H' = upd H T (.tup [.int (k0 + (i : Nat)), x]) ∧ ∀ xs, SqT K H a xs → xs[i]? = some x, fun i H => ∃ xs : List V, SqT K H a xs ∧ xs.length ≤ i⟩
theorem Draws.end {prog : Program} {w : World} {A : Around} (hh : A.handled = none) (it t : Addr) (items : Array Value) (i : Nat) (hx : items[i]? = none) :
    Draws prog w A it [it, t] i (fun _ _ => True) (fun j h => j = i ∧ h.IsTupleIter it t i ∧ h.IsTuple t items) where
  live := fun _ _ st => let ⟨o, ho, _⟩ := st.2.1; ⟨o, ho⟩
  frame := fun _ _ _ st hk => ⟨st.1, st.2.1.at fun o e => hk it (by simp) o e, st.2.2.at fun o e => hk t (by simp) o e⟩
  item := fun j s Q E hi st hQ => absurd st.1 (by omega)
  done := fun s Q E st hE => wpAny_nextOf_tuple_end hh st.2.1 st.2.2 hx hE
theorem turn_enumT {P : Program} {w : World} {K : PySem.W.Frag} {elts : List Expr} {kk : Nat} {tpos : Pos} (a e it : Addr) (k0 : Int) :
    Turn P w K (.Tuple elts kk tpos) (IteT K a k0) [e, it] e (fun i h => (∃ old, IsEnum h e it (k0 + ((i : Nat) : Int)) old) ∧ h.IsTupleIter it a i ∧ e ≠ it ∧ a ≠ it ∧ e ≠ a) where
  mem := by simp
  obj := fun i h st b hb => by
    obtain ⟨⟨old, he⟩, ⟨o, ho, hc, hd⟩, _⟩ := st
    have e' : b = e ∨ b = it := by simpa using hb
    rcases e' with z | z
    · rw [z]; exact ⟨_, he, fun v q => nomatch q⟩
    · rw [z]; exact ⟨o, ho, fun v q => by rw [hd] at q; cases q⟩
  keep := fun i h h' st k => let ⟨⟨old, he⟩, hi, hne⟩ := st; ⟨⟨old, k e (by simp) _ he⟩, hi.at fun o q => k it (by simp) o q, hne⟩
  item := by
    intro X hP hw hK hc i pins s σ H E I hf st hg
    subst hP hw hK
    obtain ⟨⟨old, he⟩, hit, hne, h2, h3⟩ := st
    obtain ⟨xs, x, hq, hx⟩ := hg
    obtain ⟨its, rv, p, hz⟩ := I.tuple hq
    obtain ⟨u, hu, ru⟩ := rv.get hx
    have hel : e < s.heap.objs.size := Heap.lt_size he
    have hil : it < s.heap.objs.size := by obtain ⟨_, q, _⟩ := hit; exact Heap.lt_size q
    have p' : s.heap.IsTuple a its.toArray := p
    have hi : i < its.toArray.size := by
      have := (List.getElem?_eq_some_iff.mp hu).1
      simpa using this
    refine wpAny_pyNext_enum_itemC (Draws.tuple (A := X.A.in1) (I.ok.hd hc) it a h2 its.toArray) he ⟨hit, p'⟩ hi hne (by simp [hne, h3]) fun y h' tk hy ho st' hT hsz hk => ?_
    obtain rfl : y = u := by
      rw [show its.toArray[i]? = some u by simpa using hu] at hy
      exact (Option.some.inj hy).symm
    refine ⟨_, rfl, wpAny_letOwnedTupleGo_enum (s := { s with heap := h', toks := tk + 1 }) ho fun h'' he' sb => ?_⟩
    have hT2 : h''.get? s.heap.objs.size = some { cls := .type "tuple", data := .seq #[.int (k0 + (i : Nat)) tk, y] } := (sb.2 _ (Nat.ne_of_gt hel)).trans hT
    have new : ObjOk X.prog X.w (upd H s.heap.objs.size (.tup [.int (k0 + (i : Nat)), x])) h'' s.heap.objs.size (.tup [.int (k0 + (i : Nat)), x]) :=
      ⟨by show 2 ≤ sizeLine; decide, [.int (k0 + (i : Nat)) tk, y], .cons ⟨_, rfl⟩ (.cons ru .nil), ⟨_, hT2, rfl, _, rfl⟩⟩
    have I1 : Inv X pins σ (upd H s.heap.objs.size (.tup [.int (k0 + (i : Nat)), x])) { s with heap := h'', toks := tk + 1 } :=
      I.turnedNew (ch := [e, it]) (fun b ob hb q => (sb.2 b (fun z => hb (by simp [z]))).trans (hk b ob (fun z => hb (by simp [z])) (fun z => hb (by simp [z])) q)) hf (Nat.le_refl _) new
    refine ⟨.ref s.heap.objs.size, _, I1, rfl, ⟨_, x, rfl, I.hok.fresh (Nat.le_refl _), rfl, fun ys hy => by rw [I.tuple_inj hy hq]; exact hx⟩, ⟨⟨y, ?_⟩, st'.1.at fun o q => (sb.2 it (Ne.symm hne)).trans q, hne, h2, h3⟩, fun b hb => ?_⟩
    · have e1 : k0 + ((i + 1 : Nat) : Int) = k0 + (i : Int) + 1 := by omega
      rw [e1]; exact he'
    · have hb' : b < s.heap.objs.size := by
        have e' : b = e ∨ b = it := by simpa using hb
        rcases e' with z | z
        · rw [z]; exact hel
        · rw [z]; exact hil
      rw [upd_ne (Nat.ne_of_lt hb')]
      exact (hf b hb).1
  done := by
    intro X hP hw hK hc i pins s σ H E I hf st hg
    subst hP hw hK
    obtain ⟨⟨old, he⟩, hit, hne, h2, h3⟩ := st
    obtain ⟨xs, hq, hx⟩ := hg
    obtain ⟨its, rv, p, hz⟩ := I.tuple hq
    obtain ⟨f0, f1, f2, f3, f4, f5⟩ := hf it (by simp)
    have hl := rv.length
    have p' : s.heap.IsTuple a its.toArray := p
    exact wpAny_pyNext_enum_endD (Draws.end (A := X.A.in1) (I.ok.hd hc) it a its.toArray i (by simp; omega)) he ⟨rfl, hit, p'⟩ fun h' eb => ⟨rfl, I.turned (t' := s.toks) (fun b o hb q => eb b o hb q) f0 f1 f3 f4 f5⟩
  self := fun A i s Q E st h => let ⟨⟨_, he⟩, _⟩ := st; wpAny_pyIter_enum he h
end
section
variable {M : Model} {A : Around} {E : Value → Shared → Prop} {s : Shared} {env : Env}
theorem callWith_typeK {pos : Pos} {T : String} {first : List Value} {args : List (Bool × Sem Value)} {keywords : List (Option Str × Sem Value)} {Q : Value → Shared → Prop}
    (hplain : args.any (·.1) = false) (hkw : keywords.any (·.1.isNone) = false)
    (h : wpAny M A (evalArgs (.type T) true args keywords) (fun a s₁ => wpAny M A (call (.type T) (first ++ a.pos) a.kw) Q E s₁) E s) :
    wpAny M A (callWith pos (.type T) first args keywords) Q E s := by
  unfold callWith
  refine wpAny_bind (wpAny_holding (wpAny_mono h (fun a s₁ h₁ => wpAny_bind (wpAny_standAt ?_)) fun _ _ x => x))
  simp only [hplain, hkw, Bool.or_false]
  refine wpAny_bind (wpAny_pure ?_)
  exact wpAny_bind (wpAny_mono h₁ (fun r s₂ hr => wpAny_bind (wpAny_holding (wpAny_point (wpAny_pure hr)))) fun _ _ x => x)
theorem callWith_typeKw {pos : Pos} {T : String} {e : Expr} {rest : List Expr} {kws : List Keyword} {Q : Value → Shared → Prop}
    (h : wpAny M A (spliced (backTo pos (starEach (e :: rest) env))) (fun vs s₁ => wpAny M A (evalAll ((backToKw pos (keywordEach kws env)).map (·.2)))
      (fun kvs s₂ => wpAny M A (call (.type T) vs (((backToKw pos (keywordEach kws env)).filterMap (·.1)).zip kvs)) Q E s₂) E s₁) E s)
    (he : backTo pos (starEach (e :: rest) env) = (false, eval e env) :: backTo pos (starEach rest env) := by rfl)
    (hplain : (backTo pos (starEach (e :: rest) env)).any (·.1) = false := by rfl)
    (hall : (backToKw pos (keywordEach kws env)).all (·.1.isSome) = true := by rfl)
    (hkw : (backToKw pos (keywordEach kws env)).any (·.1.isNone) = false := by rfl) :
    wpAny M A (callWith pos (.type T) [] (backTo pos (starEach (e :: rest) env)) (backToKw pos (keywordEach kws env))) Q E s := by
  refine callWith_typeK hplain hkw ?_
  rw [he] at h ⊢
  exact evalArgs_kwB hall h
end
section
variable {X : Cx} {e : Expr} {α : AD} {al : TA} {pos p kp cp : Pos} {elts : List Expr} {kk : Nat} {tpos : Pos} {k0 : Int} {knd : Option String}
def iEnumT (K : PySem.W.Frag) (k0 : Int) (ta : TA) : TI := fun σ H R => ta σ H fun vs H1 => ∃ a xs, vs = [.ref a] ∧ SqT K H1 a xs ∧ R (IteT K a k0) H1
theorem pi_enumT (h0 : -(2 ^ 63) ≤ k0) (h1 : k0 < 2 ^ 63) (hg : Gl X "enumerate") (hm : X.mg "enumerate" = none) (ha : PA X [e] al) {j} (hs : backTo pos (starEach [e] X.env) = (false, eval e X.env) :: backTo pos (starEach [] X.env) := by rfl)
    (hpl : (backTo pos (starEach [e] X.env)).any (·.1) = false := by rfl) : PI X (.Tuple elts kk tpos) (.Call (.Name "enumerate" p) [e] [⟨some (Str.ofString "start"), .Constant (.int k0) j cp, kp⟩] pos) (iEnumT X.K k0 al) :=
  ⟨fun {pi s σ H R} k I h => by
    refine wpAny_Call_Name_kw (ld_blt I hg hm boot_enumerate (callWith_typeKw (tn k (ha.run pos k I h) fun us s1 k1 ⟨vs, H1, I1, r1, q1⟩ => ?_) hs hpl))
    obtain ⟨a, xs, ex, hq, q⟩ := q1
    subst ex
    rcases r1 with _ | ⟨r, r1⟩
    cases r
    cases r1
    refine PyProof.Rows.kws_cons (tn k1 ((DL.pe_int (X := X) (pos := cp)).run (Q := fun v H' => v = .int k0 ∧ H' = H1) k1 I1 ⟨rfl, rfl⟩) fun v s2 k2 ⟨x, H2, I2, rx, e1, e2⟩ => PyProof.Rows.kws_nil ?_)
    subst e1 e2
    obtain ⟨t, rfl⟩ := rx
    obtain ⟨its, rv, p', hz⟩ := I2.tuple hq
    show wpAny _ _ (call (.type "enumerate") [.ref a] [(Str.ofString "start", .int k0 t)]) _ _ _
    refine PySem.enum_begins_start (begins_tuple a its.toArray) (show s2.heap.IsTuple a its.toArray from p') h0 h1 fun h' he hit hsz hk => wpAny_pyIter_enum he ?_
    have hal : a < s2.heap.objs.size := by obtain ⟨_, hh, _⟩ := id p'; exact Heap.lt_size hh
    have I3 : Inv X pi σ H2 { s2 with heap := h' } := I2.kept (t' := s2.toks) hk
    refine ⟨s2.heap.objs.size + 1, [s2.heap.objs.size + 1, s2.heap.objs.size], _, _, H2, rfl, I3, turn_enumT a (s2.heap.objs.size + 1) s2.heap.objs.size k0, ⟨⟨.none, ?_⟩, ⟨_, hit, rfl, rfl⟩, Nat.succ_ne_self _, Nat.ne_of_lt hal, Ne.symm (Nat.ne_of_lt (Nat.lt_succ_of_lt hal))⟩, fun b hb => ?_, q⟩
    · rw [show k0 + ((0 : Nat) : Int) = k0 by omega]
      exact he
    · have e' : b = s2.heap.objs.size + 1 ∨ b = s2.heap.objs.size := by simpa using hb
      have hle : s2.heap.objs.size ≤ b := by
        rcases e' with z | z
        · rw [z]; exact Nat.le_add_right _ _
        · rw [z]; exact Nat.le_refl _
      exact I2.fpOk hle (I2.hok.fresh hle)⟩
def enumD (k : Int) : List D → List D
  | [] => []
  | x :: xs => .tup [.int k, x] :: enumD (k + 1) xs
theorem enumD_len : ∀ (xs : List D) (k : Int), (enumD k xs).length = xs.length
  | [], _ => rfl
  | x :: xs, k => by unfold enumD; rw [List.length_cons, List.length_cons, enumD_len xs]
theorem enumD_get : ∀ {xs : List D} {k : Int} {i : Nat} {d : D}, (enumD k xs)[i]? = some d → ∃ x, xs[i]? = some x ∧ d = .tup [.int (k + (i : Nat)), x]
  | [], k, i, d, h => by cases h
  | x :: xs, k, 0, d, h => by
    unfold enumD at h
    cases h
    exact ⟨x, rfl, by rw [show k + ((0 : Nat) : Int) = k by omega]⟩
  | x :: xs, k, i + 1, d, h => by
    unfold enumD at h
    obtain ⟨y, h1, h2⟩ := enumD_get (xs := xs) h
    exact ⟨y, h1, by rw [h2, show k + 1 + ((i : Nat) : Int) = k + ((i + 1 : Nat) : Int) by omega]⟩
theorem simj_enumT {K : PySem.W.Frag} {Hb : Hp} {S : Sh} {H : Hp} {a : Addr} {vs : List V} {xs : List D} (rx : Reps K H xs vs) (ha : SqT K H a vs) : SimJ K Hb S H (IteT K a k0) (enumD k0 xs) (fun _ => True) := fun S' H' g _ i => by
  have im := g.im
  have h1 := im.t _ _ ha
  have r1 := rx.im im
  refine ⟨fun d hd => ?_, fun hi => ⟨vs, h1, by rw [enumD_len, rx.length] at hi; exact hi⟩⟩
  obtain ⟨x, hx, rfl⟩ := enumD_get hd
  obtain ⟨v, hv, rv⟩ := r1.get hx
  refine ⟨⟨vs, v, h1, hv⟩, fun z H2 ⟨T, v', e1, e2, e3, e4⟩ => ?_⟩
  have f1 := e4 vs h1
  rw [hv] at f1
  cases f1
  subst e1
  subst e3
  have g2 := Go.new (u := .tup [.int (k0 + (i : Nat)), v]) g.wd e2
  exact ⟨g2, T, [.int (k0 + (i : Nat)), v], rfl, SqT.of upd_same, .int (k0 + (i : Nat)), _, rfl, rfl, v, _, rfl, rv.im (g2.im g.wd), rfl⟩
def dEnumT (k0 : Int) (a : AD) : ID := fun δ S Q => a δ S fun ds S1 => match ds with | [.tup xs] => Q (enumD k0 xs) (fun _ => True) S1 | _ => False
theorem i_enumT (hm : X.mg "enumerate" = none) (ha : A X [e] α) {j} (h0 : -(2 ^ 63) ≤ k0 := by decide) (h1 : k0 < 2 ^ 63 := by decide) (hg : Gl X "enumerate" := by rfl) (hs : backTo pos (starEach [e] X.env) = (false, eval e X.env) :: backTo pos (starEach [] X.env) := by rfl)
    (hpl : (backTo pos (starEach [e] X.env)).any (·.1) = false := by rfl) : I X (.Tuple elts kk tpos) (.Call (.Name "enumerate" p) [e] [⟨some (Str.ofString "start"), .Constant (.int k0) j cp, kp⟩] pos) (dEnumT k0 α) := by
  obtain ⟨t, a1, a2⟩ := ha
  refine ⟨_, pi_enumT h0 h1 hg hm a1 hs hpl, fun σ H δ S w sl Q R k h => ?_⟩
  refine a2 σ H δ S w sl _ _ (fun vs H1 ds S1 g1 rs q => ?_) h
  rcases ds with _ | ⟨d, _ | ⟨d2, ds⟩⟩
  · exact False.elim q
  · obtain ⟨v, r, rfl, rv, rfl⟩ := rs
    cases d <;> first | exact False.elim q | skip
    rename_i xs
    obtain ⟨t1, vs1, rfl, q1, rs1⟩ := rv
    exact ⟨t1, vs1, rfl, q1, k _ H1 S1 _ _ g1 (simj_enumT rs1 q1) trivial q⟩
  · cases d <;> exact False.elim q
end
/-! ### [..] * n -/
section
variable {X : Cx} {a b : Expr} {ν : AD} {τ : ED} {pos : Pos}
def dRepL (l : AD) (b : ED) : AD := fun δ S Q => l δ S fun xs S1 => b δ S1 fun y S2 => match y with
  | .int n => -(2 ^ 63) ≤ n ∧ n < 2 ^ 63 ∧ xs.length * n.toNat ≤ sizeLine ∧ Q (List.replicate n.toNat xs).flatten S2
  | _ => False
theorem n_rep (ha : N X a ν) (hb : E X b τ) : N X (.BinOp a .Mult b pos) (dRepL ν τ) := by
  obtain ⟨ta, a1, a2⟩ := ha
  obtain ⟨tb, b1, b2⟩ := hb
  refine ⟨_, pe_op op_rep a1 b1, fun σ H δ S w sl Q R k h => ?_⟩
  refine a2 σ H δ S w sl _ _ (fun p H1 vs ds S1 g1 h0 hp hs rs q => ?_) h
  refine b2 σ H1 δ S1 g1.wd (sl.im (g1.im w)) _ _ (fun v H2 d S2 g2 rv q2 => ?_) q
  cases d <;> first | exact False.elim q2 | skip
  rename_i n
  obtain rfl := rv
  obtain ⟨q1, q3, q4, q5⟩ := q2
  refine ⟨p, n, vs, rfl, rfl, g2.ext p _ hp hs, q1, q3, by rw [← rs.length]; exact q4, fun z hz => ?_⟩
  have g := Go.new (u := .lst (List.replicate n.toNat vs).flatten) g2.wd hz
  exact k z _ _ (List.replicate n.toNat ds).flatten S2 ((g1.trans g2).trans g) ((g1.trans g2).th _ hz) upd_same (g2.wd.free hz) (((reps_flat rs _).im (g2.im g1.wd)).im (g.im g2.wd)) q5
end
/-! ### a tuple of ints at the top -/
theorem reps_ints {K : PySem.W.Frag} {H : Hp} : ∀ is : List Int, Reps K H (is.map D.int) (is.map V.int)
  | [] => rfl
  | i :: is => ⟨.int i, _, rfl, rfl, reps_ints is⟩
theorem glob_tupI {K : PySem.W.Frag} {mg : Str → Option Value} {x : Str} {a : Addr} {o : Obj} {its : Array Value} {n : Nat} (is : List Int) (h : mg x = some (.ref a)) (hk : K.lookup a = some o) (hc : o.cls = .type "tuple" := by rfl) (hd : o.data = .seq its n := by rfl) (hz : its.size ≤ sizeLine := by decide)
    (hv : Vals (is.map V.int) its.toList := by exact .cons ⟨_, rfl⟩ (.cons ⟨_, rfl⟩ (.cons ⟨_, rfl⟩ (.cons ⟨_, rfl⟩ (.cons ⟨_, rfl⟩ .nil))))) : GlobC K mg x (.tup (is.map D.int)) :=
  ⟨_, .ref a, h, rfl, fun H => ⟨a, is.map V.int, rfl, .inr ⟨o, its, n, hk, hc, hd, hz, hv⟩, reps_ints is⟩⟩
end DL

set_option Elab.async false
set_option linter.all false
set_option maxRecDepth 100000
namespace LW
open PySem PySem.Spec L2 DL PySem.StrLaws PySem.Builtin.Str PyProof.Rows
/-! ### signs within quotes -/
def e1 (c : Nat) : List Nat := if c = 92 then [92, 92] else if c = 34 then [92, 34] else if c = 10 then [92, 110] else [c]
def esc (s : List Nat) : List Nat := s.flatMap e1
theorem esc_nil : esc [] = [] := rfl
theorem esc_cons (c : Nat) (s : List Nat) : esc (c :: s) = e1 c ++ esc s := rfl
theorem esc_app (a b : List Nat) : esc (a ++ b) = esc a ++ esc b := by unfold esc; exact List.flatMap_append
theorem e1_92 : e1 92 = [92, 92] := rfl
theorem e1_34 : e1 34 = [92, 34] := rfl
theorem e1_10 : e1 10 = [92, 110] := rfl
theorem e1_o {c : Nat} (h1 : c ≠ 92) (h2 : c ≠ 34) (h3 : c ≠ 10) : e1 c = [c] := by unfold e1; rw [if_neg h1, if_neg h2, if_neg h3]
/-- the four kinds of signs -/
theorem e1_cases (c : Nat) : c = 92 ∨ c = 34 ∨ c = 10 ∨ (c ≠ 92 ∧ c ≠ 34 ∧ c ≠ 10) := by omega
theorem repl_one (y : Nat) (z : List Nat) : ∀ s : List Nat, replD [y] z s = s.flatMap fun c => if c = y then z else [c]
  | [] => replL_nil
  | c :: r => by
    have ih := repl_one y z r
    unfold replD at *
    by_cases h : c = y
    · rw [replL_hit (by simp) (by simp [h])]
      show z ++ replL [y] z r = _
      rw [ih, List.flatMap_cons, if_pos h]
    · rw [replL_miss (by simp [h]), ih, List.flatMap_cons, if_neg h]
      rfl
theorem show_text (s : List Nat) : replD [10] [92, 110] (replD [34] [92, 34] (replD [92] [92, 92] s)) = esc s := by
  rw [repl_one, repl_one, repl_one, List.flatMap_assoc, List.flatMap_assoc]
  unfold esc
  congr 1
  funext c
  rcases e1_cases c with h | h | h | ⟨h1, h2, h3⟩
  · subst h; rfl
  · subst h; rfl
  · subst h; rfl
  · rw [e1_o h1 h2 h3]; simp [h1, h2, h3]
theorem flat_le (f : Nat → List Nat) (h : ∀ c, (f c).length ≤ 2) : ∀ s : List Nat, (s.flatMap f).length ≤ 2 * s.length
  | [] => Nat.le_refl _
  | c :: r => by
    rw [List.flatMap_cons, List.length_append, List.length_cons]
    have := flat_le f h r
    have := h c
    omega
theorem repl_le (y : Nat) (z s : List Nat) (hz : z.length ≤ 2) : (replD [y] z s).length ≤ 2 * s.length := by
  rw [repl_one]
  exact flat_le _ (fun c => by split <;> first | exact hz | simp) s
/-- cut at the backslashes -/
def cut : List Nat → List Nat → List (List Nat)
  | acc, [] => [acc]
  | acc, c :: r => if c = 92 then acc :: cut [] r else cut (acc ++ [c]) r
theorem spl_esc : ∀ (s acc : List Nat), TL.spl [92, 92] 0 (esc acc) (esc s) = (cut acc s).map esc
  | [], acc => by rw [esc_nil, TL.spl_nil]; rfl
  | c :: r, acc => by
    rw [esc_cons]
    rcases e1_cases c with h | h | h | ⟨h1, h2, h3⟩
    · subst h
      rw [e1_92]
      show TL.spl [92, 92] 0 (esc acc) (92 :: 92 :: esc r) = _
      rw [TL.spl_hit (by rfl), TL.spl_pass]
      show esc acc :: TL.spl [92, 92] 0 [] (esc r) = _
      have ih := spl_esc r []
      rw [esc_nil] at ih
      rw [ih]
      rfl
    · subst h
      rw [e1_34]
      show TL.spl [92, 92] 0 (esc acc) (92 :: 34 :: esc r) = _
      rw [TL.spl_miss (by rfl), TL.spl_miss (by rfl)]
      have ih := spl_esc r (acc ++ [34])
      rw [esc_app, esc_cons, esc_nil, e1_34] at ih
      show TL.spl [92, 92] 0 (esc acc ++ [92] ++ [34]) (esc r) = (cut (acc ++ [34]) r).map esc
      rw [List.append_assoc]
      exact ih
    · subst h
      rw [e1_10]
      show TL.spl [92, 92] 0 (esc acc) (92 :: 110 :: esc r) = _
      rw [TL.spl_miss (by rfl), TL.spl_miss (by rfl)]
      have ih := spl_esc r (acc ++ [10])
      rw [esc_app, esc_cons, esc_nil, e1_10] at ih
      show TL.spl [92, 92] 0 (esc acc ++ [92] ++ [110]) (esc r) = (cut (acc ++ [10]) r).map esc
      rw [List.append_assoc]
      exact ih
    · rw [e1_o h1 h2 h3]
      show TL.spl [92, 92] 0 (esc acc) (c :: esc r) = _
      rw [TL.spl_miss (TL.pre_of_head _ _ h1)]
      have ih := spl_esc r (acc ++ [c])
      rw [esc_app, esc_cons, esc_nil, e1_o h1 h2 h3] at ih
      show _ = (if c = 92 then acc :: cut [] r else cut (acc ++ [c]) r).map esc
      rw [if_neg h1]
      exact ih
theorem cut_ne : ∀ (s acc : List Nat), cut acc s ≠ []
  | [], acc => by unfold cut; simp
  | c :: r, acc => by
    unfold cut
    split
    · simp
    · exact cut_ne r _
theorem join_cut : ∀ (s acc : List Nat), TL.joinL [92] (cut acc s) = acc ++ s
  | [], acc => by unfold cut; rw [List.append_nil]; rfl
  | c :: r, acc => by
    unfold cut
    by_cases h : c = 92
    · rw [if_pos h]
      have ih := join_cut r []
      cases hc : cut [] r with
      | nil => exact absurd hc (cut_ne r [])
      | cons p q =>
        rw [hc] at ih
        show acc ++ ([92] ++ TL.joinL [92] (p :: q)) = _
        rw [ih, h]
        rfl
    · rw [if_neg h, join_cut r, List.append_assoc]
      rfl
theorem cut_mem : ∀ (s acc : List Nat), 92 ∉ acc → ∀ p ∈ cut acc s, 92 ∉ p
  | [], acc, h, p, hp => by
    unfold cut at hp
    rw [List.mem_singleton.mp hp]
    exact h
  | c :: r, acc, h, p, hp => by
    unfold cut at hp
    by_cases e : c = 92
    · rw [if_pos e] at hp
      rcases List.mem_cons.mp hp with z | z
      · rw [z]; exact h
      · exact cut_mem r [] (by simp) p z
    · rw [if_neg e] at hp
      exact cut_mem r _ (by simp [h, Ne.symm e]) p hp
/-- a piece without backslashes read back -/
def f10 (c : Nat) : List Nat := if c = 10 then [92, 110] else [c]
theorem un34 : ∀ s : List Nat, 92 ∉ s → replD [92, 34] [34] (esc s) = s.flatMap f10
  | [], _ => replL_nil
  | c :: r, h => by
    have hc : c ≠ 92 := fun z => h (by rw [z]; exact List.mem_cons_self ..)
    have ih := un34 r fun z => h (List.mem_cons_of_mem _ z)
    unfold replD at *
    rw [esc_cons, List.flatMap_cons]
    rcases e1_cases c with z | z | z | ⟨h1, h2, h3⟩
    · exact absurd z hc
    · subst z
      rw [e1_34]
      show replL [92, 34] [34] (92 :: 34 :: esc r) = _
      rw [replL_hit (by simp) (by rfl)]
      show [34] ++ replL [92, 34] [34] (esc r) = _
      rw [ih]
      rfl
    · subst z
      rw [e1_10]
      show replL [92, 34] [34] (92 :: 110 :: esc r) = _
      rw [replL_miss (by simp), replL_miss (by simp), ih]
      rfl
    · rw [e1_o h1 h2 h3]
      show replL [92, 34] [34] (c :: esc r) = _
      rw [replL_miss (by simp [hc]), ih]
      unfold f10
      rw [if_neg h3]
      rfl
theorem un10 : ∀ s : List Nat, 92 ∉ s → replD [92, 110] [10] (s.flatMap f10) = s
  | [], _ => replL_nil
  | c :: r, h => by
    have hc : c ≠ 92 := fun z => h (by rw [z]; exact List.mem_cons_self ..)
    have ih := un10 r fun z => h (List.mem_cons_of_mem _ z)
    unfold replD at *
    rw [List.flatMap_cons]
    by_cases z : c = 10
    · subst z
      show replL [92, 110] [10] (92 :: 110 :: r.flatMap f10) = _
      rw [replL_hit (by simp) (by rfl)]
      show [10] ++ replL [92, 110] [10] (r.flatMap f10) = _
      rw [ih]
      rfl
    · have e : f10 c = [c] := if_neg z
      rw [e]
      show replL [92, 110] [10] (c :: r.flatMap f10) = _
      rw [replL_miss (by simp [hc]), ih]
theorem un_esc {s : List Nat} (h : 92 ∉ s) : replD [92, 110] [10] (replD [92, 34] [34] (esc s)) = s := by rw [un34 s h, un10 s h]
theorem un34_le {s : List Nat} (h : 92 ∉ s) : (replD [92, 34] [34] (esc s)).length ≤ 2 * s.length := by
  rw [un34 s h]
  exact flat_le _ (fun c => by unfold f10; split <;> simp) s
theorem esc_le (s : List Nat) : (esc s).length ≤ 2 * s.length := flat_le _ (fun c => by unfold e1; split <;> (try split) <;> (try split) <;> simp) s
theorem le_esc : ∀ s : List Nat, s.length ≤ (esc s).length
  | [] => Nat.le_refl _
  | c :: r => by
    rw [esc_cons, List.length_append, List.length_cons]
    have := le_esc r
    have : 1 ≤ (e1 c).length := by unfold e1; split <;> (try split) <;> (try split) <;> simp
    omega
/-! ### how many backslashes stand at the end -/
def tr (l : List Nat) : Nat := (l.reverse.takeWhile (· = 92)).length
theorem tr_app2 (l : List Nat) : tr (l ++ [92, 92]) = tr l + 2 := by unfold tr; simp
theorem tr_app1 (l : List Nat) : tr (l ++ [92]) = tr l + 1 := by unfold tr; simp
theorem tr_o (l : List Nat) {c : Nat} (h : c ≠ 92) : tr (l ++ [c]) = 0 := by unfold tr; simp [h]
theorem snoc_ind {P : List Nat → Prop} (h0 : P []) (h1 : ∀ l c, P l → P (l ++ [c])) (l : List Nat) : P l := by
  have key : ∀ m : List Nat, P m.reverse := fun m => by
    induction m with
    | nil => exact h0
    | cons c r ih => rw [List.reverse_cons]; exact h1 _ _ ih
  have := key l.reverse
  rwa [List.reverse_reverse] at this
theorem tr_esc (s : List Nat) : tr (esc s) % 2 = 0 := by
  refine snoc_ind (P := fun s => tr (esc s) % 2 = 0) rfl (fun l c ih => ?_) s
  rw [esc_app, esc_cons, esc_nil, List.append_nil]
  rcases e1_cases c with z | z | z | ⟨h1, h2, h3⟩
  · subst z; rw [e1_92, tr_app2]; omega
  · subst z
    rw [e1_34, show esc l ++ [92, 34] = (esc l ++ [92]) ++ [34] from by simp, tr_o _ (by decide)]
  · subst z
    rw [e1_10, show esc l ++ [92, 110] = (esc l ++ [92]) ++ [110] from by simp, tr_o _ (by decide)]
  · rw [e1_o h1 h2 h3, tr_o _ h1]
/-! ### find from a place, signs cut off -/
theorem find3_in (t y : List Nat) (a : Int) : Txt.find3 (tx t) (tx y) a = Txt.findIn (tx t) (tx y) a t.length := by
  unfold Txt.find3 Txt.findIn
  have g : toIndexW (tx t).length (t.length : Int) = (tx t).length := by
    unfold toIndexW
    rw [str_len]
    rw [if_neg (by omega)]
    omega
  rw [g]
  cases occurrences (tx t) (tx y) (fromIndex (tx t).length a) (tx t).length 1 <;> rfl
theorem find3_some {t : List Nat} {c a k : Nat} (h1 : t[k]? = some c) (ha : a ≤ k) (hm : ∀ j, a ≤ j → j < k → t[j]? ≠ some c) : Txt.find3 (tx t) (tx [c]) a = k := by
  rw [find3_in]
  exact find4_some h1 ha (List.getElem?_eq_some_iff.mp h1).1 hm
theorem sub_len {x : Str} {a b : Nat} (h : b ≤ x.length) : (strSub x a b).cps.toList.length = b - a := by
  rw [strSub_toList, List.length_take, List.length_drop]
  have : x.cps.toList.length = x.length := by simp [Str.length]
  omega
theorem has_tx (ds : List Nat) (c : Nat) : (tx ds).cps.contains c = decide (c ∈ ds) := by
  show ds.toArray.contains c = _
  rw [List.contains_toArray]
  simp [List.contains_iff_mem, Bool.eq_iff_iff]
/-- the signs of ds at the head of l are many -/
def ld (ds l : List Nat) : Nat := (l.takeWhile fun c => decide (c ∈ ds)).length
theorem lo_ld (ds l : List Nat) : stripLo (tx ds).cps.contains true (tx l) = ld ds l := by
  simp only [stripLo, if_true]
  show (l.takeWhile (tx ds).cps.contains).length = _
  unfold ld
  congr 2
  funext c
  exact has_tx ds c
theorem ld_le (ds l : List Nat) : ld ds l ≤ l.length := by unfold ld; exact List.takeWhile_prefix _ |>.length_le
theorem lstrip_len (ds l : List Nat) : (Txt.lstripChars (tx l) (tx ds)).cps.toList.length = l.length - ld ds l := by
  unfold Txt.lstripChars
  rw [stripBy_eq]
  have hi : stripHi (tx ds).cps.contains false (tx l) (stripLo (tx ds).cps.contains true (tx l)) = (tx l).length := by simp [stripHi]
  rw [hi, sub_len (Nat.le_refl _), lo_ld, str_len]
theorem ld_app {ds a b : List Nat} (h : ∀ c ∈ a, c ∈ ds) (hb : ∀ c r, b = c :: r → c ∉ ds) : ld ds (a ++ b) = a.length := by
  unfold ld
  induction a with
  | nil =>
    cases b with
    | nil => rfl
    | cons c r => rw [List.nil_append, List.takeWhile_cons, if_neg (by simpa using hb c r rfl)]
  | cons c r ih =>
    rw [List.cons_append, List.takeWhile_cons, if_pos (by simpa using h c (List.mem_cons_self ..)), List.length_cons, List.length_cons, ih fun d hd => h d (List.mem_cons_of_mem _ hd)]
theorem rstrip_len (l : List Nat) : (Txt.rstripChars (tx l) (tx [92])).cps.toList.length = l.length - tr l := by
  unfold Txt.rstripChars
  rw [stripBy_eq]
  have lo : stripLo (tx [92]).cps.contains false (tx l) = 0 := by simp [stripLo]
  rw [lo]
  have hh : stripHi (tx [92]).cps.contains true (tx l) 0 = l.length - tr l := by
    simp only [stripHi, if_true, List.drop_zero]
    rw [str_len]
    show l.length - (l.reverse.takeWhile (tx [92]).cps.contains).length = _
    unfold tr
    congr 3
    funext c
    rw [has_tx]
    simp
  rw [hh, sub_len (by rw [str_len]; omega)]
  omega
end LW

set_option Elab.async false
set_option linter.all false
set_option maxRecDepth 100000
set_option exponentiation.threshold 5000
namespace LW
open PySem PySem.Spec L2 DL PyProof.Rows
/-! ### numbers -/
theorem decs_nat (n : Nat) : decs ((n : Nat) : Int) = TL.numL n := TL.tl_num n
theorem ofS_app (a b : String) : (Str.ofString (a ++ b)).cps.toList = (Str.ofString a).cps.toList ++ (Str.ofString b).cps.toList := by
  rw [Str.ofString_eq_toList, Str.ofString_eq_toList, Str.ofString_eq_toList, String.toList_append, List.map_append]
theorem decs_neg {i : Int} (h : i < 0) : decs i = 45 :: decs (0 - i) := by
  unfold decs
  rw [toString_neg h, ofS_app]
  rfl
theorem decs_abs (i : Int) : decs i = (if i < 0 then [45] else []) ++ TL.numL i.natAbs := by
  by_cases h : i < 0
  · rw [if_pos h, decs_neg h, show (0 - i : Int) = ((i.natAbs : Nat) : Int) by omega, decs_nat]; rfl
  · rw [if_neg h, List.nil_append, ← decs_nat, show ((i.natAbs : Nat) : Int) = i by omega]
/-- the first number of 4,001 digits -/
def bigL : Nat := 10 ^ 4000
theorem big_le : bigL ≤ bigD := by unfold bigL bigD; exact Nat.pow_le_pow_right (by decide) (by decide)
theorem num_len {n : Nat} (h : n < bigL) : (TL.numL n).length ≤ 4000 := TL.numL_len (by decide) (by unfold bigL at h; exact h)
theorem num_pos (n : Nat) : 1 ≤ (TL.numL n).length := List.length_pos_iff.mpr (TL.numL_ne n)
theorem num_head (n : Nat) : (TL.numL n).head? = some 48 → TL.numL n = [48] := by
  induction n using Nat.strongRecOn with
  | _ n ih =>
    by_cases h : n < 10
    · rw [TL.numL_lt h]
      intro e
      rw [List.head?_cons] at e
      rw [Option.some.inj e]
    · rw [TL.numL_step (by omega)]
      intro e
      have ne := TL.numL_ne (n / 10)
      cases hx : TL.numL (n / 10) with
      | nil => exact absurd hx ne
      | cons c r =>
        rw [hx] at e
        have e' : (TL.numL (n / 10)).head? = some 48 := by rw [hx]; exact e
        have := ih (n / 10) (by omega) e'
        have z : TL.numL (n / 10) = TL.numL 0 := by rw [this, TL.numL_lt (by decide)]
        have := TL.numL_inj z
        omega
theorem int_back {i : Int} (h : i.natAbs < bigL) : PySem.intText? ⟨(decs i).toArray⟩ = some i := by
  have hl := num_len h
  rw [decs_abs]
  by_cases hi : i < 0
  · rw [if_pos hi]
    have e := PySem.intText_neg (x := ⟨([45] ++ TL.numL i.natAbs).toArray⟩) (cs := TL.numL i.natAbs) (by simp) (TL.numL_digits _) (TL.numL_ne _) (by rw [str_len, List.length_append]; show 1 + _ ≤ 4300; omega)
    rw [e, TL.numL_val]
    congr 1
    omega
  · rw [if_neg hi, List.nil_append]
    have e := PySem.intText_digits (x := ⟨(TL.numL i.natAbs).toArray⟩) (by simpa using TL.numL_digits _) (by simpa using TL.numL_ne _) (by rw [str_len]; omega)
    rw [e]
    simp only [List.toList_toArray]
    rw [TL.numL_val]
    congr 1
    omega
theorem decs_asc (i : Int) : ∀ c ∈ decs i, c ≠ 0 ∧ c < 128 := fun c hc => by
  rw [decs_abs] at hc
  rcases List.mem_append.mp hc with z | z
  · split at z
    · rw [List.mem_singleton] at z; omega
    · cases z
  · have := TL.numL_digits _ c z
    omega
theorem decs_len {i : Int} (h : i.natAbs < bigL) : 1 ≤ (decs i).length ∧ (decs i).length ≤ 4001 := by
  rw [decs_abs, List.length_append]
  have := num_len h
  have := num_pos i.natAbs
  split <;> simp <;> omega
/-! ### the text of a value -/
mutual
def showD : D → List Nat
  | .non => [78]
  | .bl true => [84]
  | .bl false => [70]
  | .int i => decs i
  | .str s => 34 :: (esc s ++ [34])
  | .tup xs => 40 :: (TL.joinL [32] (showDs xs) ++ [41])
  | _ => []
def showDs : List D → List (List Nat)
  | [] => []
  | x :: xs => showD x :: showDs xs
end
theorem showDs_map : ∀ xs : List D, showDs xs = xs.map showD
  | [] => rfl
  | x :: xs => by rw [List.map_cons, ← showDs_map xs]; rfl
/-- the signs of texts -/
def okq (c : Nat) : Bool := decide (c = 10) || (decide (32 ≤ c) && decide (c ≤ 126) && !decide (c = 37))
mutual
def gd : D → Prop
  | .non => True
  | .bl _ => True
  | .int i => i.natAbs < bigL
  | .str s => s.all okq = true
  | .tup xs => gds xs
  | _ => False
def gds : List D → Prop
  | [] => True
  | x :: xs => gd x ∧ gds xs
end
theorem gds_mem : ∀ {xs : List D}, gds xs → ∀ x ∈ xs, gd x
  | y :: xs, h, x, hx => by
    rcases List.mem_cons.mp hx with z | z
    · rw [z]; exact h.1
    · exact gds_mem h.2 x z
mutual
def dep : D → Nat
  | .tup xs => deps xs + 1
  | _ => 0
def deps : List D → Nat
  | [] => 0
  | x :: xs => max (dep x) (deps xs)
end
theorem dep_mem : ∀ {xs : List D} {x : D}, x ∈ xs → dep x ≤ deps xs
  | y :: xs, x, hx => by
    unfold deps
    rcases List.mem_cons.mp hx with z | z
    · rw [z]; omega
    · have := dep_mem z; omega
theorem show_pos {v : D} (h : gd v) : 1 ≤ (showD v).length := by
  cases v with
  | non => exact Nat.le_refl _
  | bl b => cases b <;> exact Nat.le_refl _
  | int i => exact (decs_len h).1
  | str s => unfold showD; rw [List.length_cons]; omega
  | tup xs => unfold showD; rw [List.length_cons]; omega
  | _ => exact h.elim
/-! ### joined parts -/
theorem join_cons2 (S p q : List Nat) (r : List (List Nat)) : TL.joinL S (p :: q :: r) = p ++ (S ++ TL.joinL S (q :: r)) := rfl
theorem join_sum : ∀ ys : List (List Nat), (ys.map (·.length)).sum + ys.length ≤ (TL.joinL [32] ys).length + 1
  | [] => by simp [TL.joinL]
  | [p] => by simp [TL.joinL]
  | p :: q :: r => by
    have ih := join_sum (q :: r)
    rw [join_cons2, List.length_append, List.length_append, List.map_cons, List.sum_cons, List.length_cons]
    simp only [List.length_cons, List.length_nil] at *
    omega
theorem mem_le {ys : List (List Nat)} {y : List Nat} (h : y ∈ ys) : y.length ≤ (TL.joinL [32] ys).length := by
  have e := join_sum ys
  have : y.length ≤ (ys.map (·.length)).sum := by
    induction ys with
    | nil => cases h
    | cons z zs ih =>
      rw [List.map_cons, List.sum_cons]
      rcases List.mem_cons.mp h with w | w
      · rw [w]; omega
      · have := ih w (join_sum zs); omega
  have : 1 ≤ ys.length := by cases ys with | nil => cases h | cons _ _ => simp
  omega
/-! ### slices -/
theorem cut_ab {β : Type} {xs : List β} {a b : Nat} (ha : a ≤ b) : DL.cutD xs (some (a : Int)) (some (b : Int)) = (xs.drop a).take (b - a) := by
  unfold DL.cutD
  rw [HT.sIx_nat, HT.sIx_nat]
  by_cases h : b ≤ xs.length
  · rw [Nat.min_eq_left h, Nat.min_eq_left (Nat.le_trans ha h)]
  · rw [Nat.min_eq_right (by omega)]
    by_cases h2 : a ≤ xs.length
    · rw [Nat.min_eq_left h2, List.take_of_length_le (by rw [List.length_drop]; omega), List.take_of_length_le (by rw [List.length_drop]; omega)]
    · rw [Nat.min_eq_right (by omega), List.drop_of_length_le (by omega), List.drop_of_length_le (by omega)]
      simp
/-- the signs from a place on -/
theorem cut_at {p m r : List Nat} {a b : Int} (ha : a = p.length) (hb : b = p.length + m.length) : DL.cutD (p ++ (m ++ r)) (some a) (some b) = m := by
  subst ha
  rw [show b = ((p.length + m.length : Nat) : Int) by omega, cut_ab (by omega), List.drop_left, Nat.add_sub_cancel_left, List.take_left]
theorem cut_c {p r : List Nat} {c : Nat} {a b : Int} (ha : a = p.length) (hb : b = p.length + 1) : DL.cutD (p ++ c :: r) (some a) (some b) = [c] := cut_at (m := [c]) ha hb
theorem cut_n {p r : List Nat} {a b : Int} {n : Nat} (ha : a = p.length) (hb : b = p.length + n) : DL.cutD (p ++ r) (some a) (some b) = r.take n := by
  subst ha
  rw [show b = ((p.length + n : Nat) : Int) by omega, cut_ab (by omega), List.drop_left, Nat.add_sub_cancel_left]
end LW

set_option Elab.async false
set_option linter.all false
set_option maxRecDepth 100000
namespace LW
open PySem PySem.Spec L2 DL
/-! ### signs and digits -/
def SG : List Nat := [10, 32, 33, 34, 35, 36, 38, 39, 40, 41, 42, 43, 44, 45, 46, 47, 48, 49, 50, 51, 52, 53, 54, 55, 56, 57, 58, 59, 60, 61, 62, 63, 64, 65, 66, 67, 68, 69, 70, 71, 72, 73, 74, 75, 76, 77, 78, 79, 80, 81, 82, 83, 84, 85, 86, 87, 88, 89, 90, 91, 92, 93, 94, 95, 96, 97, 98, 99, 100, 101, 102, 103, 104, 105, 106, 107, 108, 109, 110, 111, 112, 113, 114, 115, 116, 117, 118, 119, 120, 121, 122, 123, 124, 125, 126]
def DGS : List Nat := [48, 49, 50, 51, 52, 53, 54, 55, 56, 57, 97, 98, 99, 100, 101, 102, 103, 104, 105, 106, 107, 108, 109, 110, 111, 112, 113, 114, 115, 116, 117, 118, 119, 120, 121, 122, 65, 66, 67, 68, 69, 70, 71, 72, 73, 74, 75, 76, 77, 78, 79, 80, 81, 82, 83, 84, 85, 86, 87, 88, 89, 90, 43, 45]
def ix (tbl : List Nat) (c : Nat) : Nat := tbl.idxOf c
def val (b : Nat) (tbl g : List Nat) : Nat := g.foldl (fun a c => b * a + ix tbl c) 0
def pd (b : Nat) (tbl : List Nat) : Nat → Nat → List Nat → List Nat
  | 0, _, acc => acc
  | n + 1, w, acc => pd b tbl n (w / b) (tbl.getD (w % b) 0 :: acc)
def gD (g : List Nat) : List Nat := pd 64 DGS (g.length + 1) (val 95 SG g) []
def BND : List Nat := [0, 0, 95, 9025, 857375]
def gS (g : List Nat) : Option (List Nat) := if BND.getD g.length 0 ≤ val 64 DGS g then none else some (pd 95 SG (g.length - 1) (val 64 DGS g) [])
theorem sg_ix : ∀ c ∈ SG, ix SG c < 95 ∧ SG.getD (ix SG c) 0 = c := by decide +kernel
theorem dg_ix : ∀ c ∈ DGS, ix DGS c < 64 ∧ DGS.getD (ix DGS c) 0 = c := by decide +kernel
theorem sg_get : ∀ i < 95, SG.getD i 0 ∈ SG ∧ ix SG (SG.getD i 0) = i := by decide +kernel
theorem dg_get : ∀ i < 64, DGS.getD i 0 ∈ DGS ∧ ix DGS (DGS.getD i 0) = i := by decide +kernel
theorem sg_index : ∀ c ∈ SG, Txt.index0 (tx SG) (tx [c]) = some (ix SG c) := by decide +kernel
theorem dg_index : ∀ c ∈ DGS, Txt.index0 (tx DGS) (tx [c]) = some (ix DGS c) := by decide +kernel
theorem sg_find : ∀ c ∈ SG, Txt.find (tx SG) (tx [c]) = ((ix SG c : Nat) : Int) := by decide +kernel
theorem dg_find : ∀ c ∈ DGS, Txt.find (tx DGS) (tx [c]) = ((ix DGS c : Nat) : Int) := by decide +kernel
theorem pd_acc (b : Nat) (tbl : List Nat) : ∀ (n w : Nat) (acc : List Nat), pd b tbl n w acc = pd b tbl n w [] ++ acc
  | 0, w, acc => rfl
  | n + 1, w, acc => by
    unfold pd
    rw [pd_acc b tbl n _ (_ :: acc), pd_acc b tbl n _ [_], List.append_assoc]
    rfl
theorem pd_len (b : Nat) (tbl : List Nat) : ∀ (n w : Nat) (acc : List Nat), (pd b tbl n w acc).length = n + acc.length
  | 0, w, acc => by unfold pd; omega
  | n + 1, w, acc => by unfold pd; rw [pd_len b tbl n, List.length_cons]; omega
theorem pd_snoc (b : Nat) (tbl : List Nat) (n w : Nat) : pd b tbl (n + 1) w [] = pd b tbl n (w / b) [] ++ [tbl.getD (w % b) 0] := by
  show pd b tbl n (w / b) [_] = _
  rw [pd_acc]
theorem pd_mem (b : Nat) (tbl : List Nat) (h : ∀ i < b, tbl.getD i 0 ∈ tbl) (hb : 0 < b) : ∀ (n w : Nat) (acc : List Nat), (∀ c ∈ acc, c ∈ tbl) → ∀ c ∈ pd b tbl n w acc, c ∈ tbl
  | 0, w, acc, ha => ha
  | n + 1, w, acc, ha => by
    unfold pd
    refine pd_mem b tbl h hb n _ _ fun c hc => ?_
    rcases List.mem_cons.mp hc with z | z
    · rw [z]; exact h _ (Nat.mod_lt _ hb)
    · exact ha c z
theorem val_snoc (b : Nat) (tbl g : List Nat) (c : Nat) : val b tbl (g ++ [c]) = b * val b tbl g + ix tbl c := by
  unfold val
  rw [List.foldl_append]
  rfl
theorem val_nil (b : Nat) (tbl : List Nat) : val b tbl [] = 0 := rfl
theorem val_lt (b : Nat) (tbl : List Nat) (hb : 0 < b) (h : ∀ c ∈ tbl, ix tbl c < b) (g : List Nat) : (∀ c ∈ g, c ∈ tbl) → val b tbl g < b ^ g.length := by
  refine snoc_ind (P := fun g => (∀ c ∈ g, c ∈ tbl) → val b tbl g < b ^ g.length) (fun _ => ?_) (fun l c ih hc => ?_) g
  · simp [val]
  · have h1 := ih fun x hx => hc x (List.mem_append_left _ hx)
    have h2 := h c (hc c (by simp))
    rw [val_snoc, List.length_append, List.length_singleton, Nat.pow_succ]
    have : b * (val b tbl l + 1) ≤ b * b ^ l.length := Nat.mul_le_mul_left _ h1
    rw [Nat.mul_add, Nat.mul_one] at this
    rw [Nat.mul_comm (b ^ l.length)]
    omega
/-- read back: n digits of w -/
theorem val_pd (b : Nat) (tbl : List Nat) (hb : 0 < b) (h : ∀ i < b, ix tbl (tbl.getD i 0) = i) : ∀ (n w : Nat), w < b ^ n → val b tbl (pd b tbl n w []) = w
  | 0, w, hw => by
    rw [Nat.pow_zero] at hw
    show 0 = w
    omega
  | n + 1, w, hw => by
    rw [pd_snoc, val_snoc, val_pd b tbl hb h n (w / b) (by
      rw [Nat.pow_succ] at hw
      exact (Nat.div_lt_iff_lt_mul hb).mpr hw), h _ (Nat.mod_lt _ hb)]
    exact Nat.div_add_mod w b
/-- the digits of a value -/
theorem pd_val (b : Nat) (tbl : List Nat) (hb : 0 < b) (h : ∀ c ∈ tbl, ix tbl c < b ∧ tbl.getD (ix tbl c) 0 = c) (g : List Nat) : (∀ c ∈ g, c ∈ tbl) → pd b tbl g.length (val b tbl g) [] = g := by
  refine snoc_ind (P := fun g => (∀ c ∈ g, c ∈ tbl) → pd b tbl g.length (val b tbl g) [] = g) (fun _ => rfl) (fun l c ih hc => ?_) g
  have h1 := ih fun x hx => hc x (List.mem_append_left _ hx)
  obtain ⟨h2, h3⟩ := h c (hc c (by simp))
  rw [val_snoc, List.length_append, List.length_singleton, pd_snoc]
  have e1 : (b * val b tbl l + ix tbl c) / b = val b tbl l := by
    rw [Nat.mul_add_div hb, Nat.div_eq_of_lt h2, Nat.add_zero]
  have e2 : (b * val b tbl l + ix tbl c) % b = ix tbl c := by
    rw [Nat.mul_add_mod, Nat.mod_eq_of_lt h2]
  rw [e1, e2, h1, h3]
theorem bnd : ∀ n, n = 1 ∨ n = 2 ∨ n = 3 → BND.getD (n + 1) 0 = 95 ^ n ∧ 95 ^ n < 64 ^ (n + 1) := by
  rintro n (rfl | rfl | rfl) <;> decide
theorem gD_len (g : List Nat) : (gD g).length = g.length + 1 := by unfold gD; rw [pd_len]; rfl
theorem gD_mem (g : List Nat) : ∀ c ∈ gD g, c ∈ DGS := pd_mem 64 DGS (fun i hi => (dg_get i hi).1) (by decide) _ _ _ fun c hc => by cases hc
theorem gS_gD (g : List Nat) (hg : ∀ c ∈ g, c ∈ SG) (h1 : 1 ≤ g.length) (h3 : g.length ≤ 3) : gS (gD g) = some g := by
  obtain ⟨b1, b2⟩ := bnd g.length (by omega)
  have hv := val_lt 95 SG (by decide) (fun c hc => (sg_ix c hc).1) g hg
  have e : val 64 DGS (gD g) = val 95 SG g := val_pd 64 DGS (by decide) (fun i hi => (dg_get i hi).2) _ _ (by omega)
  unfold gS
  rw [gD_len, b1, e, if_neg (by omega)]
  rw [Nat.add_sub_cancel, pd_val 95 SG (by decide) sg_ix g hg]
/-! ### chunks -/
def ch (n : Nat) : Nat → List Nat → List (List Nat)
  | 0, _ => []
  | k + 1, [] => []
  | k + 1, c :: s => (c :: s).take n :: ch n k ((c :: s).drop n)
def chs (n : Nat) (s : List Nat) : List (List Nat) := ch n s.length s
theorem ch_fuel {n : Nat} (hn : 1 ≤ n) : ∀ (k j : Nat) (s : List Nat), s.length ≤ k → s.length ≤ j → ch n k s = ch n j s
  | 0, j, s, h1, h2 => by
    have : s = [] := List.length_eq_zero_iff.mp (by omega)
    subst this
    cases j <;> rfl
  | k + 1, 0, s, h1, h2 => by
    have : s = [] := List.length_eq_zero_iff.mp (by omega)
    subst this
    rfl
  | k + 1, j + 1, [], h1, h2 => rfl
  | k + 1, j + 1, c :: s, h1, h2 => by
    rw [List.length_cons] at h1 h2
    unfold ch
    rw [ch_fuel hn k j _ (by rw [List.length_drop, List.length_cons]; omega) (by rw [List.length_drop, List.length_cons]; omega)]
theorem chs_nil (n : Nat) : chs n [] = [] := rfl
theorem chs_cons {n : Nat} (hn : 1 ≤ n) {s : List Nat} (hs : s ≠ []) : chs n s = s.take n :: chs n (s.drop n) := by
  cases s with
  | nil => exact absurd rfl hs
  | cons c s =>
    show (c :: s).take n :: ch n s.length ((c :: s).drop n) = _
    unfold chs
    rw [ch_fuel hn s.length ((c :: s).drop n).length _ (by rw [List.length_drop, List.length_cons]; omega) (Nat.le_refl _)]
theorem chs_flat {n : Nat} (hn : 1 ≤ n) : ∀ (k : Nat) (s : List Nat), s.length ≤ k → (chs n s).flatten = s
  | 0, s, h => by
    have : s = [] := List.length_eq_zero_iff.mp (by omega)
    subst this; rfl
  | k + 1, s, h => by
    by_cases hs : s = []
    · subst hs; rfl
    · have : 1 ≤ s.length := by cases s with | nil => exact absurd rfl hs | cons c r => simp
      rw [chs_cons hn hs, List.flatten_cons, chs_flat hn k _ (by rw [List.length_drop]; omega), List.take_append_drop]
theorem chs_mem {n : Nat} (hn : 1 ≤ n) : ∀ (k : Nat) (s : List Nat), s.length ≤ k → ∀ g ∈ chs n s, 1 ≤ g.length ∧ g.length ≤ n ∧ ∀ c ∈ g, c ∈ s
  | 0, s, h, g, hg => by
    have : s = [] := List.length_eq_zero_iff.mp (by omega)
    subst this; cases hg
  | k + 1, s, h, g, hg => by
    by_cases hs : s = []
    · subst hs; cases hg
    · have : 1 ≤ s.length := by cases s with | nil => exact absurd rfl hs | cons c r => simp
      rw [chs_cons hn hs] at hg
      rcases List.mem_cons.mp hg with z | z
      · rw [z, List.length_take]
        exact ⟨by omega, by omega, fun c hc => List.mem_of_mem_take hc⟩
      · obtain ⟨h1, h2, h3⟩ := chs_mem hn k _ (by rw [List.length_drop]; omega) g z
        exact ⟨h1, h2, fun c hc => List.mem_of_mem_drop (h3 c hc)⟩
/-- coded groups, cut again -/
theorem chs_gD : ∀ (k : Nat) (s : List Nat), s.length ≤ k → chs 4 ((chs 3 s).flatMap gD) = (chs 3 s).map gD
  | 0, s, h => by
    have : s = [] := List.length_eq_zero_iff.mp (by omega)
    subst this; rfl
  | k + 1, s, h => by
    by_cases hs : s = []
    · subst hs; rfl
    · have h1 : 1 ≤ s.length := by cases s with | nil => exact absurd rfl hs | cons c r => simp
      have hl : (gD (s.take 3)).length = min 3 s.length + 1 := by rw [gD_len, List.length_take]
      rw [chs_cons (by decide) hs, List.flatMap_cons, List.map_cons]
      have hne : gD (s.take 3) ++ (chs 3 (s.drop 3)).flatMap gD ≠ [] := fun z => by
        have := congrArg List.length z
        rw [List.length_append, hl, List.length_nil] at this
        omega
      rw [chs_cons (by decide) hne]
      by_cases h3 : 3 ≤ s.length
      · have e4 : (gD (s.take 3)).length = 4 := by omega
        rw [List.take_append_of_le_length (by omega), List.take_of_length_le (by omega), List.drop_append_of_le_length (by omega), List.drop_of_length_le (by omega), List.nil_append, chs_gD k _ (by rw [List.length_drop]; omega)]
      · have e0 : s.drop 3 = [] := List.drop_of_length_le (by omega)
        rw [e0, chs_nil, List.flatMap_nil, List.map_nil, List.append_nil, List.take_of_length_le (by omega), List.drop_of_length_le (by omega), chs_nil]
/-! ### decoding -/
def dgo : Nat → List (List Nat) → Nat ⊕ List Nat
  | _, [] => .inr []
  | at', g :: gs => match gS g with
    | none => .inl (at' + g.length - 1)
    | some x => match dgo (at' + 4) gs with
      | .inl p => .inl p
      | .inr t => .inr (x ++ t)
def lineAt : List (List Nat) → Nat → Nat → Nat
  | [], _, n => n
  | l :: ls, p, n => if p < l.length then n else lineAt ls (p - l.length) (n + 1)
def okl (l : List Nat) : Bool := l.all fun c => decide (c ∈ DGS)
def bad1 : List (List Nat) → Nat → Option Nat
  | [], _ => none
  | l :: ls, n => if okl l = true then bad1 ls (n + 1) else some n
/-- the wrong line, or the text -/
def DD (lines : List (List Nat)) : Nat ⊕ List Nat := match bad1 lines 1 with
  | some n => .inl n
  | none => match dgo 0 (chs 4 lines.flatten) with
    | .inl p => .inl (lineAt lines p 1)
    | .inr t => .inr t
def code (t : List Nat) : List (List Nat) := chs 76 ((chs 3 t).flatMap gD)
theorem dgo_map : ∀ (gs : List (List Nat)) (a : Nat), (∀ g ∈ gs, gS (gD g) = some g) → dgo a (gs.map gD) = .inr gs.flatten
  | [], a, _ => rfl
  | g :: gs, a, h => by
    rw [List.map_cons]
    unfold dgo
    rw [h g List.mem_cons_self]
    dsimp only
    rw [dgo_map gs (a + 4) fun x hx => h x (List.mem_cons_of_mem _ hx)]
    rfl
theorem bad1_none : ∀ (ls : List (List Nat)) (n : Nat), (∀ c ∈ ls.flatten, c ∈ DGS) → bad1 ls n = none
  | [], n, _ => rfl
  | l :: ls, n, h => by
    unfold bad1
    rw [if_pos (show okl l = true from List.all_eq_true.mpr fun c hc => decide_eq_true (h c (by rw [List.flatten_cons]; exact List.mem_append_left _ hc)))]
    exact bad1_none ls (n + 1) fun c hc => h c (by rw [List.flatten_cons]; exact List.mem_append_right _ hc)
/-- there and back -/
theorem DD_code {t : List Nat} {ls : List (List Nat)} (ht : ∀ c ∈ t, c ∈ SG) (h : ls.flatten = (chs 3 t).flatMap gD) : DD ls = .inr t := by
  unfold DD
  rw [bad1_none ls 1 (by
    rw [h]
    intro c hc
    obtain ⟨g, _, hg⟩ := List.mem_flatMap.mp hc
    exact gD_mem g c hg)]
  dsimp only
  rw [h, chs_gD t.length t (Nat.le_refl _), dgo_map _ 0 fun g hg => by
    obtain ⟨h1, h2, h3⟩ := chs_mem (by decide) t.length t (Nat.le_refl _) g hg
    exact gS_gD g (fun c hc => ht c (h3 c hc)) h1 h2, chs_flat (by decide) t.length t (Nat.le_refl _)]
theorem code_flat (t : List Nat) : (code t).flatten = (chs 3 t).flatMap gD := chs_flat (by decide) _ _ (Nat.le_refl _)
theorem bad1_le : ∀ (ls : List (List Nat)) (n m : Nat), bad1 ls n = some m → n ≤ m ∧ m ≤ n + ls.length
  | [], n, m, h => by cases h
  | l :: ls, n, m, h => by
    unfold bad1 at h
    rw [List.length_cons]
    by_cases e : okl l = true
    · rw [if_pos e] at h
      have := bad1_le ls (n + 1) m h
      omega
    · rw [if_neg e] at h
      cases h
      omega
theorem lineAt_le : ∀ (ls : List (List Nat)) (p n : Nat), n ≤ lineAt ls p n ∧ lineAt ls p n ≤ n + ls.length
  | [], p, n => ⟨Nat.le_refl _, Nat.le_refl _⟩
  | l :: ls, p, n => by
    unfold lineAt
    rw [List.length_cons]
    split
    · omega
    · have := lineAt_le ls (p - l.length) (n + 1)
      omega
theorem DD_le {ls : List (List Nat)} {n : Nat} (h : DD ls = .inl n) : 1 ≤ n ∧ n ≤ 1 + ls.length := by
  unfold DD at h
  cases e : bad1 ls 1 with
  | some m =>
    rw [e] at h
    cases h
    exact bad1_le ls 1 _ e
  | none =>
    rw [e] at h
    dsimp only at h
    cases e2 : dgo 0 (chs 4 ls.flatten) with
    | inl p =>
      rw [e2] at h
      cases h
      exact lineAt_le ls p 1
    | inr t => rw [e2] at h; cases h
end LW

set_option Elab.async false
set_option linter.all false
set_option maxRecDepth 100000
namespace LW
open PySem PySem.Spec L2 DL PySem.StrLaws PySem.Builtin.Str PyProof.Rows
/-! ### a line of digits -/
theorem strip_len (ds l : List Nat) : (Txt.stripChars (tx l) (tx ds)).cps.toList.length = l.length - ((l.drop (ld ds l)).reverse.takeWhile fun c => decide (c ∈ ds)).length - ld ds l := by
  unfold Txt.stripChars
  rw [stripBy_eq, lo_ld]
  have hh : stripHi (tx ds).cps.contains true (tx l) (ld ds l) = l.length - ((l.drop (ld ds l)).reverse.takeWhile fun c => decide (c ∈ ds)).length := by
    simp only [stripHi, if_true]
    rw [str_len]
    show l.length - ((l.drop (ld ds l)).reverse.takeWhile (tx ds).cps.contains).length = _
    congr 3
    funext c
    exact has_tx ds c
  rw [hh, sub_len (by rw [str_len]; omega)]
theorem drop_ld (ds : List Nat) : ∀ l : List Nat, (∀ c ∈ l, c ∈ ds) ∨ ∃ c r, l.drop (ld ds l) = c :: r ∧ c ∉ ds
  | [] => .inl fun c h => by cases h
  | c :: r => by
    by_cases h : c ∈ ds
    · have e : ld ds (c :: r) = ld ds r + 1 := by unfold ld; rw [List.takeWhile_cons, if_pos (decide_eq_true h), List.length_cons]
      rcases drop_ld ds r with k | ⟨d, r', k1, k2⟩
      · exact .inl fun d hd => (List.mem_cons.mp hd).elim (fun z => by rw [z]; exact h) (k d)
      · exact .inr ⟨d, r', by rw [e, List.drop_succ_cons]; exact k1, k2⟩
    · have e : ld ds (c :: r) = 0 := by unfold ld; rw [List.takeWhile_cons, if_neg (by simpa using h)]; rfl
      exact .inr ⟨c, r, by rw [e]; rfl, h⟩
theorem tw_lt {ds : List Nat} {c : Nat} {r : List Nat} (h : c ∉ ds) : ((c :: r).reverse.takeWhile fun c => decide (c ∈ ds)).length ≤ r.length := by
  rw [List.reverse_cons, List.takeWhile_append]
  have hp := (List.takeWhile_prefix (fun c => decide (c ∈ ds)) (l := r.reverse)).length_le
  rw [List.length_reverse] at hp ⊢
  split
  · rw [List.length_append, List.length_reverse, List.takeWhile_cons, if_neg (by simpa using h)]
    exact Nat.le_refl _
  · exact hp
theorem strip_nil (l : List Nat) : decide ((Txt.stripChars (tx l) (tx DGS)).cps.toList = []) = okl l := by
  have hl := strip_len DGS l
  rcases drop_ld DGS l with k | ⟨c, r, k1, k2⟩
  · have e : ld DGS l = l.length := by
      have := ld_app (ds := DGS) (a := l) (b := []) k (fun c r z => by cases z)
      rw [List.append_nil] at this
      exact this
    rw [e] at hl
    rw [decide_eq_true (List.length_eq_zero_iff.mp (by omega))]
    exact (List.all_eq_true.mpr fun c hc => decide_eq_true (k c hc)).symm
  · rw [k1] at hl
    have h1 := tw_lt (r := r) k2
    have h2 := congrArg List.length k1
    rw [List.length_drop, List.length_cons] at h2
    have hne : (Txt.stripChars (tx l) (tx DGS)).cps.toList ≠ [] := fun z => by
      rw [z, List.length_nil] at hl
      omega
    rw [decide_eq_false hne]
    cases e : okl l with
    | false => rfl
    | true =>
      have hm : c ∈ l := List.mem_of_mem_drop (by rw [k1]; exact List.mem_cons_self)
      exact absurd (of_decide_eq_true (List.all_eq_true.mp e c hm)) k2
/-! ### chunks as offsets -/
theorem rngC_succ (lo c : Int) (m : Nat) : rngC lo c (m + 1) = .int lo :: rngC (lo + c) c m := by
  unfold rngC
  rw [List.range_succ_eq_map, List.map_cons, List.map_map]
  congr 1
  · simp
  · refine List.map_congr_left fun i _ => ?_
    show D.int (lo + ((i + 1 : Nat) : Int) * c) = D.int (lo + c + ((i : Nat) : Int) * c)
    congr 1
    rw [Int.natCast_add, Int.add_mul]
    simp
    omega
theorem chs_num {n : Nat} (hn : 1 ≤ n) : ∀ (k : Nat) (t : List Nat), t.length ≤ k → (chs n t).length = if t.length = 0 then 0 else (t.length - 1) / n + 1
  | 0, t, h => by
    have : t = [] := List.length_eq_zero_iff.mp (by omega)
    subst this; rfl
  | k + 1, t, h => by
    by_cases ht : t = []
    · subst ht; rfl
    · have h1 : 1 ≤ t.length := by cases t with | nil => exact absurd rfl ht | cons c r => simp
      rw [chs_cons hn ht, List.length_cons, chs_num hn k _ (by rw [List.length_drop]; omega), List.length_drop, if_neg (show ¬ t.length = 0 by omega)]
      by_cases hl : t.length ≤ n
      · rw [if_pos (by omega), Nat.div_eq_of_lt (by omega)]
      · rw [if_neg (by omega), show t.length - 1 = (t.length - n - 1) + n by omega, Nat.add_div_right _ (by omega)]
theorem nC_chs {n : Nat} (hn : 1 ≤ n) (t : List Nat) : nC 0 ((t.length : Nat) : Int) ((n : Nat) : Int) = (chs n t).length := by
  rw [chs_num hn t.length t (Nat.le_refl _)]
  unfold nC
  by_cases h : t.length = 0
  · rw [if_neg (by omega), if_pos h]
  · rw [if_pos (by omega), if_neg h, show ((t.length : Nat) : Int) - 0 - 1 = ((t.length - 1 : Nat) : Int) by omega]
    have e : ((t.length - 1 : Nat) : Int) / ((n : Nat) : Int) = (((t.length - 1) / n : Nat) : Int) := (Int.natCast_ediv _ _).symm
    rw [e]
    generalize (t.length - 1) / n = z
    omega
def Ac (n : Nat) (t : List Nat) (rest : List D) (p s : List Nat) : Prop := t = p ++ s ∧ ∃ lo : Int, rest = rngC lo ((n : Nat) : Int) (chs n s).length ∧ (s = [] ∨ lo = ((p.length : Nat) : Int))
theorem Ac.start {n : Nat} (hn : 1 ≤ n) (t : List Nat) : Ac n t (rngC 0 ((n : Nat) : Int) (nC 0 ((t.length : Nat) : Int) ((n : Nat) : Int))) [] t := ⟨rfl, 0, by rw [nC_chs hn], .inr rfl⟩
theorem Ac.cons {n : Nat} (hn : 1 ≤ n) {t : List Nat} {x : D} {xs : List D} {p s : List Nat} (h : Ac n t (x :: xs) p s) : s ≠ [] ∧ x = .int ((p.length : Nat) : Int) ∧ Ac n t xs (p ++ s.take n) (s.drop n) ∧ chs n s = s.take n :: chs n (s.drop n) := by
  obtain ⟨e, lo, er, hs⟩ := h
  have hne : s ≠ [] := fun z => by subst z; cases er
  have hc := chs_cons hn hne
  rw [hc, List.length_cons, rngC_succ] at er
  obtain ⟨rfl, rfl⟩ := List.cons.inj er
  have hlo := hs.resolve_left hne
  refine ⟨hne, by rw [hlo], ⟨by rw [e, List.append_assoc, List.take_append_drop], lo + ((n : Nat) : Int), rfl, ?_⟩, hc⟩
  by_cases hl : s.length ≤ n
  · exact .inl (List.drop_of_length_le hl)
  · refine .inr ?_
    rw [List.length_append, List.length_take, hlo]
    omega
theorem Ac.nil {n : Nat} (hn : 1 ≤ n) {t p s : List Nat} (h : Ac n t [] p s) : s = [] := by
  obtain ⟨e, lo, er, hs⟩ := h
  cases s with
  | nil => rfl
  | cons c s =>
    rw [chs_cons hn (by simp), List.length_cons, rngC_succ] at er
    cases er
theorem comp_chs {n : Nat} (hn : 1 ≤ n) {t : List Nat} (f : List Nat → D) {γ : GD} {τ : ED} {δ : Sl} {ck : Sh → Prop} {Q : List D → Sh → Prop} {S : Sh} (hc : ck S)
    (hs : ∀ p s, t = p ++ s → s ≠ [] → ∀ R : QD, R (f (s.take n)) S → γ (.int ((p.length : Nat) : Int)) δ S fun δ1 S1 => τ δ1 S1 R) :
    ∀ (rest acc : List D) (p s : List Nat), Ac n t rest p s → acc.length + (chs n s).length ≤ sizeLine → Q (acc ++ (chs n s).map f) S → dComp γ dYes τ δ ck Q rest acc S
  | [], acc, p, s, h, _, q => by
    have := h.nil hn
    subst this
    rw [chs_nil, List.map_nil, List.append_nil] at q
    exact q
  | x :: xs, acc, p, s, h, hl, q => by
    obtain ⟨h1, rfl, h3, h4⟩ := h.cons hn
    rw [h4, List.length_cons] at hl
    refine hs p s h.1 h1 _ ⟨by omega, hc, comp_chs hn f hc hs xs (acc ++ [f (s.take n)]) _ _ h3 (by rw [List.length_append, List.length_singleton]; omega) ?_⟩
    rw [h4, List.map_cons] at q
    rw [List.append_assoc]
    exact q
theorem chs_le {n : Nat} (hn : 1 ≤ n) (t : List Nat) : (chs n t).length ≤ t.length := by
  rw [chs_num hn t.length t (Nat.le_refl _)]
  split
  · omega
  · have := Nat.div_le_self (t.length - 1) n
    omega
end LW

set_option Elab.async false
set_option linter.all false
set_option maxRecDepth 100000

namespace LW
open PySem PySem.Spec L2 DL

def top (i : Nat) : Stmt := PySem.Challenge.pw_oncemail_k04_letters_codings.main.body.getD i (.Pass ⟨0, 0, 0, 0⟩)
abbrev s_BadLetterU_initU : Stmt := (inClass (top 2) 0)
abbrev s_group_digits : Stmt := (top 7)
abbrev s_group_signs : Stmt := (top 8)
abbrev s_line_at : Stmt := (top 9)
abbrev s_decoded : Stmt := (top 10)
abbrev s_write_coding : Stmt := (top 11)
abbrev s_read_coding : Stmt := (top 12)
abbrev s_llaw_cell : Stmt := (top 14)
abbrev s_llaw_digits : Stmt := (top 15)
abbrev s_llaw_draw : Stmt := (top 16)
abbrev s_llaw_pick : Stmt := (top 17)
abbrev s_llaw_small : Stmt := (top 18)
abbrev s_llaw_number : Stmt := (top 19)
abbrev s_llaw_decoded : Stmt := (top 20)
abbrev s_llaw_code : Stmt := (top 21)
abbrev s_llaw_named : Stmt := (top 22)
abbrev s_llaw_like : Stmt := (top 23)
abbrev s_llaw_coding_fault : Stmt := (top 24)
abbrev s_llaw_free : Stmt := (top 25)
abbrev s_llaw_refusal : Stmt := (top 26)
abbrev s_llaw_told : Stmt := (top 27)
abbrev s_llaw_cut : Stmt := (top 28)
abbrev s_law : Stmt := (top 29)
abbrev N_BadLetterU_initU : List Str := ["self", "line", "reason", "__class__"]
abbrev P_BadLetterU_initU : List Str := ["self", "line", "reason"]
theorem ns_BadLetterU_initU : NdefX.NScope N_BadLetterU_initU P_BadLetterU_initU ["__class__"] (defScope s_BadLetterU_initU) := NdefX.nscope_by (by decide +kernel)
abbrev N_group_digits : List Str := ["signs", "whole", "sign", "digits", "_", "number"]
abbrev P_group_digits : List Str := ["signs"]
theorem sc_group_digits : FnScope N_group_digits P_group_digits (defScope s_group_digits) := ⟨rfl, rfl, rfl, by decide +kernel, rfl, by decide +kernel, by decide +kernel⟩
abbrev N_group_signs : List Str := ["digits", "whole", "digit", "signs", "_", "number"]
abbrev P_group_signs : List Str := ["digits"]
theorem sc_group_signs : FnScope N_group_signs P_group_signs (defScope s_group_signs) := ⟨rfl, rfl, rfl, by decide +kernel, rfl, by decide +kernel, by decide +kernel⟩
abbrev N_line_at : List Str := ["lines", "place", "number", "line"]
abbrev P_line_at : List Str := ["lines", "place"]
theorem sc_line_at : FnScope N_line_at P_line_at (defScope s_line_at) := ⟨rfl, rfl, rfl, by decide +kernel, rfl, by decide +kernel, by decide +kernel⟩
abbrev N_decoded : List Str := ["lines", "digits", "groups", "at", "number", "line", "group", "signs"]
abbrev P_decoded : List Str := ["lines"]
theorem sc_decoded : FnScope N_decoded P_decoded (defScope s_decoded) := ⟨rfl, rfl, rfl, by decide +kernel, rfl, by decide +kernel, by decide +kernel⟩
abbrev N_write_coding : List Str := ["text", "digits", "at"]
abbrev P_write_coding : List Str := ["text"]
theorem sc_write_coding : FnScope N_write_coding P_write_coding (defScope s_write_coding) := ⟨rfl, rfl, rfl, by decide +kernel, rfl, by decide +kernel, by decide +kernel⟩
abbrev N_read_coding : List Str := ["lines", "wrong", "text"]
abbrev P_read_coding : List Str := ["lines"]
theorem sc_read_coding : FnScope N_read_coding P_read_coding (defScope s_read_coding) := ⟨rfl, rfl, rfl, by decide +kernel, rfl, by decide +kernel, by decide +kernel⟩
abbrev N_llaw_cell : List Str := ["script", "k"]
abbrev P_llaw_cell : List Str := ["script", "k"]
theorem sc_llaw_cell : FnScope N_llaw_cell P_llaw_cell (defScope s_llaw_cell) := ⟨rfl, rfl, rfl, by decide +kernel, rfl, by decide +kernel, by decide +kernel⟩
abbrev N_llaw_digits : List Str := ["script", "first", "last", "digits", "k", "cell", "turn", "seed"]
abbrev P_llaw_digits : List Str := ["script", "first", "last"]
theorem sc_llaw_digits : FnScope N_llaw_digits P_llaw_digits (defScope s_llaw_digits) := ⟨rfl, rfl, rfl, by decide +kernel, rfl, by decide +kernel, by decide +kernel⟩
abbrev N_llaw_draw : List Str := ["box", "many", "at"]
abbrev P_llaw_draw : List Str := ["box", "many"]
theorem sc_llaw_draw : FnScope N_llaw_draw P_llaw_draw (defScope s_llaw_draw) := ⟨rfl, rfl, rfl, by decide +kernel, rfl, by decide +kernel, by decide +kernel⟩
abbrev N_llaw_pick : List Str := ["box", "things"]
abbrev P_llaw_pick : List Str := ["box", "things"]
theorem sc_llaw_pick : FnScope N_llaw_pick P_llaw_pick (defScope s_llaw_pick) := ⟨rfl, rfl, rfl, by decide +kernel, rfl, by decide +kernel, by decide +kernel⟩
abbrev N_llaw_small : List Str := []
abbrev P_llaw_small : List Str := []
theorem sc_llaw_small : FnScope N_llaw_small P_llaw_small (defScope s_llaw_small) := ⟨rfl, rfl, rfl, by decide +kernel, rfl, by decide +kernel, by decide +kernel⟩
abbrev N_llaw_number : List Str := ["thing", "low", "high"]
abbrev P_llaw_number : List Str := ["thing", "low", "high"]
theorem sc_llaw_number : FnScope N_llaw_number P_llaw_number (defScope s_llaw_number) := ⟨rfl, rfl, rfl, by decide +kernel, rfl, by decide +kernel, by decide +kernel⟩
abbrev N_llaw_decoded : List Str := ["lines", "digits", "signs", "row", "text", "at", "group", "number", "sign"]
abbrev P_llaw_decoded : List Str := ["lines"]
theorem sc_llaw_decoded : FnScope N_llaw_decoded P_llaw_decoded (defScope s_llaw_decoded) := ⟨rfl, rfl, rfl, by decide +kernel, rfl, by decide +kernel, by decide +kernel⟩
abbrev N_llaw_code : List Str := ["text", "digits", "signs", "row", "at", "group", "number", "sign", "k"]
abbrev P_llaw_code : List Str := ["text"]
theorem sc_llaw_code : FnScope N_llaw_code P_llaw_code (defScope s_llaw_code) := ⟨rfl, rfl, rfl, by decide +kernel, rfl, by decide +kernel, by decide +kernel⟩
abbrev N_llaw_named : List Str := ["told", "due"]
abbrev P_llaw_named : List Str := ["told", "due"]
theorem sc_llaw_named : FnScope N_llaw_named P_llaw_named (defScope s_llaw_named) := ⟨rfl, rfl, rfl, by decide +kernel, rfl, by decide +kernel, by decide +kernel⟩
abbrev N_llaw_like : List Str := ["told", "due", "k"]
abbrev P_llaw_like : List Str := ["told", "due"]
theorem sc_llaw_like : FnScope N_llaw_like P_llaw_like (defScope s_llaw_like) := ⟨rfl, rfl, rfl, by decide +kernel, rfl, by decide +kernel, by decide +kernel⟩
abbrev N_llaw_coding_fault : List Str := ["lines", "first", "digits", "places", "k", "row", "at", "sign"]
abbrev P_llaw_coding_fault : List Str := ["lines", "first"]
theorem sc_llaw_coding_fault : FnScope N_llaw_coding_fault P_llaw_coding_fault (defScope s_llaw_coding_fault) := ⟨rfl, rfl, rfl, by decide +kernel, rfl, by decide +kernel, by decide +kernel⟩
abbrev N_llaw_free : List Str := ["box", "many", "signs", "k"]
abbrev P_llaw_free : List Str := ["box", "many"]
theorem sc_llaw_free : FnScope N_llaw_free P_llaw_free (defScope s_llaw_free) := ⟨rfl, rfl, rfl, by decide +kernel, rfl, by decide +kernel, by decide +kernel⟩
abbrev N_llaw_refusal : List Str := ["place", "reason"]
abbrev P_llaw_refusal : List Str := ["place", "reason"]
theorem sc_llaw_refusal : FnScope N_llaw_refusal P_llaw_refusal (defScope s_llaw_refusal) := ⟨rfl, rfl, rfl, by decide +kernel, rfl, by decide +kernel, by decide +kernel⟩
abbrev N_llaw_told : List Str := ["lines", "error"]
abbrev P_llaw_told : List Str := ["lines"]
theorem sc_llaw_told : FnScope N_llaw_told P_llaw_told (defScope s_llaw_told) := ⟨rfl, rfl, rfl, by decide +kernel, rfl, by decide +kernel, by decide +kernel⟩
abbrev N_llaw_cut : List Str := ["box", "row", "lines", "k", "at"]
abbrev P_llaw_cut : List Str := ["box", "row"]
theorem sc_llaw_cut : FnScope N_llaw_cut P_llaw_cut (defScope s_llaw_cut) := ⟨rfl, rfl, rfl, by decide +kernel, rfl, by decide +kernel, by decide +kernel⟩
abbrev N_law : List Str := ["script", "box", "turn", "text", "due", "told", "lines", "back", "time", "k", "at", "sign", "spoilt", "line"]
abbrev P_law : List Str := ["script"]
theorem sc_law : FnScope N_law P_law (defScope s_law) := ⟨rfl, rfl, rfl, by decide +kernel, rfl, by decide +kernel, by decide +kernel⟩
end LW

set_option Elab.async false
set_option linter.all false
set_option maxRecDepth 100000
namespace LW
open PySem PySem.Spec L2 DL
/-! ### what every law shares -/
def sp_llaw_cell : SpD := fun ds S Q => ∃ (ns : List Int) (k : Int), ds = [.frz (ns.map D.int), .int k] ∧ 0 ≤ k ∧ ∀ i, Q (.int i) S
def Dig (gs : List Int) : Prop := (∀ g ∈ gs, 0 ≤ g ∧ g < 1000) ∧ gs.length ≤ 100000
def sp_llaw_digits : SpD := fun ds S Q => ∃ (ns : List Int), ds = [.frz (ns.map D.int), .int 0, .int 63] ∧ ∀ gs p, Dig gs → S p = none → Q (.rf p) (su S p (.lst (gs.map D.int)))
/-- the box of draws stands at b -/
def Box (S : Sh) (b : Addr) : Prop := ∃ (dg : Addr) (gs : List Int) (at' : Int), S b = some (.lst [.rf dg, .int at']) ∧ S dg = some (.lst (gs.map D.int)) ∧ Dig gs ∧ 0 ≤ at' ∧ dg ≠ b
/-- draws alone: nothing else has changed -/
def Bx (b : Addr) (S S' : Sh) : Prop := Box S' b ∧ (∀ p, p ≠ b → S' p = S p) ∧ ∃ (dg : Addr) (a a' : Int), S b = some (.lst [.rf dg, .int a]) ∧ S' b = some (.lst [.rf dg, .int a'])
def sp_llaw_draw : SpD := fun ds S Q => ∃ (b : Addr) (m : Int), ds = [.rf b, .int m] ∧ 0 < m ∧ Box S b ∧ ∀ r S', 0 ≤ r → r < m → Bx b S S' → Q (.int r) S'
theorem Bx.trans {b : Addr} {S S1 S2 : Sh} (a : Bx b S S1) (c : Bx b S1 S2) : Bx b S S2 := by
  obtain ⟨_, a2, dg, x, y, e1, e2⟩ := a
  obtain ⟨c1, c2, dg', x', y', f1, f2⟩ := c
  refine ⟨c1, fun p h => (c2 p h).trans (a2 p h), dg, x, y', e1, ?_⟩
  rw [e2] at f1
  cases f1
  exact f2
/-! strict equality -/
mutual
def deq : D → D → Bool
  | .non, .non => true
  | .bl a, .bl b => a == b
  | .int a, .int b => a == b
  | .str a, .str b => a == b
  | .tup a, .tup b => deqs a b
  | _, _ => false
def deqs : List D → List D → Bool
  | [], [] => true
  | x :: xs, y :: ys => deq x y && deqs xs ys
  | _, _ => false
end
/-! plain data -/
mutual
def pln : D → Bool
  | .non => true | .bl _ => true | .int _ => true | .str _ => true | .tup xs => plns xs | _ => false
def plns : List D → Bool
  | [] => true
  | x :: xs => pln x && plns xs
end
/-! no tuple is longer than what may be walked -/
mutual
def szd : D → Bool
  | .tup xs => decide (xs.length ≤ 100000) && szds xs
  | .str s => decide (s.length ≤ 1000000)
  | _ => true
def szds : List D → Bool
  | [] => true
  | x :: xs => szd x && szds xs
end

def sp_like (n : Nat) : SpD := fun ds S Q => ∃ a d, ds = [a, d] ∧ pln a = true ∧ pln d = true ∧ szd a = true ∧ szd d = true ∧ dep d < n ∧ Q (.bl (deq a d)) S
def Kb (b : Addr) (S S' : Sh) : Prop := Box S' b ∧ ∀ p o, p ≠ b → S p = some o → S' p = some o
def tls (ls : List (List Nat)) : List D := ls.map D.str
def Sz (ls : List (List Nat)) : Prop := ls.length ≤ 1000 ∧ ls.flatten.length ≤ 10000
def badc : List Nat := [98, 97, 100, 32, 99, 111, 100, 105, 110, 103]
def sp_llaw_small : SpD := fun ds S Q => ds = [] ∧ Q (.str [97, 98, 99, 100, 101, 102, 103, 104, 105, 106, 107, 108, 109, 110, 111, 112, 113, 114, 115, 116, 117, 118, 119, 120, 121, 122]) S
def sp_llaw_pick : SpD := fun ds S Q => ∃ (b q : Addr) (xs : List D), ds = [.rf b, .rf q] ∧ Box S b ∧ S q = some (.lst xs) ∧ q ≠ b ∧ 1 ≤ xs.length ∧ xs.length ≤ 1000 ∧ ∀ x ∈ xs, ∀ S', Kb b S S' → Q x S'
def sp_llaw_number : SpD := fun ds S Q => ∃ x : Int, ds = [.int x, .int 0, .int 30000] ∧ 0 ≤ x ∧ x ≤ 30000 ∧ Q (.bl true) S
def sp_llaw_refusal : SpD := fun ds S Q => ∃ (x : Int) (s : List Nat), ds = [.int x, .str s] ∧ 0 ≤ x ∧ x ≤ 30000 ∧ s.length ≤ 1000 ∧ ∀ q, S q = none → Q (.rf q) (su S q (.lst [.int x, .str s]))
def sp_group_digits : SpD := fun ds S Q => ∃ g, ds = [.str g] ∧ (∀ c ∈ g, c ∈ SG) ∧ g.length ≤ 3 ∧ Q (.str (gD g)) S
def opt (o : Option (List Nat)) : D := match o with | none => .non | some x => .str x
def sp_group_signs : SpD := fun ds S Q => ∃ g, ds = [.str g] ∧ (∀ c ∈ g, c ∈ DGS) ∧ 1 ≤ g.length ∧ g.length ≤ 4 ∧ Q (opt (gS g)) S
def sp_line_at : SpD := fun ds S Q => ∃ (ls : List (List Nat)) (p : Nat), ds = [.tup (tls ls), .int (p : Nat)] ∧ Sz ls ∧ Q (.int ((lineAt ls p 1 : Nat) : Int)) S
def sp_decoded : SpD := fun ds S Q => ∃ ls, ds = [.tup (tls ls)] ∧ Sz ls ∧ Q (match DD ls with | .inl n => .tup [.int ((n : Nat) : Int), .str []] | .inr t => .tup [.int 0, .str t]) S
def sp_write_coding : SpD := fun ds S Q => ∃ t, ds = [.str t] ∧ (∀ c ∈ t, c ∈ SG) ∧ t.length ≤ 1000 ∧ Q (.tup (tls (code t))) S
def XL (c : Addr) (n : Nat) (S : Sh) (Xd : XD) : Prop := ∀ d, S d = none → Xd c d (su S d (.exn [("reason", .str badc), ("line", .int (n : Nat))]))
def sp_read_coding (C : Nat → Addr) : SpX := fun ds S Q Xd => ∃ ls, ds = [.tup (tls ls)] ∧ Sz ls ∧ match DD ls with | .inl n => XL (C 1) n S Xd | .inr t => Q (.str t) S
/-! ### the law's -/
def LDc (ls : List (List Nat)) : Option (List Nat) := if okl ls.flatten = true then (match dgo 0 (chs 4 ls.flatten) with | .inl _ => none | .inr t => some t) else none
def FL (ls : List (List Nat)) : D := match DD ls with | .inl n => .int ((n : Nat) : Int) | .inr _ => .non
def toldL (ls : List (List Nat)) : List D := match DD ls with | .inl n => [.int ((n : Nat) : Int), .str badc] | .inr t => [.str t]
def sp_llaw_decoded : SpD := fun ds S Q => ∃ q ls, ds = [.rf q] ∧ S q = some (.lst (tls ls)) ∧ Sz ls ∧ Q (opt (LDc ls)) S
def sp_llaw_code : SpD := fun ds S Q => ∃ t, ds = [.str t] ∧ (∀ c ∈ t, c ∈ SG) ∧ t.length ≤ 1000 ∧ Q (.tup (tls (code t))) S
def sp_llaw_named : SpD := fun ds S Q => ∃ a xs, ds = [a, .tup xs] ∧ pln a = true ∧ plns xs = true ∧ szd a = true ∧ szd (.tup xs) = true ∧ dep (.tup xs) < 60 ∧ Q (.bl (deq a (.tup xs))) S
def sp_llaw_coding_fault : SpD := fun ds S Q => ∃ q ls, ds = [.rf q, .int 1] ∧ S q = some (.lst (tls ls)) ∧ Sz ls ∧ Q (FL ls) S
def sp_llaw_free : SpD := fun ds S Q => ∃ (b : Addr) (m : Int), ds = [.rf b, .int m] ∧ 0 ≤ m ∧ m ≤ 1000 ∧ Box S b ∧ ∀ t S', (∀ c ∈ t, c ∈ SG) → t.length = m.toNat → Kb b S S' → Q (.str t) S'
def sp_llaw_told : SpD := fun ds S Q => ∃ ls, ds = [.tup (tls ls)] ∧ Sz ls ∧ ∀ q, S q = none → Q (.rf q) (su S q (.lst (toldL ls)))
def sp_llaw_cut : SpD := fun ds S Q => ∃ (b : Addr) (row : List Nat), ds = [.rf b, .str row] ∧ Box S b ∧ row.length ≤ 9000 ∧ ∀ ls S', ls.flatten = row → ls.length = 13 → Kb b S S' → ∀ q, S' q = none → Q (.rf q) (su S' q (.lst (tls ls)))
end LW

set_option Elab.async false
set_option linter.all false
set_option maxRecDepth 100000

namespace LW
open PySem PySem.Spec L2 DL

abbrev rd_BadLetterU_initU : AD :=
  (dCons (dJsE [(dC (.str [108, 105, 110, 101, 32])), (dFmt (dVar 1)), (dC (.str [58, 32])), (dFmt (dVar 2))]) dNil)
abbrev rd_group_digits : SD :=
  (dSeq (dAsg (dC (.int 0)) (dName 1))
  (dSeq (dFor (dIt (dVar 0)) (dName 2) (dAsg (dOp dAdd (dOp dMul (dC (.int 95)) (dVar 1)) (dBM "str" dIndex (dC (.str [10, 32, 33, 34, 35, 36, 38, 39, 40, 41, 42, 43, 44, 45, 46, 47, 48, 49, 50, 51, 52, 53, 54, 55, 56, 57, 58, 59, 60, 61, 62, 63, 64, 65, 66, 67, 68, 69, 70, 71, 72, 73, 74, 75, 76, 77, 78, 79, 80, 81, 82, 83, 84, 85, 86, 87, 88, 89, 90, 91, 92, 93, 94, 95, 96, 97, 98, 99, 100, 101, 102, 103, 104, 105, 106, 107, 108, 109, 110, 111, 112, 113, 114, 115, 116, 117, 118, 119, 120, 121, 122, 123, 124, 125, 126])) (dCons (dVar 2) dNil))) (dName 1)))
  (dSeq (dAsg (dC (.str [])) (dName 3))
  (dSeq (dFor (dRng1 (dCons (dOp dAdd (dCB dLen (dCons (dVar 0) dNil)) (dC (.int 1))) dNil)) (dName 4) (dSeq (dAsg (dCB dDivmod (dCons (dVar 1) (dCons (dC (.int 64)) dNil))) (dGtup (dGcons (dName 1) (dGcons (dName 5) dGnil)) 2))
  (dAsg (dOp dAdd (dOp dIx (dC (.str [48, 49, 50, 51, 52, 53, 54, 55, 56, 57, 97, 98, 99, 100, 101, 102, 103, 104, 105, 106, 107, 108, 109, 110, 111, 112, 113, 114, 115, 116, 117, 118, 119, 120, 121, 122, 65, 66, 67, 68, 69, 70, 71, 72, 73, 74, 75, 76, 77, 78, 79, 80, 81, 82, 83, 84, 85, 86, 87, 88, 89, 90, 43, 45])) (dVar 5)) (dVar 3)) (dName 3))))
  (dRet (dVar 3))))))
abbrev rd_group_signs : SD :=
  (dSeq (dAsg (dC (.int 0)) (dName 1))
  (dSeq (dFor (dIt (dVar 0)) (dName 2) (dAsg (dOp dAdd (dOp dMul (dC (.int 64)) (dVar 1)) (dBM "str" dIndex (dC (.str [48, 49, 50, 51, 52, 53, 54, 55, 56, 57, 97, 98, 99, 100, 101, 102, 103, 104, 105, 106, 107, 108, 109, 110, 111, 112, 113, 114, 115, 116, 117, 118, 119, 120, 121, 122, 65, 66, 67, 68, 69, 70, 71, 72, 73, 74, 75, 76, 77, 78, 79, 80, 81, 82, 83, 84, 85, 86, 87, 88, 89, 90, 43, 45])) (dCons (dVar 2) dNil))) (dName 1)))
  (dSeq (dIfS (dTB (dOp dGe (dVar 1) (dOp dIx (dC (.tup (([0, 0, 95, 9025, 857375] : List Int).map DL.D.int))) (dCB dLen (dCons (dVar 0) dNil))))) (dRet (dC .non)) dNext)
  (dSeq (dAsg (dC (.str [])) (dName 3))
  (dSeq (dFor (dRng1 (dCons (dOp dSub (dCB dLen (dCons (dVar 0) dNil)) (dC (.int 1))) dNil)) (dName 4) (dSeq (dAsg (dCB dDivmod (dCons (dVar 1) (dCons (dC (.int 95)) dNil))) (dGtup (dGcons (dName 1) (dGcons (dName 5) dGnil)) 2))
  (dAsg (dOp dAdd (dOp dIx (dC (.str [10, 32, 33, 34, 35, 36, 38, 39, 40, 41, 42, 43, 44, 45, 46, 47, 48, 49, 50, 51, 52, 53, 54, 55, 56, 57, 58, 59, 60, 61, 62, 63, 64, 65, 66, 67, 68, 69, 70, 71, 72, 73, 74, 75, 76, 77, 78, 79, 80, 81, 82, 83, 84, 85, 86, 87, 88, 89, 90, 91, 92, 93, 94, 95, 96, 97, 98, 99, 100, 101, 102, 103, 104, 105, 106, 107, 108, 109, 110, 111, 112, 113, 114, 115, 116, 117, 118, 119, 120, 121, 122, 123, 124, 125, 126])) (dVar 5)) (dVar 3)) (dName 3))))
  (dRet (dVar 3)))))))
abbrev rd_line_at : SD :=
  (dSeq (dAsg (dC (.int 1)) (dName 2))
  (dSeq (dFor (dIt (dVar 0)) (dName 3) (dSeq (dIfS (dTB (dOp dLt (dVar 1) (dCB dLen (dCons (dVar 3) dNil)))) dBreak dNext)
  (dSeq (dAugI (fun i j => i - j) 1 (dCB dLen (dCons (dVar 3) dNil)))
  (dAugI (fun i j => i + j) 2 (dC (.int 1))))))
  (dRet (dVar 2))))
abbrev rd_decoded : SD :=
  (dSeq (dFor (dEnumT 1 (dCons (dVar 0) dNil)) (dGtup (dGcons (dName 4) (dGcons (dName 5) dGnil)) 2) (dIfS (dTB (dOp dNe (dBM "str" dStripC (dVar 5) (dCons (dC (.str [48, 49, 50, 51, 52, 53, 54, 55, 56, 57, 97, 98, 99, 100, 101, 102, 103, 104, 105, 106, 107, 108, 109, 110, 111, 112, 113, 114, 115, 116, 117, 118, 119, 120, 121, 122, 65, 66, 67, 68, 69, 70, 71, 72, 73, 74, 75, 76, 77, 78, 79, 80, 81, 82, 83, 84, 85, 86, 87, 88, 89, 90, 43, 45])) dNil)) (dC (.str [])))) (dRet (dTup (dCons (dVar 4) (dCons (dC (.str [])) dNil)))) dNext))
  (dSeq (dAsg (dBM "str" dJoinT (dC (.str [])) (dCons (dVar 0) dNil)) (dName 1))
  (dSeq (dAsg (dNew (dLst dNil)) (dName 2))
  (dSeq (dFor (dRng3 (dCons (dC (.int 0)) (dCons (dCB dLen (dCons (dVar 1) dNil)) (dCons (dC (.int 4)) dNil)))) (dName 3) (dSeq (dAsg (dSlice (dVar 1) (dPart (dVar 3)) (dPart (dOp dAdd (dVar 3) (dC (.int 4))))) (dName 6))
  (dSeq (dAsg (dCall 1 sp_group_signs [] (dCons (dVar 6) dNil)) (dName 7))
  (dSeq (dIfS (dTB (dOp dIsN (dVar 7) (dC .non))) (dRet (dTup (dCons (dCall 2 sp_line_at [] (dCons (dVar 0) (dCons (dOp dSub (dOp dAdd (dVar 3) (dCB dLen (dCons (dVar 6) dNil))) (dC (.int 1))) dNil))) (dCons (dC (.str [])) dNil)))) dNext)
  (dDrop (dBM "list" dApp (dVar 2) (dCons (dVar 7) dNil)))))))
  (dRet (dTup (dCons (dC (.int 0)) (dCons (dBM "str" dJoin (dC (.str [])) (dAsL (dVar 2))) dNil))))))))
abbrev rd_write_coding : SD :=
  (dSeq (dAsg (dBM "str" dJoin (dC (.str [])) (dLc (dRng3 (dCons (dC (.int 0)) (dCons (dCB dLen (dCons (dVar 0) dNil)) (dCons (dC (.int 3)) dNil)))) (dName 2) dYes (dCall 1 sp_group_digits [] (dCons (dSlice (dVar 0) (dPart (dVar 2)) (dPart (dOp dAdd (dVar 2) (dC (.int 3))))) dNil)) [2])) (dName 1))
  (dRet (dOnL (fun ds S Q => Q (.tup ds) S) (dLc (dRng3 (dCons (dC (.int 0)) (dCons (dCB dLen (dCons (dVar 1) dNil)) (dCons (dC (.int 76)) dNil)))) (dName 2) dYes (dSlice (dVar 1) (dPart (dVar 2)) (dPart (dOp dAdd (dVar 2) (dC (.int 76))))) [2]))))
abbrev rd_read_coding (C : Nat → Addr) : XSD → SD :=
  (fun ω =>
  (dSeq (dAsg (dCall 1 sp_decoded [] (dCons (dVar 0) dNil)) (dGtup (dGcons (dName 1) (dGcons (dName 2) dGnil)) 2))
  (dSeq (dIfS (dTB (dOp dGt (dVar 1) (dC (.int 0)))) (dRaise (dMkX (C 1) N_BadLetterU_initU 3 rd_BadLetterU_initU (fl2 "line" "reason") (dCons (dVar 1) (dCons (dC (.str [98, 97, 100, 32, 99, 111, 100, 105, 110, 103])) dNil))) ω) dNext)
  (dRet (dVar 2)))))
abbrev rd_llaw_cell : SD :=
  (dSeq (dIfS (dTB (dOp dLt (dVar 1) (dCB dLen (dCons (dVar 0) dNil)))) (dRet (dOp dIx (dVar 0) (dVar 1))) dNext)
  (dRet (dC (.int 0))))
abbrev rd_llaw_digits : SD :=
  (dSeq (dAsg (dNew (dLst dNil)) (dName 3))
  (dSeq (dFor (dRng2 (dCons (dVar 1) (dCons (dVar 2) dNil))) (dName 4) (dSeq (dAsg (dCall 2 sp_llaw_cell [] (dCons (dVar 0) (dCons (dVar 4) dNil))) (dName 5))
  (dSeq (dIfS (dTB (dOp dLt (dVar 5) (dC (.int 0)))) (dAsg (dOp dSub (dC (.int 1)) (dOp dMul (dC (.int 2)) (dVar 5))) (dName 5)) dNext)
  (dSeq (dIfS (dTB (dOp dGt (dCB dLen (dCons (dVar 3) dNil)) (dC (.int 1500)))) dBreak dNext)
  (dIfS (dTB (dOp dGe (dVar 5) (dOp dPow (dC (.int 10)) (dC (.int 18))))) (dFor (dRng1 (dCons (dC (.int 60)) dNil)) (dName 6) (dIfS (dTB (dOp dGt (dVar 5) (dC (.int 0)))) (dSeq (dDrop (dBM "list" dApp (dVar 3) (dCons (dOp dMod (dCB dInt (dCons (dVar 5) dNil)) (dC (.int 1000))) dNil)))
  (dAsg (dOp dFdiv (dVar 5) (dC (.int 1000))) (dName 5))) dNext)) (dSeq (dAsg (dOp dMod (dCB dInt (dCons (dOp dAdd (dOp dAdd (dOp dMul (dVar 5) (dC (.int 48271))) (dOp dMul (dVar 4) (dC (.int 69621)))) (dC (.int 11))) dNil)) (dC (.int 2147483647))) (dName 7))
  (dFor (dRng1 (dCons (dC (.int 12)) dNil)) (dName 6) (dSeq (dAsg (dOp dMod (dCB dInt (dCons (dOp dAdd (dOp dAdd (dOp dMul (dVar 7) (dC (.int 16807))) (dOp dMul (dC (.int 7)) (dVar 6))) (dC (.int 1))) dNil)) (dC (.int 2147483647))) (dName 7))
  (dDrop (dBM "list" dApp (dVar 3) (dCons (dOp dMod (dCB dInt (dCons (dOp dFdiv (dVar 7) (dC (.int 997))) dNil)) (dC (.int 1000))) dNil)))))))))))
  (dRet (dVar 3))))
abbrev rd_llaw_draw : SD :=
  (dSeq (dAsg (dOp dIx (dVar 0) (dC (.int 1))) (dName 2))
  (dSeq (dAsg (dOp dAdd (dVar 2) (dC (.int 1))) (dSetL (dVar 0) (dC (.int 1))))
  (dSeq (dIfS (dTB (dOp dLt (dVar 2) (dCB dLen (dCons (dOp dIx (dVar 0) (dC (.int 0))) dNil)))) (dRet (dOp dMod (dCB dInt (dCons (dOp dIx (dOp dIx (dVar 0) (dC (.int 0))) (dVar 2)) dNil)) (dVar 1))) dNext)
  (dRet (dOp dMod (dCB dInt (dCons (dOp dMul (dVar 2) (dC (.int 7))) dNil)) (dVar 1))))))
abbrev rd_llaw_pick : SD :=
  (dRet (dOp dIx (dVar 1) (dOp dMod (dCB dInt (dCons (dCall 2 sp_llaw_draw [] (dCons (dVar 0) (dCons (dC (.int 900)) dNil))) dNil)) (dCB dLen (dCons (dVar 1) dNil)))))
abbrev rd_llaw_small : SD :=
  (dRet (dC (.str [97, 98, 99, 100, 101, 102, 103, 104, 105, 106, 107, 108, 109, 110, 111, 112, 113, 114, 115, 116, 117, 118, 119, 120, 121, 122])))
abbrev rd_llaw_number : SD :=
  (dRet (dAndV (dIsi .tInt (dVar 0)) (dAndV (dNotV (dIsi .tBool (dVar 0))) (dChain dLe dLe (dVar 1) (dVar 0) (dVar 2)))))
abbrev rd_llaw_decoded : SD :=
  (dSeq (dAsg (dOp dAdd (dOp dAdd (dOp dAdd (dC (.str [48, 49, 50, 51, 52, 53, 54, 55, 56, 57])) (dCall 0 sp_llaw_small [] dNil)) (dBM0 "str" dUpper (dCall 0 sp_llaw_small [] dNil))) (dC (.str [43, 45]))) (dName 1))
  (dSeq (dAsg (dOp dAdd (dOp dAdd (dOp dAdd (dOp dAdd (dC (.str [10, 32, 33, 34, 35, 36, 38, 39, 40, 41, 42, 43, 44, 45, 46, 47, 48, 49, 50, 51, 52, 53, 54, 55, 56, 57, 58, 59, 60, 61, 62, 63, 64])) (dBM0 "str" dUpper (dCall 0 sp_llaw_small [] dNil))) (dC (.str [91, 92, 93, 94, 95, 96]))) (dCall 0 sp_llaw_small [] dNil)) (dC (.str [123, 124, 125, 126]))) (dName 2))
  (dSeq (dAsg (dBM "str" dJoin (dC (.str [])) (dAsL (dVar 0))) (dName 3))
  (dSeq (dIfS (dTB (dEqL true (dLc (dIt (dVar 3)) (dName 8) (dTB (dOp dNotIn (dVar 8) (dVar 1))) (dC (.int 1)) [8]) (dLst dNil))) (dRet (dC .non)) dNext)
  (dSeq (dAsg (dNew (dLst dNil)) (dName 4))
  (dSeq (dFor (dRng3 (dCons (dC (.int 0)) (dCons (dCB dLen (dCons (dVar 3) dNil)) (dCons (dC (.int 4)) dNil)))) (dName 5) (dSeq (dAsg (dSlice (dVar 3) (dPart (dVar 5)) (dPart (dOp dAdd (dVar 5) (dC (.int 4))))) (dName 6))
  (dSeq (dAsg (dC (.int 0)) (dName 7))
  (dSeq (dFor (dIt (dVar 6)) (dName 8) (dAsg (dOp dAdd (dOp dMul (dVar 7) (dC (.int 64))) (dBM "str" dFind (dVar 1) (dCons (dVar 8) dNil))) (dName 7)))
  (dSeq (dIfS (dOr (dTB (dOp dEq (dCB dLen (dCons (dVar 6) dNil)) (dC (.int 1)))) (dTB (dOp dGe (dVar 7) (dIxL (dLst (dCons (dC (.int 1)) (dCons (dC (.int 1)) (dCons (dC (.int 95)) (dCons (dC (.int 9025)) (dCons (dC (.int 857375)) dNil)))))) (dCB dLen (dCons (dVar 6) dNil)))))) (dRet (dC .non)) dNext)
  (dSeq (dIfS (dTB (dOp dEq (dCB dLen (dCons (dVar 6) dNil)) (dC (.int 4)))) (dDrop (dBM "list" dApp (dVar 4) (dCons (dOp dIx (dVar 2) (dOp dFdiv (dVar 7) (dC (.int 9025)))) dNil))) dNext)
  (dSeq (dIfS (dTB (dOp dGe (dCB dLen (dCons (dVar 6) dNil)) (dC (.int 3)))) (dDrop (dBM "list" dApp (dVar 4) (dCons (dOp dIx (dVar 2) (dOp dMod (dCB dInt (dCons (dOp dFdiv (dVar 7) (dC (.int 95))) dNil)) (dC (.int 95)))) dNil))) dNext)
  (dDrop (dBM "list" dApp (dVar 4) (dCons (dOp dIx (dVar 2) (dOp dMod (dCB dInt (dCons (dVar 7) dNil)) (dC (.int 95)))) dNil))))))))))
  (dRet (dBM "str" dJoin (dC (.str [])) (dAsL (dVar 4))))))))))
abbrev rd_llaw_code : SD :=
  (dSeq (dAsg (dOp dAdd (dOp dAdd (dOp dAdd (dC (.str [48, 49, 50, 51, 52, 53, 54, 55, 56, 57])) (dCall 0 sp_llaw_small [] dNil)) (dBM0 "str" dUpper (dCall 0 sp_llaw_small [] dNil))) (dC (.str [43, 45]))) (dName 1))
  (dSeq (dAsg (dOp dAdd (dOp dAdd (dOp dAdd (dOp dAdd (dC (.str [10, 32, 33, 34, 35, 36, 38, 39, 40, 41, 42, 43, 44, 45, 46, 47, 48, 49, 50, 51, 52, 53, 54, 55, 56, 57, 58, 59, 60, 61, 62, 63, 64])) (dBM0 "str" dUpper (dCall 0 sp_llaw_small [] dNil))) (dC (.str [91, 92, 93, 94, 95, 96]))) (dCall 0 sp_llaw_small [] dNil)) (dC (.str [123, 124, 125, 126]))) (dName 2))
  (dSeq (dAsg (dC (.str [])) (dName 3))
  (dSeq (dFor (dRng3 (dCons (dC (.int 0)) (dCons (dCB dLen (dCons (dVar 0) dNil)) (dCons (dC (.int 3)) dNil)))) (dName 4) (dSeq (dAsg (dSlice (dVar 0) (dPart (dVar 4)) (dPart (dOp dAdd (dVar 4) (dC (.int 3))))) (dName 5))
  (dSeq (dAsg (dC (.int 0)) (dName 6))
  (dSeq (dFor (dIt (dVar 5)) (dName 7) (dAsg (dOp dAdd (dOp dMul (dVar 6) (dC (.int 95))) (dBM "str" dFind (dVar 2) (dCons (dVar 7) dNil))) (dName 6)))
  (dFor (dRng1 (dCons (dOp dAdd (dCB dLen (dCons (dVar 5) dNil)) (dC (.int 1))) dNil)) (dName 8) (dAsg (dOp dAdd (dVar 3) (dOp dIx (dVar 1) (dOp dMod (dCB dInt (dCons (dOp dFdiv (dVar 6) (dIxL (dLst (dCons (dC (.int 1)) (dCons (dC (.int 64)) (dCons (dC (.int 4096)) (dCons (dC (.int 262144)) dNil))))) (dOp dSub (dCB dLen (dCons (dVar 5) dNil)) (dVar 8)))) dNil)) (dC (.int 64))))) (dName 3)))))))
  (dRet (dOnL (fun ds S Q => Q (.tup ds) S) (dLc (dRng3 (dCons (dC (.int 0)) (dCons (dCB dLen (dCons (dVar 3) dNil)) (dCons (dC (.int 76)) dNil)))) (dName 4) dYes (dSlice (dVar 3) (dPart (dVar 4)) (dPart (dOp dAdd (dVar 4) (dC (.int 76))))) [4])))))))
abbrev rd_llaw_named : SD :=
  (dRet (dCall 2 (sp_like 64) [] (dCons (dVar 0) (dCons (dCB dTupT (dCons (dVar 1) dNil)) dNil))))
abbrev rd_llaw_like (n : Nat) : SD :=
  (dSeq (dIfS (dTru (dIsi .tTuple (dVar 1))) (dSeq (dIfS (dOr (dNot (dTru (dIsi .tTuple (dVar 0)))) (dTB (dOp dNe (dCB dLen (dCons (dVar 0) dNil)) (dCB dLen (dCons (dVar 1) dNil))))) (dRet (dC (.bl false))) dNext)
  (dRet (dEqL false (dLc (dRng1 (dCons (dCB dLen (dCons (dVar 1) dNil)) dNil)) (dName 2) (dNot (dTru (dCall 2 (sp_like n) [] (dCons (dOp dIx (dVar 0) (dVar 2)) (dCons (dOp dIx (dVar 1) (dVar 2)) dNil))))) (dC (.int 1)) [2]) (dLst dNil)))) dNext)
  (dSeq (dIfS (dTB (dOp dIsN (dVar 1) (dC .non))) (dRet (dOp dIsN (dVar 0) (dC .non))) dNext)
  (dSeq (dIfS (dTB (dOp dIsB (dVar 1) (dC (.bl true)))) (dRet (dOp dIsB (dVar 0) (dC (.bl true)))) dNext)
  (dSeq (dIfS (dTB (dOp dIsB (dVar 1) (dC (.bl false)))) (dRet (dOp dIsB (dVar 0) (dC (.bl false)))) dNext)
  (dSeq (dIfS (dTru (dIsi .tStr (dVar 1))) (dRet (dAndV (dIsi .tStr (dVar 0)) (dOp dEq (dBM "str" dJoin (dC (.str [])) (dLst (dCons (dVar 0) dNil))) (dVar 1)))) dNext)
  (dRet (dAndV (dIsi .tInt (dVar 0)) (dAndV (dNotV (dIsi .tBool (dVar 0))) (dOp dEq (dVar 0) (dVar 1))))))))))
abbrev rd_llaw_coding_fault : SD :=
  (dSeq (dAsg (dOp dAdd (dOp dAdd (dOp dAdd (dC (.str [48, 49, 50, 51, 52, 53, 54, 55, 56, 57])) (dCall 0 sp_llaw_small [] dNil)) (dBM0 "str" dUpper (dCall 0 sp_llaw_small [] dNil))) (dC (.str [43, 45]))) (dName 2))
  (dSeq (dAsg (dNew (dLst dNil)) (dName 3))
  (dSeq (dFor (dRng1 (dCons (dCB dLen (dCons (dVar 0) dNil)) dNil)) (dName 4) (dSeq (dIfS (dTB (dEqL true (dLc (dIt (dOp dIx (dVar 0) (dVar 4))) (dName 7) (dTB (dOp dNotIn (dVar 7) (dVar 2))) (dC (.int 1)) [7]) (dLst dNil))) (dRet (dOp dAdd (dVar 1) (dVar 4))) dNext)
  (dAsg (dNew (dCatE (dVar 3) (dRepL (dLst (dCons (dOp dAdd (dVar 1) (dVar 4)) dNil)) (dCB dLen (dCons (dOp dIx (dVar 0) (dVar 4)) dNil))))) (dName 3))))
  (dSeq (dAsg (dBM "str" dJoin (dC (.str [])) (dAsL (dVar 0))) (dName 5))
  (dSeq (dFor (dRng3 (dCons (dC (.int 0)) (dCons (dCB dLen (dCons (dVar 5) dNil)) (dCons (dC (.int 4)) dNil)))) (dName 6) (dIfS (dTB (dOp dIsN (dCall 1 sp_llaw_decoded [] (dCons (dNew (dLst (dCons (dSlice (dVar 5) (dPart (dVar 6)) (dPart (dOp dAdd (dVar 6) (dC (.int 4))))) dNil))) dNil)) (dC .non))) (dRet (dOp dIx (dVar 3) (dCB dMin (dCons (dOp dAdd (dVar 6) (dC (.int 3))) (dCons (dOp dSub (dCB dLen (dCons (dVar 5) dNil)) (dC (.int 1))) dNil))))) dNext))
  (dRet (dC .non)))))))
abbrev rd_llaw_free : SD :=
  (dSeq (dAsg (dOp dAdd (dOp dAdd (dOp dAdd (dOp dAdd (dC (.str [10, 32, 33, 34, 35, 36, 38, 39, 40, 41, 42, 43, 44, 45, 46, 47, 48, 49, 50, 51, 52, 53, 54, 55, 56, 57, 58, 59, 60, 61, 62, 63, 64])) (dBM0 "str" dUpper (dCall 0 sp_llaw_small [] dNil))) (dC (.str [91, 92, 93, 94, 95, 96]))) (dCall 0 sp_llaw_small [] dNil)) (dC (.str [123, 124, 125, 126]))) (dName 2))
  (dRet (dBM "str" dJoin (dC (.str [])) (dLc (dRng1 (dCons (dVar 1) dNil)) (dName 3) dYes (dOp dIx (dVar 2) (dOp dMod (dCB dInt (dCons (dCall 2 sp_llaw_draw [] (dCons (dVar 0) (dCons (dC (.int 1000)) dNil))) dNil)) (dC (.int 95)))) [3]))))
abbrev rd_llaw_refusal : SD :=
  (dSeq (dIfS (dAnd (dTru (dCall 3 sp_llaw_number [] (dCons (dVar 0) (dCons (dC (.int 0)) (dCons (dC (.int 30000)) dNil))))) (dTru (dIsi .tStr (dVar 1)))) (dRet (dNew (dLst (dCons (dVar 0) (dCons (dBM "str" dJoin (dC (.str [])) (dLst (dCons (dVar 1) dNil))) dNil))))) dNext)
  (dRet (dNew (dLst (dCons (dC (.str [119, 114, 111, 110, 103])) (dCons (dC (.str [119, 114, 111, 110, 103])) dNil))))))
abbrev rd_llaw_told (C : Nat → Addr) : SD :=
  ((dTry [C 1] (some 1) (fun a _ d => (dRet (dCall 2 sp_llaw_refusal [] (dCons (dXF a d "line" (dVar 1)) (dCons (dXF a d "reason" (dVar 1)) dNil))))) (fun ω => (dRet (dNew (dLst (dCons (dCallX 1 (sp_read_coding C) (fun ω => (dCons (dVar 0) dNil)) ω) dNil)))))) fun _ _ _ _ => False)
abbrev rd_llaw_cut : SD :=
  (dSeq (dAsg (dNew (dLst dNil)) (dName 2))
  (dSeq (dFor (dRng1 (dCons (dC (.int 12)) dNil)) (dName 3) (dSeq (dAsg (dCall 2 sp_llaw_draw [] (dCons (dVar 0) (dCons (dC (.int 30)) dNil))) (dName 4))
  (dSeq (dDrop (dBM "list" dApp (dVar 2) (dCons (dSlice (dVar 1) dNoP (dPart (dVar 4))) dNil)))
  (dAsg (dSlice (dVar 1) (dPart (dVar 4)) dNoP) (dName 1)))))
  (dRet (dNew (dCatE (dVar 2) (dLst (dCons (dVar 1) dNil)))))))
abbrev rd_law : SD :=
  (dSeq (dAsg (dNew (dLst (dCons (dCall 3 sp_llaw_digits [] (dCons (dVar 0) (dCons (dC (.int 0)) (dCons (dC (.int 63)) dNil)))) (dCons (dC (.int 0)) dNil)))) (dName 1))
  (dSeq (dFor (dRng1 (dCons (dC (.int 3)) dNil)) (dName 2) (dSeq (dAsg (dCall 2 sp_llaw_free [] (dCons (dVar 1) (dCons (dCall 2 sp_llaw_draw [] (dCons (dVar 1) (dCons (dC (.int 60)) dNil))) dNil))) (dName 3))
  (dSeq (dIfS (dTB (dOp dEq (dCall 2 sp_llaw_draw [] (dCons (dVar 1) (dCons (dC (.int 4)) dNil))) (dC (.int 0)))) (dAsg (dOp dMulS (dVar 3) (dOp dAdd (dC (.int 1)) (dCall 2 sp_llaw_draw [] (dCons (dVar 1) (dCons (dC (.int 4)) dNil))))) (dName 3)) dNext)
  (dSeq (dAsg (dCall 1 sp_llaw_code [] (dCons (dVar 3) dNil)) (dName 4))
  (dSeq (dAsg (dCall 1 sp_write_coding [] (dCons (dVar 3) dNil)) (dName 5))
  (dSeq (dIfS (dNot (dTru (dCall 2 sp_llaw_named [] (dCons (dVar 5) (dCons (dVar 4) dNil))))) (dRet (dC (.bl false))) dNext)
  (dSeq (dAsg (dCall 2 sp_llaw_cut [] (dCons (dVar 1) (dCons (dBM "str" dJoinT (dC (.str [])) (dCons (dVar 4) dNil)) dNil))) (dName 6))
  (dSeq (dAsg (dCall 1 sp_llaw_told [] (dCons (dOnL (fun ds S Q => Q (.tup ds) S) (dAsL (dVar 6))) dNil)) (dName 7))
  (dSeq (dIfS (dOr (dTB (dOp dNe (dCB dLen (dCons (dVar 7) dNil)) (dC (.int 1)))) (dOr (dNot (dTru (dCall 2 (sp_like 64) [] (dCons (dOp dIx (dVar 7) (dC (.int 0))) (dCons (dVar 3) dNil))))) (dNot (dTru (dCall 2 (sp_like 64) [] (dCons (dOp dIx (dCall 1 sp_llaw_told [] (dCons (dVar 4) dNil)) (dC (.int 0))) (dCons (dVar 3) dNil))))))) (dRet (dC (.bl false))) dNext)
  (dFor (dRng1 (dCons (dC (.int 2)) dNil)) (dName 8) (dSeq (dAsg (dCall 2 sp_llaw_draw [] (dCons (dVar 1) (dCons (dCB dLen (dCons (dVar 6) dNil)) dNil))) (dName 9))
  (dSeq (dAsg (dCall 2 sp_llaw_draw [] (dCons (dVar 1) (dCons (dOp dAdd (dCB dLen (dCons (dOp dIx (dVar 6) (dVar 9)) dNil)) (dC (.int 1))) dNil))) (dName 10))
  (dSeq (dAsg (dCall 2 sp_llaw_pick [] (dCons (dVar 1) (dCons (dNew (dLst (dCons (dC (.str [45])) (dCons (dC (.str [43])) (dCons (dC (.str [90])) (dCons (dC (.str [48])) (dCons (dC (.str [])) (dCons (dC (.str [32])) (dCons (dC (.str [61])) (dCons (dC (.str [95])) dNil)))))))))) dNil))) (dName 11))
  (dSeq (dAsg (dNew (dCatL (dCatL (dSliceE (dVar 6) dNoP (dPart (dVar 9))) (dLst (dCons (dOp dAdd (dOp dAdd (dSlice (dOp dIx (dVar 6) (dVar 9)) dNoP (dPart (dVar 10))) (dVar 11)) (dSlice (dOp dIx (dVar 6) (dVar 9)) (dPart (dOp dAdd (dVar 10) (dCall 2 sp_llaw_draw [] (dCons (dVar 1) (dCons (dC (.int 2)) dNil))))) dNoP)) dNil))) (dSliceE (dVar 6) (dPart (dOp dAdd (dVar 9) (dC (.int 1)))) dNoP))) (dName 12))
  (dSeq (dAsg (dCall 2 sp_llaw_coding_fault [] (dCons (dVar 12) (dCons (dC (.int 1)) dNil))) (dName 13))
  (dSeq (dAsg (dCall 1 sp_llaw_told [] (dCons (dOnL (fun ds S Q => Q (.tup ds) S) (dAsL (dVar 12))) dNil)) (dName 5))
  (dSeq (dIfS (dAnd (dTB (dOp dNotN (dVar 13) (dC .non))) (dTB (dEqO true (dVar 5) (dLst (dCons (dVar 13) (dCons (dC (.str [98, 97, 100, 32, 99, 111, 100, 105, 110, 103])) dNil)))))) (dRet (dC (.bl false))) dNext)
  (dIfS (dAnd (dTB (dOp dIsN (dVar 13) (dC .non))) (dOr (dTB (dOp dNe (dCB dLen (dCons (dVar 5) dNil)) (dC (.int 1)))) (dNot (dTru (dCall 2 (sp_like 64) [] (dCons (dOp dIx (dVar 5) (dC (.int 0))) (dCons (dCall 1 sp_llaw_decoded [] (dCons (dVar 12) dNil)) dNil))))))) (dRet (dC (.bl false))) dNext))))))))))))))))))
  (dRet (dC (.bl true)))))
end LW

set_option Elab.async false
set_option linter.all false
set_option maxRecDepth 100000
set_option maxHeartbeats 4000000

namespace LW
open PySem PySem.Spec L2 DL PyProof.Rows

structure Tx (P : Program) (K : PySem.W.Frag) (mg : Str → Option Value) (F : Nat → Addr) (D : Nat → FuncData) (C : Nat → Addr) : Prop where
  d_group_digits : Def K mg "group_digits" s_group_digits P_group_digits (F 1) (D 1)
  d_group_signs : Def K mg "group_signs" s_group_signs P_group_signs (F 2) (D 2)
  d_line_at : Def K mg "line_at" s_line_at P_line_at (F 3) (D 3)
  d_decoded : Def K mg "decoded" s_decoded P_decoded (F 4) (D 4)
  d_write_coding : Def K mg "write_coding" s_write_coding P_write_coding (F 5) (D 5)
  d_read_coding : Def K mg "read_coding" s_read_coding P_read_coding (F 6) (D 6)
  d_llaw_cell : Def K mg "_law_cell" s_llaw_cell P_llaw_cell (F 7) (D 7)
  d_llaw_digits : Def K mg "_law_digits" s_llaw_digits P_llaw_digits (F 8) (D 8)
  d_llaw_draw : Def K mg "_law_draw" s_llaw_draw P_llaw_draw (F 9) (D 9)
  d_llaw_pick : Def K mg "_law_pick" s_llaw_pick P_llaw_pick (F 10) (D 10)
  d_llaw_small : Def K mg "_law_small" s_llaw_small P_llaw_small (F 11) (D 11)
  d_llaw_number : Def K mg "_law_number" s_llaw_number P_llaw_number (F 12) (D 12)
  d_llaw_decoded : Def K mg "_law_decoded" s_llaw_decoded P_llaw_decoded (F 13) (D 13)
  d_llaw_code : Def K mg "_law_code" s_llaw_code P_llaw_code (F 14) (D 14)
  d_llaw_named : Def K mg "_law_named" s_llaw_named P_llaw_named (F 15) (D 15)
  d_llaw_like : Def K mg "_law_like" s_llaw_like P_llaw_like (F 16) (D 16)
  d_llaw_coding_fault : Def K mg "_law_coding_fault" s_llaw_coding_fault P_llaw_coding_fault (F 17) (D 17)
  d_llaw_free : Def K mg "_law_free" s_llaw_free P_llaw_free (F 18) (D 18)
  d_llaw_refusal : Def K mg "_law_refusal" s_llaw_refusal P_llaw_refusal (F 19) (D 19)
  d_llaw_told : Def K mg "_law_told" s_llaw_told P_llaw_told (F 20) (D 20)
  d_llaw_cut : Def K mg "_law_cut" s_llaw_cut P_llaw_cut (F 21) (D 21)
  d_law : Def K mg "law" s_law P_law (F 22) (D 22)
  x_BadLetter : XCls P K mg "BadLetter" (C 1) (F 0) (D 0) N_BadLetterU_initU P_BadLetterU_initU 3 rd_BadLetterU_initU (fin2 (C 1) "line" "reason")
  xn_BadLetter_line : PySem.W.findIn K (.ref (C 1)) "line" = some none
  xn_BadLetter_reason : PySem.W.findIn K (.ref (C 1)) "reason" = some none
  xg_MailError : mg "MailError" = some (.ref (C 0))
  b_bool : mg "bool" = none
  b_divmod : mg "divmod" = none
  b_enumerate : mg "enumerate" = none
  b_int : mg "int" = none
  b_isinstance : mg "isinstance" = none
  b_len : mg "len" = none
  b_min : mg "min" = none
  b_range : mg "range" = none
  b_str : mg "str" = none
  b_super : mg "super" = none
  b_tuple : mg "tuple" = none
  c_BOUNDS : GlobC K mg "BOUNDS" (.tup (([0, 0, 95, 9025, 857375] : List Int).map DL.D.int))
  c_DIGITS : GlobC K mg "DIGITS" (.str [48, 49, 50, 51, 52, 53, 54, 55, 56, 57, 97, 98, 99, 100, 101, 102, 103, 104, 105, 106, 107, 108, 109, 110, 111, 112, 113, 114, 115, 116, 117, 118, 119, 120, 121, 122, 65, 66, 67, 68, 69, 70, 71, 72, 73, 74, 75, 76, 77, 78, 79, 80, 81, 82, 83, 84, 85, 86, 87, 88, 89, 90, 43, 45])
  c_SIGNS : GlobC K mg "SIGNS" (.str [10, 32, 33, 34, 35, 36, 38, 39, 40, 41, 42, 43, 44, 45, 46, 47, 48, 49, 50, 51, 52, 53, 54, 55, 56, 57, 58, 59, 60, 61, 62, 63, 64, 65, 66, 67, 68, 69, 70, 71, 72, 73, 74, 75, 76, 77, 78, 79, 80, 81, 82, 83, 84, 85, 86, 87, 88, 89, 90, 91, 92, 93, 94, 95, 96, 97, 98, 99, 100, 101, 102, 103, 104, 105, 106, 107, 108, 109, 110, 111, 112, 113, 114, 115, 116, 117, 118, 119, 120, 121, 122, 123, 124, 125, 126])
section
variable {P : Program} {w : World} {K : PySem.W.Frag} {mg : Str → Option Value} {base : Heap} {F : Nat → Addr} {D : Nat → FuncData} {C : Nat → Addr}
theorem dv_group_digits (T : Tx P K mg F D C) {cdv : Value} {A : Around} {outer : List Env} {s : Shared} {H : Hp} {E0 : XK}
    (hr : Room 0 (A.deeper (envOfC "group_digits" (defScope s_group_digits) s.heap.objs.size (F 1) cdv))) :
    B (cxOf CX0 P w K mg base N_group_digits "group_digits" (defScope s_group_digits) (F 1) cdv A outer s H E0).nox (defBody s_group_digits) (rd_group_digits) :=
  (b_cons (s_asg e_int (g_name 1 sc_group_digits.nd))
  (b_cons (s_for (i_of (e_var 0)) (g_name 2 sc_group_digits.nd) (b_one (s_asg (e_op o_add (e_op o_mul e_int (e_var 1)) (e_bm PySem.F.plainAttrs_str PySem.F.slot_str_index PySem.F.type_str_index m_index (e_glob T.c_SIGNS) (a_cons (e_var 2) a_nil))) (g_name 1 sc_group_digits.nd))))
  (b_cons (s_asg (e_str []) (g_name 3 sc_group_digits.nd))
  (b_cons (s_for (i_rng1 T.b_range (a_cons (e_op o_add (e_callB c_len T.b_len (a_cons (e_var 0) a_nil)) e_int) a_nil)) (g_name 4 sc_group_digits.nd) (b_cons (s_asg (e_callB c_divmod T.b_divmod (a_cons (e_var 1) (a_cons e_int a_nil))) (g_tup (gs_cons (g_name 1 sc_group_digits.nd) (gs_cons (g_name 5 sc_group_digits.nd) gs_nil))))
  (b_one (s_asg (e_op o_add (e_ix (e_glob T.c_DIGITS) (e_var 5)) (e_var 3)) (g_name 3 sc_group_digits.nd)))))
  (b_one (s_ret (e_var 3)))))))
theorem dv_group_signs (T : Tx P K mg F D C) {cdv : Value} {A : Around} {outer : List Env} {s : Shared} {H : Hp} {E0 : XK}
    (hr : Room 0 (A.deeper (envOfC "group_signs" (defScope s_group_signs) s.heap.objs.size (F 2) cdv))) :
    B (cxOf CX0 P w K mg base N_group_signs "group_signs" (defScope s_group_signs) (F 2) cdv A outer s H E0).nox (defBody s_group_signs) (rd_group_signs) :=
  (b_cons (s_asg e_int (g_name 1 sc_group_signs.nd))
  (b_cons (s_for (i_of (e_var 0)) (g_name 2 sc_group_signs.nd) (b_one (s_asg (e_op o_add (e_op o_mul e_int (e_var 1)) (e_bm PySem.F.plainAttrs_str PySem.F.slot_str_index PySem.F.type_str_index m_index (e_glob T.c_DIGITS) (a_cons (e_var 2) a_nil))) (g_name 1 sc_group_signs.nd))))
  (b_cons (s_if (t_cmp o_ge (e_var 1) (e_ix (e_glob T.c_BOUNDS) (e_callB c_len T.b_len (a_cons (e_var 0) a_nil)))) (b_one (s_ret e_non)) b_nil)
  (b_cons (s_asg (e_str []) (g_name 3 sc_group_signs.nd))
  (b_cons (s_for (i_rng1 T.b_range (a_cons (e_op o_sub (e_callB c_len T.b_len (a_cons (e_var 0) a_nil)) e_int) a_nil)) (g_name 4 sc_group_signs.nd) (b_cons (s_asg (e_callB c_divmod T.b_divmod (a_cons (e_var 1) (a_cons e_int a_nil))) (g_tup (gs_cons (g_name 1 sc_group_signs.nd) (gs_cons (g_name 5 sc_group_signs.nd) gs_nil))))
  (b_one (s_asg (e_op o_add (e_ix (e_glob T.c_SIGNS) (e_var 5)) (e_var 3)) (g_name 3 sc_group_signs.nd)))))
  (b_one (s_ret (e_var 3))))))))
theorem dv_line_at (T : Tx P K mg F D C) {cdv : Value} {A : Around} {outer : List Env} {s : Shared} {H : Hp} {E0 : XK}
    (hr : Room 0 (A.deeper (envOfC "line_at" (defScope s_line_at) s.heap.objs.size (F 3) cdv))) :
    B (cxOf CX0 P w K mg base N_line_at "line_at" (defScope s_line_at) (F 3) cdv A outer s H E0).nox (defBody s_line_at) (rd_line_at) :=
  (b_cons (s_asg e_int (g_name 2 sc_line_at.nd))
  (b_cons (s_for (i_of (e_var 0)) (g_name 3 sc_line_at.nd) (b_cons (s_if (t_cmp o_lt (e_var 1) (e_callB c_len T.b_len (a_cons (e_var 3) a_nil))) (b_one s_break) b_nil)
  (b_cons (s_aug 1 sc_line_at.nd ip_sub (e_callB c_len T.b_len (a_cons (e_var 3) a_nil)))
  (b_one (s_aug 2 sc_line_at.nd ip_add e_int)))))
  (b_one (s_ret (e_var 2)))))
theorem dv_decoded (T : Tx P K mg F D C) (G_group_signs : DL.FnOk P w K mg base CX0 1 (F 2) (D 2) P_group_signs (lift K 1 sp_group_signs)) (G_line_at : DL.FnOk P w K mg base CX0 1 (F 3) (D 3) P_line_at (lift K 2 sp_line_at)) {cdv : Value} {A : Around} {outer : List Env} {s : Shared} {H : Hp} {E0 : XK}
    (hr : Room 1 (A.deeper (envOfC "decoded" (defScope s_decoded) s.heap.objs.size (F 4) cdv))) :
    B (cxOf CX0 P w K mg base N_decoded "decoded" (defScope s_decoded) (F 4) cdv A outer s H E0).nox (defBody s_decoded) (rd_decoded) :=
  (b_cons (s_for (i_enumT T.b_enumerate (a_cons (e_var 0) a_nil)) (g_tup (gs_cons (g_name 4 sc_decoded.nd) (gs_cons (g_name 5 sc_decoded.nd) gs_nil))) (b_one (s_if (t_cmp o_ne (e_bm PySem.F.plainAttrs_str PySem.F.slot_str_strip PySem.F.type_str_strip m_stripC (e_var 5) (a_cons (e_glob T.c_DIGITS) a_nil)) (e_str [])) (b_one (s_ret (e_tup (a_cons (e_var 4) (a_cons (e_str []) a_nil))))) b_nil)))
  (b_cons (s_asg (e_bm PySem.F.plainAttrs_str PySem.F.slot_str_join PySem.F.type_str_join m_joinT (e_str []) (a_cons (e_var 0) a_nil)) (g_name 1 sc_decoded.nd))
  (b_cons (s_asg (e_new (n_lst a_nil)) (g_name 2 sc_decoded.nd))
  (b_cons (s_for (i_rng3 T.b_range (a_cons e_int (a_cons (e_callB c_len T.b_len (a_cons (e_var 1) a_nil)) (a_cons e_int a_nil)))) (g_name 3 sc_decoded.nd) (b_cons (s_asg (e_slice (e_var 1) (p_some (e_var 3)) (p_some (e_op o_add (e_var 3) e_int))) (g_name 6 sc_decoded.nd))
  (b_cons (s_asg (e_call G_group_signs (hr.mono (by first | decide | omega)) T.d_group_signs.mg T.d_group_signs.fn.kp T.d_group_signs.bi (a_cons (e_var 6) a_nil)) (g_name 7 sc_decoded.nd))
  (b_cons (s_if (t_cmp o_isN (e_var 7) e_non) (b_one (s_ret (e_tup (a_cons (e_call G_line_at (hr.mono (by first | decide | omega)) T.d_line_at.mg T.d_line_at.fn.kp T.d_line_at.bi (a_cons (e_var 0) (a_cons (e_op o_sub (e_op o_add (e_var 3) (e_callB c_len T.b_len (a_cons (e_var 6) a_nil))) e_int) a_nil))) (a_cons (e_str []) a_nil))))) b_nil)
  (b_one (s_expr (e_bm PySem.F.plainAttrs_list PySem.F.slot_list_append PySem.F.type_list_append m_app (e_var 2) (a_cons (e_var 7) a_nil))))))))
  (b_one (s_ret (e_tup (a_cons e_int (a_cons (e_bmL PySem.F.plainAttrs_str PySem.F.slot_str_join PySem.F.type_str_join m_join (e_str []) (l_of (e_var 2))) a_nil)))))))))
theorem dv_write_coding (T : Tx P K mg F D C) (G_group_digits : DL.FnOk P w K mg base CX0 1 (F 1) (D 1) P_group_digits (lift K 1 sp_group_digits)) {cdv : Value} {A : Around} {outer : List Env} {s : Shared} {H : Hp} {E0 : XK}
    (hr : Room 1 (A.deeper (envOfC "write_coding" (defScope s_write_coding) s.heap.objs.size (F 5) cdv))) :
    B (cxOf CX0 P w K mg base N_write_coding "write_coding" (defScope s_write_coding) (F 5) cdv A outer s H E0).nox (defBody s_write_coding) (rd_write_coding) :=
  (b_cons (s_asg (e_bmL PySem.F.plainAttrs_str PySem.F.slot_str_join PySem.F.type_str_join m_join (e_str []) (l_new (n_lc (own := [("at", 2)]) sc_write_coding.nd (i_rng3 T.b_range (a_cons e_int (a_cons (e_callB c_len T.b_len (a_cons (e_var 0) a_nil)) (a_cons e_int a_nil)))) (by first | (show blkC N_write_coding (defScope s_write_coding) _ _ = true; decide +kernel) | rfl) (gw_name 2 sc_write_coding.nd) tw_nil fun _ _ _ _ _ => (e_call G_group_digits (hr.mono (by first | decide | omega)) T.d_group_digits.mg T.d_group_digits.fn.kp T.d_group_digits.bi (a_cons (e_slice (e_var 0) (p_some (e_var 2)) (p_some (e_op o_add (e_var 2) e_int))) a_nil))))) (g_name 1 sc_write_coding.nd))
  (b_one (s_ret (e_callTyL cl_tuple T.b_tuple (l_new (n_lc (own := [("at", 2)]) sc_write_coding.nd (i_rng3 T.b_range (a_cons e_int (a_cons (e_callB c_len T.b_len (a_cons (e_var 1) a_nil)) (a_cons e_int a_nil)))) (by first | (show blkC N_write_coding (defScope s_write_coding) _ _ = true; decide +kernel) | rfl) (gw_name 2 sc_write_coding.nd) tw_nil fun _ _ _ _ _ => (e_slice (e_var 1) (p_some (e_var 2)) (p_some (e_op o_add (e_var 2) e_int)))))))))
theorem dv_read_coding (T : Tx P K mg F D C) (G_decoded : DL.FnOk P w K mg base CX0 2 (F 4) (D 4) P_decoded (lift K 1 sp_decoded)) {cdv : Value} {A : Around} {outer : List Env} {s : Shared} {H : Hp} {E0 : XK}
    (hr : Room 2 (A.deeper (envOfC "read_coding" (defScope s_read_coding) s.heap.objs.size (F 6) cdv))) :
    BX (cxOf (L2N.CX P w) P w K mg base N_read_coding "read_coding" (defScope s_read_coding) (F 6) cdv A outer s H E0) (defBody s_read_coding) (rd_read_coding C) :=
  (bx_cons (sx_of (s_asg (e_call G_decoded (hr.mono (by first | decide | omega)) T.d_decoded.mg T.d_decoded.fn.kp T.d_decoded.bi (a_cons (e_var 0) a_nil)) (g_tup (gs_cons (g_name 1 sc_read_coding.nd) (gs_cons (g_name 2 sc_read_coding.nd) gs_nil)))))
  (bx_cons (sx_if (t_cmp o_gt (e_var 1) e_int) (bx_one (sx_raise (mk_cls T.x_BadLetter fin2_ok (hr.mono (by first | decide | omega)) (a_cons (e_var 1) (a_cons (e_str [98, 97, 100, 32, 99, 111, 100, 105, 110, 103]) a_nil))))) (bx_of b_nil))
  (bx_one (sx_of (s_ret (e_var 2))))))
theorem dv_llaw_cell (T : Tx P K mg F D C) {cdv : Value} {A : Around} {outer : List Env} {s : Shared} {H : Hp} {E0 : XK}
    (hr : Room 0 (A.deeper (envOfC "_law_cell" (defScope s_llaw_cell) s.heap.objs.size (F 7) cdv))) :
    B (cxOf CX0 P w K mg base N_llaw_cell "_law_cell" (defScope s_llaw_cell) (F 7) cdv A outer s H E0).nox (defBody s_llaw_cell) (rd_llaw_cell) :=
  (b_cons (s_if (t_cmp o_lt (e_var 1) (e_callB c_len T.b_len (a_cons (e_var 0) a_nil))) (b_one (s_ret (e_ix (e_var 0) (e_var 1)))) b_nil)
  (b_one (s_ret e_int)))
theorem dv_llaw_digits (T : Tx P K mg F D C) (G_llaw_cell : DL.FnOk P w K mg base CX0 1 (F 7) (D 7) P_llaw_cell (lift K 2 sp_llaw_cell)) {cdv : Value} {A : Around} {outer : List Env} {s : Shared} {H : Hp} {E0 : XK}
    (hr : Room 1 (A.deeper (envOfC "_law_digits" (defScope s_llaw_digits) s.heap.objs.size (F 8) cdv))) :
    B (cxOf CX0 P w K mg base N_llaw_digits "_law_digits" (defScope s_llaw_digits) (F 8) cdv A outer s H E0).nox (defBody s_llaw_digits) (rd_llaw_digits) :=
  (b_cons (s_asg (e_new (n_lst a_nil)) (g_name 3 sc_llaw_digits.nd))
  (b_cons (s_for (i_rng2 T.b_range (a_cons (e_var 1) (a_cons (e_var 2) a_nil))) (g_name 4 sc_llaw_digits.nd) (b_cons (s_asg (e_call G_llaw_cell (hr.mono (by first | decide | omega)) T.d_llaw_cell.mg T.d_llaw_cell.fn.kp T.d_llaw_cell.bi (a_cons (e_var 0) (a_cons (e_var 4) a_nil))) (g_name 5 sc_llaw_digits.nd))
  (b_cons (s_if (t_cmp o_lt (e_var 5) e_int) (b_one (s_asg (e_op o_sub e_int (e_op o_mul e_int (e_var 5))) (g_name 5 sc_llaw_digits.nd))) b_nil)
  (b_cons (s_if (t_cmp o_gt (e_callB c_len T.b_len (a_cons (e_var 3) a_nil)) e_int) (b_one s_break) b_nil)
  (b_one (s_if (t_cmp o_ge (e_var 5) (e_op o_pow e_int e_int)) (b_one (s_for (i_rng1 T.b_range (a_cons e_int a_nil)) (g_name 6 sc_llaw_digits.nd) (b_one (s_if (t_cmp o_gt (e_var 5) e_int) (b_cons (s_expr (e_bm PySem.F.plainAttrs_list PySem.F.slot_list_append PySem.F.type_list_append m_app (e_var 3) (a_cons (e_op o_mod (e_callTy c_int T.b_int (a_cons (e_var 5) a_nil)) e_int) a_nil)))
  (b_one (s_asg (e_op o_fdiv (e_var 5) e_int) (g_name 5 sc_llaw_digits.nd)))) b_nil)))) (b_cons (s_asg (e_op o_mod (e_callTy c_int T.b_int (a_cons (e_op o_add (e_op o_add (e_op o_mul (e_var 5) e_int) (e_op o_mul (e_var 4) e_int)) e_int) a_nil)) e_int) (g_name 7 sc_llaw_digits.nd))
  (b_one (s_for (i_rng1 T.b_range (a_cons e_int a_nil)) (g_name 6 sc_llaw_digits.nd) (b_cons (s_asg (e_op o_mod (e_callTy c_int T.b_int (a_cons (e_op o_add (e_op o_add (e_op o_mul (e_var 7) e_int) (e_op o_mul e_int (e_var 6))) e_int) a_nil)) e_int) (g_name 7 sc_llaw_digits.nd))
  (b_one (s_expr (e_bm PySem.F.plainAttrs_list PySem.F.slot_list_append PySem.F.type_list_append m_app (e_var 3) (a_cons (e_op o_mod (e_callTy c_int T.b_int (a_cons (e_op o_fdiv (e_var 7) e_int) a_nil)) e_int) a_nil))))))))))))))
  (b_one (s_ret (e_var 3)))))
theorem dv_llaw_draw (T : Tx P K mg F D C) {cdv : Value} {A : Around} {outer : List Env} {s : Shared} {H : Hp} {E0 : XK}
    (hr : Room 0 (A.deeper (envOfC "_law_draw" (defScope s_llaw_draw) s.heap.objs.size (F 9) cdv))) :
    B (cxOf CX0 P w K mg base N_llaw_draw "_law_draw" (defScope s_llaw_draw) (F 9) cdv A outer s H E0).nox (defBody s_llaw_draw) (rd_llaw_draw) :=
  (b_cons (s_asg (e_ix (e_var 0) e_int) (g_name 2 sc_llaw_draw.nd))
  (b_cons (s_asg (e_op o_add (e_var 2) e_int) (g_setL (e_var 0) e_int))
  (b_cons (s_if (t_cmp o_lt (e_var 2) (e_callB c_len T.b_len (a_cons (e_ix (e_var 0) e_int) a_nil))) (b_one (s_ret (e_op o_mod (e_callTy c_int T.b_int (a_cons (e_ix (e_ix (e_var 0) e_int) (e_var 2)) a_nil)) (e_var 1)))) b_nil)
  (b_one (s_ret (e_op o_mod (e_callTy c_int T.b_int (a_cons (e_op o_mul (e_var 2) e_int) a_nil)) (e_var 1)))))))
theorem dv_llaw_pick (T : Tx P K mg F D C) (G_llaw_draw : DL.FnOk P w K mg base CX0 1 (F 9) (D 9) P_llaw_draw (lift K 2 sp_llaw_draw)) {cdv : Value} {A : Around} {outer : List Env} {s : Shared} {H : Hp} {E0 : XK}
    (hr : Room 1 (A.deeper (envOfC "_law_pick" (defScope s_llaw_pick) s.heap.objs.size (F 10) cdv))) :
    B (cxOf CX0 P w K mg base N_llaw_pick "_law_pick" (defScope s_llaw_pick) (F 10) cdv A outer s H E0).nox (defBody s_llaw_pick) (rd_llaw_pick) :=
  (b_one (s_ret (e_ix (e_var 1) (e_op o_mod (e_callTy c_int T.b_int (a_cons (e_call G_llaw_draw (hr.mono (by first | decide | omega)) T.d_llaw_draw.mg T.d_llaw_draw.fn.kp T.d_llaw_draw.bi (a_cons (e_var 0) (a_cons e_int a_nil))) a_nil)) (e_callB c_len T.b_len (a_cons (e_var 1) a_nil))))))
theorem dv_llaw_small (T : Tx P K mg F D C) {cdv : Value} {A : Around} {outer : List Env} {s : Shared} {H : Hp} {E0 : XK}
    (hr : Room 0 (A.deeper (envOfC "_law_small" (defScope s_llaw_small) s.heap.objs.size (F 11) cdv))) :
    B (cxOf CX0 P w K mg base N_llaw_small "_law_small" (defScope s_llaw_small) (F 11) cdv A outer s H E0).nox (defBody s_llaw_small) (rd_llaw_small) :=
  (b_one (s_ret (e_str [97, 98, 99, 100, 101, 102, 103, 104, 105, 106, 107, 108, 109, 110, 111, 112, 113, 114, 115, 116, 117, 118, 119, 120, 121, 122])))
theorem dv_llaw_number (T : Tx P K mg F D C) {cdv : Value} {A : Around} {outer : List Env} {s : Shared} {H : Hp} {E0 : XK} {p : Addr × Obj} (hot : L2H.Hot1 A p)
    (hr : L2H.RoomH 0 (A.deeper (envOfC "_law_number" (defScope s_llaw_number) s.heap.objs.size (F 12) cdv))) :
    B (L2H.cxH CX0 P w K mg base N_llaw_number "_law_number" (defScope s_llaw_number) (F 12) cdv A outer s H E0 p).nox (defBody s_llaw_number) (rd_llaw_number) :=
  (b_one (s_ret (e_and (e_isi .tInt (e_var 0) T.b_isinstance T.b_int) (e_and (e_not (e_isi .tBool (e_var 0) T.b_isinstance T.b_bool)) (e_one (e_chain o_le o_le (e_var 1) (e_var 0) (e_var 2)))))))
theorem dv_llaw_decoded (T : Tx P K mg F D C) (G_llaw_small : DL.FnOk P w K mg base CX0 1 (F 11) (D 11) P_llaw_small (lift K 0 sp_llaw_small)) {cdv : Value} {A : Around} {outer : List Env} {s : Shared} {H : Hp} {E0 : XK}
    (hr : Room 1 (A.deeper (envOfC "_law_decoded" (defScope s_llaw_decoded) s.heap.objs.size (F 13) cdv))) :
    B (cxOf CX0 P w K mg base N_llaw_decoded "_law_decoded" (defScope s_llaw_decoded) (F 13) cdv A outer s H E0).nox (defBody s_llaw_decoded) (rd_llaw_decoded) :=
  (b_cons (s_asg (e_op o_add (e_op o_add (e_op o_add (e_str [48, 49, 50, 51, 52, 53, 54, 55, 56, 57]) (e_call0 G_llaw_small (hr.mono (by first | decide | omega)) T.d_llaw_small.mg T.d_llaw_small.fn.kp T.d_llaw_small.bi)) (e_bm0 PySem.F.plainAttrs_str PySem.F.slot_str_upper PySem.F.type_str_upper m_upper (e_call0 G_llaw_small (hr.mono (by first | decide | omega)) T.d_llaw_small.mg T.d_llaw_small.fn.kp T.d_llaw_small.bi))) (e_str [43, 45])) (g_name 1 sc_llaw_decoded.nd))
  (b_cons (s_asg (e_op o_add (e_op o_add (e_op o_add (e_op o_add (e_str [10, 32, 33, 34, 35, 36, 38, 39, 40, 41, 42, 43, 44, 45, 46, 47, 48, 49, 50, 51, 52, 53, 54, 55, 56, 57, 58, 59, 60, 61, 62, 63, 64]) (e_bm0 PySem.F.plainAttrs_str PySem.F.slot_str_upper PySem.F.type_str_upper m_upper (e_call0 G_llaw_small (hr.mono (by first | decide | omega)) T.d_llaw_small.mg T.d_llaw_small.fn.kp T.d_llaw_small.bi))) (e_str [91, 92, 93, 94, 95, 96])) (e_call0 G_llaw_small (hr.mono (by first | decide | omega)) T.d_llaw_small.mg T.d_llaw_small.fn.kp T.d_llaw_small.bi)) (e_str [123, 124, 125, 126])) (g_name 2 sc_llaw_decoded.nd))
  (b_cons (s_asg (e_bmL PySem.F.plainAttrs_str PySem.F.slot_str_join PySem.F.type_str_join m_join (e_str []) (l_of (e_var 0))) (g_name 3 sc_llaw_decoded.nd))
  (b_cons (s_if (t_neL (hu hr) (n_lc (own := [("sign", 8)]) sc_llaw_decoded.nd (i_of (e_var 3)) (by first | (show blkC N_llaw_decoded (defScope s_llaw_decoded) _ _ = true; decide +kernel) | rfl) (gw_name 8 sc_llaw_decoded.nd) (tw_one fun _ _ _ _ _ => (t_cmp o_notIn (e_var 8) (e_var 1))) fun _ _ _ _ _ => e_int) (l_new (n_lst a_nil))) (b_one (s_ret e_non)) b_nil)
  (b_cons (s_asg (e_new (n_lst a_nil)) (g_name 4 sc_llaw_decoded.nd))
  (b_cons (s_for (i_rng3 T.b_range (a_cons e_int (a_cons (e_callB c_len T.b_len (a_cons (e_var 3) a_nil)) (a_cons e_int a_nil)))) (g_name 5 sc_llaw_decoded.nd) (b_cons (s_asg (e_slice (e_var 3) (p_some (e_var 5)) (p_some (e_op o_add (e_var 5) e_int))) (g_name 6 sc_llaw_decoded.nd))
  (b_cons (s_asg e_int (g_name 7 sc_llaw_decoded.nd))
  (b_cons (s_for (i_of (e_var 6)) (g_name 8 sc_llaw_decoded.nd) (b_one (s_asg (e_op o_add (e_op o_mul (e_var 7) e_int) (e_bm PySem.F.plainAttrs_str PySem.F.slot_str_find PySem.F.type_str_find m_find (e_var 1) (a_cons (e_var 8) a_nil))) (g_name 7 sc_llaw_decoded.nd))))
  (b_cons (s_if (DL.T.w (w_or (t_cmp o_eq (e_callB c_len T.b_len (a_cons (e_var 6) a_nil)) e_int) (w_or1 (t_cmp o_ge (e_var 7) (e_ixN (n_lst (a_cons e_int (a_cons e_int (a_cons e_int (a_cons e_int (a_cons e_int a_nil)))))) (e_callB c_len T.b_len (a_cons (e_var 6) a_nil))))))) (b_one (s_ret e_non)) b_nil)
  (b_cons (s_if (t_cmp o_eq (e_callB c_len T.b_len (a_cons (e_var 6) a_nil)) e_int) (b_one (s_expr (e_bm PySem.F.plainAttrs_list PySem.F.slot_list_append PySem.F.type_list_append m_app (e_var 4) (a_cons (e_ix (e_var 2) (e_op o_fdiv (e_var 7) e_int)) a_nil)))) b_nil)
  (b_cons (s_if (t_cmp o_ge (e_callB c_len T.b_len (a_cons (e_var 6) a_nil)) e_int) (b_one (s_expr (e_bm PySem.F.plainAttrs_list PySem.F.slot_list_append PySem.F.type_list_append m_app (e_var 4) (a_cons (e_ix (e_var 2) (e_op o_mod (e_callTy c_int T.b_int (a_cons (e_op o_fdiv (e_var 7) e_int) a_nil)) e_int)) a_nil)))) b_nil)
  (b_one (s_expr (e_bm PySem.F.plainAttrs_list PySem.F.slot_list_append PySem.F.type_list_append m_app (e_var 4) (a_cons (e_ix (e_var 2) (e_op o_mod (e_callTy c_int T.b_int (a_cons (e_var 7) a_nil)) e_int)) a_nil)))))))))))
  (b_one (s_ret (e_bmL PySem.F.plainAttrs_str PySem.F.slot_str_join PySem.F.type_str_join m_join (e_str []) (l_of (e_var 4)))))))))))
theorem dv_llaw_code (T : Tx P K mg F D C) (G_llaw_small : DL.FnOk P w K mg base CX0 1 (F 11) (D 11) P_llaw_small (lift K 0 sp_llaw_small)) {cdv : Value} {A : Around} {outer : List Env} {s : Shared} {H : Hp} {E0 : XK}
    (hr : Room 1 (A.deeper (envOfC "_law_code" (defScope s_llaw_code) s.heap.objs.size (F 14) cdv))) :
    B (cxOf CX0 P w K mg base N_llaw_code "_law_code" (defScope s_llaw_code) (F 14) cdv A outer s H E0).nox (defBody s_llaw_code) (rd_llaw_code) :=
  (b_cons (s_asg (e_op o_add (e_op o_add (e_op o_add (e_str [48, 49, 50, 51, 52, 53, 54, 55, 56, 57]) (e_call0 G_llaw_small (hr.mono (by first | decide | omega)) T.d_llaw_small.mg T.d_llaw_small.fn.kp T.d_llaw_small.bi)) (e_bm0 PySem.F.plainAttrs_str PySem.F.slot_str_upper PySem.F.type_str_upper m_upper (e_call0 G_llaw_small (hr.mono (by first | decide | omega)) T.d_llaw_small.mg T.d_llaw_small.fn.kp T.d_llaw_small.bi))) (e_str [43, 45])) (g_name 1 sc_llaw_code.nd))
  (b_cons (s_asg (e_op o_add (e_op o_add (e_op o_add (e_op o_add (e_str [10, 32, 33, 34, 35, 36, 38, 39, 40, 41, 42, 43, 44, 45, 46, 47, 48, 49, 50, 51, 52, 53, 54, 55, 56, 57, 58, 59, 60, 61, 62, 63, 64]) (e_bm0 PySem.F.plainAttrs_str PySem.F.slot_str_upper PySem.F.type_str_upper m_upper (e_call0 G_llaw_small (hr.mono (by first | decide | omega)) T.d_llaw_small.mg T.d_llaw_small.fn.kp T.d_llaw_small.bi))) (e_str [91, 92, 93, 94, 95, 96])) (e_call0 G_llaw_small (hr.mono (by first | decide | omega)) T.d_llaw_small.mg T.d_llaw_small.fn.kp T.d_llaw_small.bi)) (e_str [123, 124, 125, 126])) (g_name 2 sc_llaw_code.nd))
  (b_cons (s_asg (e_str []) (g_name 3 sc_llaw_code.nd))
  (b_cons (s_for (i_rng3 T.b_range (a_cons e_int (a_cons (e_callB c_len T.b_len (a_cons (e_var 0) a_nil)) (a_cons e_int a_nil)))) (g_name 4 sc_llaw_code.nd) (b_cons (s_asg (e_slice (e_var 0) (p_some (e_var 4)) (p_some (e_op o_add (e_var 4) e_int))) (g_name 5 sc_llaw_code.nd))
  (b_cons (s_asg e_int (g_name 6 sc_llaw_code.nd))
  (b_cons (s_for (i_of (e_var 5)) (g_name 7 sc_llaw_code.nd) (b_one (s_asg (e_op o_add (e_op o_mul (e_var 6) e_int) (e_bm PySem.F.plainAttrs_str PySem.F.slot_str_find PySem.F.type_str_find m_find (e_var 2) (a_cons (e_var 7) a_nil))) (g_name 6 sc_llaw_code.nd))))
  (b_one (s_for (i_rng1 T.b_range (a_cons (e_op o_add (e_callB c_len T.b_len (a_cons (e_var 5) a_nil)) e_int) a_nil)) (g_name 8 sc_llaw_code.nd) (b_one (s_asg (e_op o_add (e_var 3) (e_ix (e_var 1) (e_op o_mod (e_callTy c_int T.b_int (a_cons (e_op o_fdiv (e_var 6) (e_ixN (n_lst (a_cons e_int (a_cons e_int (a_cons e_int (a_cons e_int a_nil))))) (e_op o_sub (e_callB c_len T.b_len (a_cons (e_var 5) a_nil)) (e_var 8)))) a_nil)) e_int))) (g_name 3 sc_llaw_code.nd)))))))))
  (b_one (s_ret (e_callTyL cl_tuple T.b_tuple (l_new (n_lc (own := [("at", 4)]) sc_llaw_code.nd (i_rng3 T.b_range (a_cons e_int (a_cons (e_callB c_len T.b_len (a_cons (e_var 3) a_nil)) (a_cons e_int a_nil)))) (by first | (show blkC N_llaw_code (defScope s_llaw_code) _ _ = true; decide +kernel) | rfl) (gw_name 4 sc_llaw_code.nd) tw_nil fun _ _ _ _ _ => (e_slice (e_var 3) (p_some (e_var 4)) (p_some (e_op o_add (e_var 4) e_int))))))))))))
theorem dv_llaw_named (T : Tx P K mg F D C) (G_llaw_like : DL.FnOk P w K mg base CX0 64 (F 16) (D 16) P_llaw_like (lift K 2 (sp_like 64))) {cdv : Value} {A : Around} {outer : List Env} {s : Shared} {H : Hp} {E0 : XK}
    (hr : Room 64 (A.deeper (envOfC "_law_named" (defScope s_llaw_named) s.heap.objs.size (F 15) cdv))) :
    B (cxOf CX0 P w K mg base N_llaw_named "_law_named" (defScope s_llaw_named) (F 15) cdv A outer s H E0).nox (defBody s_llaw_named) (rd_llaw_named) :=
  (b_one (s_ret (e_call G_llaw_like (hr.mono (by first | decide | omega)) T.d_llaw_like.mg T.d_llaw_like.fn.kp T.d_llaw_like.bi (a_cons (e_var 0) (a_cons (e_callTy c_tupT T.b_tuple (a_cons (e_var 1) a_nil)) a_nil)))))
theorem dv_llaw_like (n : Nat) (T : Tx P K mg F D C) (G_llaw_like : DL.FnOk P w K mg base CX0 n (F 16) (D 16) P_llaw_like (lift K 2 (sp_like n))) {cdv : Value} {A : Around} {outer : List Env} {s : Shared} {H : Hp} {E0 : XK}
    (hr : Room n (A.deeper (envOfC "_law_like" (defScope s_llaw_like) s.heap.objs.size (F 16) cdv))) :
    B (cxOf CX0 P w K mg base N_llaw_like "_law_like" (defScope s_llaw_like) (F 16) cdv A outer s H E0).nox (defBody s_llaw_like) (rd_llaw_like n) :=
  (b_cons (s_if (t_tru (e_isi .tTuple (e_var 1) T.b_isinstance T.b_tuple)) (b_cons (s_if (DL.T.w (w_or (t_not (t_tru (e_isi .tTuple (e_var 0) T.b_isinstance T.b_tuple))) (w_or1 (t_cmp o_ne (e_callB c_len T.b_len (a_cons (e_var 0) a_nil)) (e_callB c_len T.b_len (a_cons (e_var 1) a_nil)))))) (b_one (s_ret e_bl)) b_nil)
  (b_one (s_ret (e_eqL (hu hr) (n_lc (own := [("k", 2)]) sc_llaw_like.nd (i_rng1 T.b_range (a_cons (e_callB c_len T.b_len (a_cons (e_var 1) a_nil)) a_nil)) (by first | (show blkC N_llaw_like (defScope s_llaw_like) _ _ = true; decide +kernel) | rfl) (gw_name 2 sc_llaw_like.nd) (tw_one fun _ _ _ _ _ => (t_not (t_tru (e_call G_llaw_like (hr.mono (by first | decide | omega)) T.d_llaw_like.mg T.d_llaw_like.fn.kp T.d_llaw_like.bi (a_cons (e_ix (e_var 0) (e_var 2)) (a_cons (e_ix (e_var 1) (e_var 2)) a_nil)))))) fun _ _ _ _ _ => e_int) (l_new (n_lst a_nil)))))) b_nil)
  (b_cons (s_if (t_cmp o_isN (e_var 1) e_non) (b_one (s_ret (e_cmp o_isN (e_var 0) e_non))) b_nil)
  (b_cons (s_if (t_cmp o_isB (e_var 1) e_bl) (b_one (s_ret (e_cmp o_isB (e_var 0) e_bl))) b_nil)
  (b_cons (s_if (t_cmp o_isB (e_var 1) e_bl) (b_one (s_ret (e_cmp o_isB (e_var 0) e_bl))) b_nil)
  (b_cons (s_if (t_tru (e_isi .tStr (e_var 1) T.b_isinstance T.b_str)) (b_one (s_ret (e_and (e_isi .tStr (e_var 0) T.b_isinstance T.b_str) (e_one (e_cmp o_eq (e_bmL PySem.F.plainAttrs_str PySem.F.slot_str_join PySem.F.type_str_join m_join (e_str []) (l_new (n_lst (a_cons (e_var 0) a_nil)))) (e_var 1)))))) b_nil)
  (b_one (s_ret (e_and (e_isi .tInt (e_var 0) T.b_isinstance T.b_int) (e_and (e_not (e_isi .tBool (e_var 0) T.b_isinstance T.b_bool)) (e_one (e_cmp o_eq (e_var 0) (e_var 1))))))))))))
theorem dv_llaw_coding_fault (T : Tx P K mg F D C) (G_llaw_small : DL.FnOk P w K mg base CX0 1 (F 11) (D 11) P_llaw_small (lift K 0 sp_llaw_small)) (G_llaw_decoded : DL.FnOk P w K mg base CX0 2 (F 13) (D 13) P_llaw_decoded (lift K 1 sp_llaw_decoded)) {cdv : Value} {A : Around} {outer : List Env} {s : Shared} {H : Hp} {E0 : XK}
    (hr : Room 2 (A.deeper (envOfC "_law_coding_fault" (defScope s_llaw_coding_fault) s.heap.objs.size (F 17) cdv))) :
    B (cxOf CX0 P w K mg base N_llaw_coding_fault "_law_coding_fault" (defScope s_llaw_coding_fault) (F 17) cdv A outer s H E0).nox (defBody s_llaw_coding_fault) (rd_llaw_coding_fault) :=
  (b_cons (s_asg (e_op o_add (e_op o_add (e_op o_add (e_str [48, 49, 50, 51, 52, 53, 54, 55, 56, 57]) (e_call0 G_llaw_small (hr.mono (by first | decide | omega)) T.d_llaw_small.mg T.d_llaw_small.fn.kp T.d_llaw_small.bi)) (e_bm0 PySem.F.plainAttrs_str PySem.F.slot_str_upper PySem.F.type_str_upper m_upper (e_call0 G_llaw_small (hr.mono (by first | decide | omega)) T.d_llaw_small.mg T.d_llaw_small.fn.kp T.d_llaw_small.bi))) (e_str [43, 45])) (g_name 2 sc_llaw_coding_fault.nd))
  (b_cons (s_asg (e_new (n_lst a_nil)) (g_name 3 sc_llaw_coding_fault.nd))
  (b_cons (s_for (i_rng1 T.b_range (a_cons (e_callB c_len T.b_len (a_cons (e_var 0) a_nil)) a_nil)) (g_name 4 sc_llaw_coding_fault.nd) (b_cons (s_if (t_neL (hu hr) (n_lc (own := [("sign", 7)]) sc_llaw_coding_fault.nd (i_of (e_ix (e_var 0) (e_var 4))) (by first | (show blkC N_llaw_coding_fault (defScope s_llaw_coding_fault) _ _ = true; decide +kernel) | rfl) (gw_name 7 sc_llaw_coding_fault.nd) (tw_one fun _ _ _ _ _ => (t_cmp o_notIn (e_var 7) (e_var 2))) fun _ _ _ _ _ => e_int) (l_new (n_lst a_nil))) (b_one (s_ret (e_op o_add (e_var 1) (e_var 4)))) b_nil)
  (b_one (s_asg (e_new (n_catE (e_var 3) (n_rep (n_lst (a_cons (e_op o_add (e_var 1) (e_var 4)) a_nil)) (e_callB c_len T.b_len (a_cons (e_ix (e_var 0) (e_var 4)) a_nil))))) (g_name 3 sc_llaw_coding_fault.nd)))))
  (b_cons (s_asg (e_bmL PySem.F.plainAttrs_str PySem.F.slot_str_join PySem.F.type_str_join m_join (e_str []) (l_of (e_var 0))) (g_name 5 sc_llaw_coding_fault.nd))
  (b_cons (s_for (i_rng3 T.b_range (a_cons e_int (a_cons (e_callB c_len T.b_len (a_cons (e_var 5) a_nil)) (a_cons e_int a_nil)))) (g_name 6 sc_llaw_coding_fault.nd) (b_one (s_if (t_cmp o_isN (e_call G_llaw_decoded (hr.mono (by first | decide | omega)) T.d_llaw_decoded.mg T.d_llaw_decoded.fn.kp T.d_llaw_decoded.bi (a_cons (e_new (n_lst (a_cons (e_slice (e_var 5) (p_some (e_var 6)) (p_some (e_op o_add (e_var 6) e_int))) a_nil))) a_nil)) e_non) (b_one (s_ret (e_ix (e_var 3) (e_callB c_min T.b_min (a_cons (e_op o_add (e_var 6) e_int) (a_cons (e_op o_sub (e_callB c_len T.b_len (a_cons (e_var 5) a_nil)) e_int) a_nil)))))) b_nil)))
  (b_one (s_ret e_non)))))))
theorem dv_llaw_free (T : Tx P K mg F D C) (G_llaw_draw : DL.FnOk P w K mg base CX0 1 (F 9) (D 9) P_llaw_draw (lift K 2 sp_llaw_draw)) (G_llaw_small : DL.FnOk P w K mg base CX0 1 (F 11) (D 11) P_llaw_small (lift K 0 sp_llaw_small)) {cdv : Value} {A : Around} {outer : List Env} {s : Shared} {H : Hp} {E0 : XK}
    (hr : Room 1 (A.deeper (envOfC "_law_free" (defScope s_llaw_free) s.heap.objs.size (F 18) cdv))) :
    B (cxOf CX0 P w K mg base N_llaw_free "_law_free" (defScope s_llaw_free) (F 18) cdv A outer s H E0).nox (defBody s_llaw_free) (rd_llaw_free) :=
  (b_cons (s_asg (e_op o_add (e_op o_add (e_op o_add (e_op o_add (e_str [10, 32, 33, 34, 35, 36, 38, 39, 40, 41, 42, 43, 44, 45, 46, 47, 48, 49, 50, 51, 52, 53, 54, 55, 56, 57, 58, 59, 60, 61, 62, 63, 64]) (e_bm0 PySem.F.plainAttrs_str PySem.F.slot_str_upper PySem.F.type_str_upper m_upper (e_call0 G_llaw_small (hr.mono (by first | decide | omega)) T.d_llaw_small.mg T.d_llaw_small.fn.kp T.d_llaw_small.bi))) (e_str [91, 92, 93, 94, 95, 96])) (e_call0 G_llaw_small (hr.mono (by first | decide | omega)) T.d_llaw_small.mg T.d_llaw_small.fn.kp T.d_llaw_small.bi)) (e_str [123, 124, 125, 126])) (g_name 2 sc_llaw_free.nd))
  (b_one (s_ret (e_bmL PySem.F.plainAttrs_str PySem.F.slot_str_join PySem.F.type_str_join m_join (e_str []) (l_new (n_lc (own := [("k", 3)]) sc_llaw_free.nd (i_rng1 T.b_range (a_cons (e_var 1) a_nil)) (by first | (show blkC N_llaw_free (defScope s_llaw_free) _ _ = true; decide +kernel) | rfl) (gw_name 3 sc_llaw_free.nd) tw_nil fun _ _ _ _ _ => (e_ix (e_var 2) (e_op o_mod (e_callTy c_int T.b_int (a_cons (e_call G_llaw_draw (hr.mono (by first | decide | omega)) T.d_llaw_draw.mg T.d_llaw_draw.fn.kp T.d_llaw_draw.bi (a_cons (e_var 0) (a_cons e_int a_nil))) a_nil)) e_int))))))))
theorem dv_llaw_refusal (T : Tx P K mg F D C) (G_llaw_number : FnTH P w K mg base CX0 1 (F 12) (D 12) P_llaw_number (lift K 3 sp_llaw_number)) {cdv : Value} {A : Around} {outer : List Env} {s : Shared} {H : Hp} {E0 : XK} {p : Addr × Obj} (hot : L2H.Hot1 A p)
    (hr : L2H.RoomH 1 (A.deeper (envOfC "_law_refusal" (defScope s_llaw_refusal) s.heap.objs.size (F 19) cdv))) :
    B (L2H.cxH CX0 P w K mg base N_llaw_refusal "_law_refusal" (defScope s_llaw_refusal) (F 19) cdv A outer s H E0 p).nox (defBody s_llaw_refusal) (rd_llaw_refusal) :=
  (b_cons (s_if (DL.T.w (w_and (t_tru (e_callH G_llaw_number (hr.mono (by first | decide | omega)) (hot_body hot) T.d_llaw_number.mg T.d_llaw_number.fn.kp T.d_llaw_number.bi (a_cons (e_var 0) (a_cons e_int (a_cons e_int a_nil))))) (w_and1 (t_tru (e_isi .tStr (e_var 1) T.b_isinstance T.b_str))))) (b_one (s_ret (e_new (n_lst (a_cons (e_var 0) (a_cons (e_bmL PySem.F.plainAttrs_str PySem.F.slot_str_join PySem.F.type_str_join m_join (e_str []) (l_new (n_lst (a_cons (e_var 1) a_nil)))) a_nil)))))) b_nil)
  (b_one (s_ret (e_new (n_lst (a_cons (e_str [119, 114, 111, 110, 103]) (a_cons (e_str [119, 114, 111, 110, 103]) a_nil)))))))
theorem dv_llaw_told (T : Tx P K mg F D C) (G_read_coding : DL.FnOk P w K mg base (L2N.CX P w) 3 (F 6) (D 6) P_read_coding (liftX K 1 (sp_read_coding C))) (G_llaw_refusal : FnTH P w K mg base CX0 2 (F 19) (D 19) P_llaw_refusal (lift K 2 sp_llaw_refusal)) {cdv : Value} {A : Around} {outer : List Env} {s : Shared} {H : Hp} {E0 : XK}
    (hr : Room 3 (A.deeper (envOfC "_law_told" (defScope s_llaw_told) s.heap.objs.size (F 20) cdv))) :
    B (cxOf CX0 P w K mg base N_llaw_told "_law_told" (defScope s_llaw_told) (F 20) cdv A outer s H E0).nox (defBody s_llaw_told) (rd_llaw_told C) :=
  (b_one (s_ofX (sx_tryAs 1 sc_llaw_told.nd (fun _ _ => (bx_one (sx_ret (ex_lst (ax_cons (ex_call G_read_coding (hr.mono (by first | decide | omega)) T.d_read_coding.mg T.d_read_coding.fn.kp T.d_read_coding.bi (ax_of (a_cons (e_var 0) a_nil))) (ax_of a_nil)))))) ⟨rfl, by decide, .inl T.x_BadLetter.gl⟩ (one_mem T.x_BadLetter.me) (suD_one fun a oe d pn hz hf => (b_one (s_ret (e_callH G_llaw_refusal (roomH_suite (hr.mono (by first | decide | omega))) (hot_suite hz hf) T.d_llaw_refusal.mg T.d_llaw_refusal.fn.kp T.d_llaw_refusal.bi (a_cons (e_xf T.x_BadLetter.xf T.xn_BadLetter_line hz hf (e_var 1)) (a_cons (e_xf T.x_BadLetter.xf T.xn_BadLetter_reason hz hf (e_var 1)) a_nil)))))) (hds_one ⟨rfl, by decide, .inl T.xg_MailError⟩))))
theorem dv_llaw_cut (T : Tx P K mg F D C) (G_llaw_draw : DL.FnOk P w K mg base CX0 1 (F 9) (D 9) P_llaw_draw (lift K 2 sp_llaw_draw)) {cdv : Value} {A : Around} {outer : List Env} {s : Shared} {H : Hp} {E0 : XK}
    (hr : Room 1 (A.deeper (envOfC "_law_cut" (defScope s_llaw_cut) s.heap.objs.size (F 21) cdv))) :
    B (cxOf CX0 P w K mg base N_llaw_cut "_law_cut" (defScope s_llaw_cut) (F 21) cdv A outer s H E0).nox (defBody s_llaw_cut) (rd_llaw_cut) :=
  (b_cons (s_asg (e_new (n_lst a_nil)) (g_name 2 sc_llaw_cut.nd))
  (b_cons (s_for (i_rng1 T.b_range (a_cons e_int a_nil)) (g_name 3 sc_llaw_cut.nd) (b_cons (s_asg (e_call G_llaw_draw (hr.mono (by first | decide | omega)) T.d_llaw_draw.mg T.d_llaw_draw.fn.kp T.d_llaw_draw.bi (a_cons (e_var 0) (a_cons e_int a_nil))) (g_name 4 sc_llaw_cut.nd))
  (b_cons (s_expr (e_bm PySem.F.plainAttrs_list PySem.F.slot_list_append PySem.F.type_list_append m_app (e_var 2) (a_cons (e_slice (e_var 1) p_none (p_some (e_var 4))) a_nil)))
  (b_one (s_asg (e_slice (e_var 1) (p_some (e_var 4)) p_none) (g_name 1 sc_llaw_cut.nd))))))
  (b_one (s_ret (e_new (n_catE (e_var 2) (n_lst (a_cons (e_var 1) a_nil))))))))
theorem dv_law (T : Tx P K mg F D C) (G_write_coding : DL.FnOk P w K mg base CX0 2 (F 5) (D 5) P_write_coding (lift K 1 sp_write_coding)) (G_llaw_digits : DL.FnOk P w K mg base CX0 2 (F 8) (D 8) P_llaw_digits (lift K 3 sp_llaw_digits)) (G_llaw_draw : DL.FnOk P w K mg base CX0 1 (F 9) (D 9) P_llaw_draw (lift K 2 sp_llaw_draw)) (G_llaw_pick : DL.FnOk P w K mg base CX0 2 (F 10) (D 10) P_llaw_pick (lift K 2 sp_llaw_pick)) (G_llaw_decoded : DL.FnOk P w K mg base CX0 2 (F 13) (D 13) P_llaw_decoded (lift K 1 sp_llaw_decoded)) (G_llaw_code : DL.FnOk P w K mg base CX0 2 (F 14) (D 14) P_llaw_code (lift K 1 sp_llaw_code)) (G_llaw_named : DL.FnOk P w K mg base CX0 65 (F 15) (D 15) P_llaw_named (lift K 2 sp_llaw_named)) (G_llaw_like : DL.FnOk P w K mg base CX0 64 (F 16) (D 16) P_llaw_like (lift K 2 (sp_like 64))) (G_llaw_coding_fault : DL.FnOk P w K mg base CX0 3 (F 17) (D 17) P_llaw_coding_fault (lift K 2 sp_llaw_coding_fault)) (G_llaw_free : DL.FnOk P w K mg base CX0 2 (F 18) (D 18) P_llaw_free (lift K 2 sp_llaw_free)) (G_llaw_told : DL.FnOk P w K mg base CX0 4 (F 20) (D 20) P_llaw_told (lift K 1 sp_llaw_told)) (G_llaw_cut : DL.FnOk P w K mg base CX0 2 (F 21) (D 21) P_llaw_cut (lift K 2 sp_llaw_cut)) {cdv : Value} {A : Around} {outer : List Env} {s : Shared} {H : Hp} {E0 : XK}
    (hr : Room 65 (A.deeper (envOfC "law" (defScope s_law) s.heap.objs.size (F 22) cdv))) :
    B0 (cxOf CX0 P w K mg base N_law "law" (defScope s_law) (F 22) cdv A outer s H E0).nox (defBody s_law) (rd_law) :=
  (b0_cons (s0_asg (e0_new (n0_lst (a0_hd (e0_call G_llaw_digits (hr.mono (by first | decide | omega)) T.d_llaw_digits.mg T.d_llaw_digits.fn.kp T.d_llaw_digits.bi (a0_var 0 (a0_hd e0_int (a_cons e_int a_nil)))) (a_cons e_int a_nil)))) (g_name 1 sc_law.nd))
  (b_cons (s_for (i_rng1 T.b_range (a_cons e_int a_nil)) (g_name 2 sc_law.nd) (b_cons (s_asg (e_call G_llaw_free (hr.mono (by first | decide | omega)) T.d_llaw_free.mg T.d_llaw_free.fn.kp T.d_llaw_free.bi (a_cons (e_var 1) (a_cons (e_call G_llaw_draw (hr.mono (by first | decide | omega)) T.d_llaw_draw.mg T.d_llaw_draw.fn.kp T.d_llaw_draw.bi (a_cons (e_var 1) (a_cons e_int a_nil))) a_nil))) (g_name 3 sc_law.nd))
  (b_cons (s_if (t_cmp o_eq (e_call G_llaw_draw (hr.mono (by first | decide | omega)) T.d_llaw_draw.mg T.d_llaw_draw.fn.kp T.d_llaw_draw.bi (a_cons (e_var 1) (a_cons e_int a_nil))) e_int) (b_one (s_asg (e_op o_mulS (e_var 3) (e_op o_add e_int (e_call G_llaw_draw (hr.mono (by first | decide | omega)) T.d_llaw_draw.mg T.d_llaw_draw.fn.kp T.d_llaw_draw.bi (a_cons (e_var 1) (a_cons e_int a_nil))))) (g_name 3 sc_law.nd))) b_nil)
  (b_cons (s_asg (e_call G_llaw_code (hr.mono (by first | decide | omega)) T.d_llaw_code.mg T.d_llaw_code.fn.kp T.d_llaw_code.bi (a_cons (e_var 3) a_nil)) (g_name 4 sc_law.nd))
  (b_cons (s_asg (e_call G_write_coding (hr.mono (by first | decide | omega)) T.d_write_coding.mg T.d_write_coding.fn.kp T.d_write_coding.bi (a_cons (e_var 3) a_nil)) (g_name 5 sc_law.nd))
  (b_cons (s_if (t_not (t_tru (e_call G_llaw_named (hr.mono (by first | decide | omega)) T.d_llaw_named.mg T.d_llaw_named.fn.kp T.d_llaw_named.bi (a_cons (e_var 5) (a_cons (e_var 4) a_nil))))) (b_one (s_ret e_bl)) b_nil)
  (b_cons (s_asg (e_call G_llaw_cut (hr.mono (by first | decide | omega)) T.d_llaw_cut.mg T.d_llaw_cut.fn.kp T.d_llaw_cut.bi (a_cons (e_var 1) (a_cons (e_bm PySem.F.plainAttrs_str PySem.F.slot_str_join PySem.F.type_str_join m_joinT (e_str []) (a_cons (e_var 4) a_nil)) a_nil))) (g_name 6 sc_law.nd))
  (b_cons (s_asg (e_call G_llaw_told (hr.mono (by first | decide | omega)) T.d_llaw_told.mg T.d_llaw_told.fn.kp T.d_llaw_told.bi (a_cons (e_callTyL cl_tuple T.b_tuple (l_of (e_var 6))) a_nil)) (g_name 7 sc_law.nd))
  (b_cons (s_if (DL.T.w (w_or (t_cmp o_ne (e_callB c_len T.b_len (a_cons (e_var 7) a_nil)) e_int) (w_or (t_not (t_tru (e_call G_llaw_like (hr.mono (by first | decide | omega)) T.d_llaw_like.mg T.d_llaw_like.fn.kp T.d_llaw_like.bi (a_cons (e_ix (e_var 7) e_int) (a_cons (e_var 3) a_nil))))) (w_or1 (t_not (t_tru (e_call G_llaw_like (hr.mono (by first | decide | omega)) T.d_llaw_like.mg T.d_llaw_like.fn.kp T.d_llaw_like.bi (a_cons (e_ix (e_call G_llaw_told (hr.mono (by first | decide | omega)) T.d_llaw_told.mg T.d_llaw_told.fn.kp T.d_llaw_told.bi (a_cons (e_var 4) a_nil)) e_int) (a_cons (e_var 3) a_nil))))))))) (b_one (s_ret e_bl)) b_nil)
  (b_one (s_for (i_rng1 T.b_range (a_cons e_int a_nil)) (g_name 8 sc_law.nd) (b_cons (s_asg (e_call G_llaw_draw (hr.mono (by first | decide | omega)) T.d_llaw_draw.mg T.d_llaw_draw.fn.kp T.d_llaw_draw.bi (a_cons (e_var 1) (a_cons (e_callB c_len T.b_len (a_cons (e_var 6) a_nil)) a_nil))) (g_name 9 sc_law.nd))
  (b_cons (s_asg (e_call G_llaw_draw (hr.mono (by first | decide | omega)) T.d_llaw_draw.mg T.d_llaw_draw.fn.kp T.d_llaw_draw.bi (a_cons (e_var 1) (a_cons (e_op o_add (e_callB c_len T.b_len (a_cons (e_ix (e_var 6) (e_var 9)) a_nil)) e_int) a_nil))) (g_name 10 sc_law.nd))
  (b_cons (s_asg (e_call G_llaw_pick (hr.mono (by first | decide | omega)) T.d_llaw_pick.mg T.d_llaw_pick.fn.kp T.d_llaw_pick.bi (a_cons (e_var 1) (a_cons (e_new (n_lst (a_cons (e_str [45]) (a_cons (e_str [43]) (a_cons (e_str [90]) (a_cons (e_str [48]) (a_cons (e_str []) (a_cons (e_str [32]) (a_cons (e_str [61]) (a_cons (e_str [95]) a_nil)))))))))) a_nil))) (g_name 11 sc_law.nd))
  (b_cons (s_asg (e_new (n_cat (n_cat (n_slice (e_var 6) p_none (p_some (e_var 9))) (n_lst (a_cons (e_op o_add (e_op o_add (e_slice (e_ix (e_var 6) (e_var 9)) p_none (p_some (e_var 10))) (e_var 11)) (e_slice (e_ix (e_var 6) (e_var 9)) (p_some (e_op o_add (e_var 10) (e_call G_llaw_draw (hr.mono (by first | decide | omega)) T.d_llaw_draw.mg T.d_llaw_draw.fn.kp T.d_llaw_draw.bi (a_cons (e_var 1) (a_cons e_int a_nil))))) p_none)) a_nil))) (n_slice (e_var 6) (p_some (e_op o_add (e_var 9) e_int)) p_none))) (g_name 12 sc_law.nd))
  (b_cons (s_asg (e_call G_llaw_coding_fault (hr.mono (by first | decide | omega)) T.d_llaw_coding_fault.mg T.d_llaw_coding_fault.fn.kp T.d_llaw_coding_fault.bi (a_cons (e_var 12) (a_cons e_int a_nil))) (g_name 13 sc_law.nd))
  (b_cons (s_asg (e_call G_llaw_told (hr.mono (by first | decide | omega)) T.d_llaw_told.mg T.d_llaw_told.fn.kp T.d_llaw_told.bi (a_cons (e_callTyL cl_tuple T.b_tuple (l_of (e_var 12))) a_nil)) (g_name 5 sc_law.nd))
  (b_cons (s_if (DL.T.w (w_and (t_cmp o_notN (e_var 13) e_non) (w_and1 (t_neO (hu hr) (e_var 5) (l_new (n_lst (a_cons (e_var 13) (a_cons (e_str [98, 97, 100, 32, 99, 111, 100, 105, 110, 103]) a_nil)))))))) (b_one (s_ret e_bl)) b_nil)
  (b_one (s_if (DL.T.w (w_and (t_cmp o_isN (e_var 13) e_non) (w_and1 (DL.T.w (w_or (t_cmp o_ne (e_callB c_len T.b_len (a_cons (e_var 5) a_nil)) e_int) (w_or1 (t_not (t_tru (e_call G_llaw_like (hr.mono (by first | decide | omega)) T.d_llaw_like.mg T.d_llaw_like.fn.kp T.d_llaw_like.bi (a_cons (e_ix (e_var 5) e_int) (a_cons (e_call G_llaw_decoded (hr.mono (by first | decide | omega)) T.d_llaw_decoded.mg T.d_llaw_decoded.fn.kp T.d_llaw_decoded.bi (a_cons (e_var 12) a_nil)) a_nil))))))))))) (b_one (s_ret e_bl)) b_nil))))))))))))))))))))
  (b_one (s_ret e_bl))))
end
end LW


set_option Elab.async false
set_option linter.all false
set_option maxRecDepth 100000
set_option maxHeartbeats 4000000
namespace LW
open PySem PySem.Spec L2 DL
local macro_rules | `(tactic| walk_at "dl") => `(tactic| simp -implicitDefEqProofs only [↓dSeq, ↓dIfS, ↓dTB, ↓dOp, ↓dVar, ↓dC, ↓dLt, ↓dLe, ↓dGt, ↓dGe, ↓rII, ↓rIIc, ↓dCB, ↓dCons, ↓dNil, ↓dLen, ↓dInt, ↓dRet, ↓dRetN, ↓dNext, ↓dIx, ↓dAt, ↓startD, List.map_cons, List.map_nil, List.cons_append, List.nil_append, List.append_nil, List.length_cons, List.length_nil, List.getElem?_cons_zero, List.getElem?_cons_succ, List.length_map, ↓dAsg, ↓dName, ↓dNew, ↓dLst, ↓dFor_k, ↓dRng1, ↓dRng2, ↓dCall_k, ↓dAdd, ↓dSub, ↓dMul, ↓dMod, ↓dFdiv, ↓dPow, ↓dEq, ↓dNe, ↓scd, ↓dIsN, ↓dNotN, ↓dIsB, ↓dNotB, ↓dUn, ↓dNeg, ↓dTru, ↓dTruS, ↓dAnd, ↓dOr, ↓dNot, ↓dNotV, ↓dAndV, ↓dOrV, ↓dIfE, ↓dTup, ↓dDrop, ↓dBM, ↓dBM0, ↓tyD, ↓dApp, ↓dSetL, ↓dAsL, ↓dOnL, ↓dOnN, ↓dIsi, ↓tyName, isT, ↓dBreak, ↓dCont, ↓dPar, ↓endsD, List.set_cons_zero, List.set_cons_succ, List.replicate_succ, List.replicate_zero, su_same, ↓dLc_k, ↓dWhile_k, ↓dWipe, ↓dYes, ↓dIt, ↓dItN, ↓dSlice, ↓dPart, ↓dNoP, ↓dCut, ↓dSliceE, ↓dIxL, ↓dChain, ↓dIn, ↓dNotIn, ↓dInS, ↓mS0, ↓mS1, ↓dSta, ↓dEnd, ↓dFind, ↓dIsasc, ↓dIsdig, ↓dIsalp, ↓dIsaln, ↓dIslow, ↓dIspri, ↓okT, ↓okU, ↓ok2, ↓dFind4, ↓dSplit, ↓dJoin, ↓dJoinT, ↓dMulS, ↓dCatL, ↓dCatE, ↓dCatR, ↓dCatEE, ↓dStar, ↓dIntS, ↓dStr, ↓dMax, ↓dMin, ↓dII, ↓dFld, ↓dSetF, ↓dMeth_k, ↓dMake_k, ↓dGtup, ↓dGcons, ↓dGnil, true_and, and_true, Nat.add_zero, reduceCtorEq, ↓reduceIte, Bool.not_true, Bool.not_false, Bool.false_eq_true, if_true, if_false])
local macro_rules | `(tactic| walk_at "dl*") => `(tactic| simp -implicitDefEqProofs only [*, ↓dSeq, ↓dIfS, ↓dTB, ↓dOp, ↓dVar, ↓dC, ↓dLt, ↓dLe, ↓dGt, ↓dGe, ↓rII, ↓rIIc, ↓dCB, ↓dCons, ↓dNil, ↓dLen, ↓dInt, ↓dRet, ↓dRetN, ↓dNext, ↓dIx, ↓dAt, ↓startD, List.map_cons, List.map_nil, List.cons_append, List.nil_append, List.append_nil, List.length_cons, List.length_nil, List.getElem?_cons_zero, List.getElem?_cons_succ, List.length_map, ↓dAsg, ↓dName, ↓dNew, ↓dLst, ↓dFor_k, ↓dRng1, ↓dRng2, ↓dCall_k, ↓dAdd, ↓dSub, ↓dMul, ↓dMod, ↓dFdiv, ↓dPow, ↓dEq, ↓dNe, ↓scd, ↓dIsN, ↓dNotN, ↓dIsB, ↓dNotB, ↓dUn, ↓dNeg, ↓dTru, ↓dTruS, ↓dAnd, ↓dOr, ↓dNot, ↓dNotV, ↓dAndV, ↓dOrV, ↓dIfE, ↓dTup, ↓dDrop, ↓dBM, ↓dBM0, ↓tyD, ↓dApp, ↓dSetL, ↓dAsL, ↓dOnL, ↓dOnN, ↓dIsi, ↓tyName, isT, ↓dBreak, ↓dCont, ↓dPar, ↓endsD, List.set_cons_zero, List.set_cons_succ, List.replicate_succ, List.replicate_zero, su_same, ↓dLc_k, ↓dWhile_k, ↓dWipe, ↓dYes, ↓dIt, ↓dItN, ↓dSlice, ↓dPart, ↓dNoP, ↓dCut, ↓dSliceE, ↓dIxL, ↓dChain, ↓dIn, ↓dNotIn, ↓dInS, ↓mS0, ↓mS1, ↓dSta, ↓dEnd, ↓dFind, ↓dIsasc, ↓dIsdig, ↓dIsalp, ↓dIsaln, ↓dIslow, ↓dIspri, ↓okT, ↓okU, ↓ok2, ↓dFind4, ↓dSplit, ↓dJoin, ↓dJoinT, ↓dMulS, ↓dCatL, ↓dCatE, ↓dCatR, ↓dCatEE, ↓dStar, ↓dIntS, ↓dStr, ↓dMax, ↓dMin, ↓dII, ↓dFld, ↓dSetF, ↓dMeth_k, ↓dMake_k, ↓dGtup, ↓dGcons, ↓dGnil, true_and, and_true, Nat.add_zero, reduceCtorEq, ↓reduceIte, Bool.not_true, Bool.not_false, Bool.false_eq_true, if_true, if_false])
theorem ok_llaw_cell : ∀ ds S Q, ds.length = 2 → sp_llaw_cell ds S Q → rd_llaw_cell (endsD Q) (startD N_llaw_cell ds) S := by
  rintro ds S Q - ⟨ns, k, rfl, hk, h⟩
  walk_at "dl"
  refine ifb (fun hl => ?_) fun _ => ⟨S, Sle.refl S, h _⟩
  obtain ⟨j, rfl⟩ := Int.eq_ofNat_of_zero_le hk
  have hj : j < ns.length := by omega
  have e : atI (ns.map D.int) (j : Int) = some (D.int ns[j]) := atI_nat (by rw [List.getElem?_map, List.getElem?_eq_getElem hj]; rfl)
  rw [e]
  exact ⟨S, Sle.refl S, h _⟩
theorem ok_llaw_draw : ∀ ds S Q, ds.length = 2 → sp_llaw_draw ds S Q → rd_llaw_draw (endsD Q) (startD N_llaw_draw ds) S := by
  rintro ds S Q - ⟨b, m, rfl, hm, ⟨dg, gs, a, hb, hd, hg, ha, hne⟩, h⟩
  have e1 : atI [D.rf dg, D.int a] 1 = some (.int a) := rfl
  have e0 : ∀ x, atI [D.rf dg, D.int x] 0 = some (.rf dg) := fun _ => rfl
  have e2 : ixN 2 1 = some 1 := rfl
  have e3 : su S b (.lst [.rf dg, .int (a + 1)]) dg = some (.lst (gs.map D.int)) := by rw [su_ne hne]; exact hd
  have bx : Bx b S (su S b (.lst [.rf dg, .int (a + 1)])) := ⟨⟨dg, gs, a + 1, su_same, e3, hg, by omega, hne⟩, fun p hp => su_ne hp, dg, a, a + 1, hb, su_same⟩
  walk_at "dl*"
  refine ifb (fun hl => ?_) fun _ => ?_
  · obtain ⟨j, rfl⟩ := Int.eq_ofNat_of_zero_le ha
    have hj : j < gs.length := by omega
    have e : atI (gs.map D.int) (j : Int) = some (D.int gs[j]) := atI_nat (by rw [List.getElem?_map, List.getElem?_eq_getElem hj]; rfl)
    rw [e]
    exact ⟨_, Sle.refl _, h _ _ (Int.emod_nonneg _ (by omega)) (Int.emod_lt_of_pos _ hm) bx⟩
  · exact ⟨.inr ⟨by decide, by decide⟩, _, Sle.refl _, h _ _ (Int.emod_nonneg _ (by omega)) (Int.emod_lt_of_pos _ hm) bx⟩
theorem Dig.snoc {gs : List Int} {x : Int} (h : ∀ g ∈ gs, 0 ≤ g ∧ g < 1000) : ∀ g ∈ gs ++ [x % 1000], 0 ≤ g ∧ g < 1000 := fun g hg => by
  rcases List.mem_append.mp hg with z | z
  · exact h g z
  · rw [List.mem_singleton.mp z]; omega
theorem ok_llaw_digits : ∀ ds S Q, ds.length = 3 → sp_llaw_digits ds S Q → rd_llaw_digits (endsD Q) (startD N_llaw_digits ds) S := by
  rintro ds S0 Q - ⟨ns, rfl, h⟩
  walk_at "dl"
  refine ⟨Nat.zero_le _, fun p hp => ⟨by decide, ?_⟩⟩
  refine loop_inv (fun rest δ S => ∃ gs k c t s, δ = [some (.frz (ns.map D.int)), some (.int 0), some (.int 63), some (.rf p), k, c, t, s] ∧ S = su S0 p (.lst (gs.map D.int)) ∧ (∀ g ∈ gs, 0 ≤ g ∧ g < 1000) ∧ gs.length + 60 * rest.length ≤ 3780 ∧ ∀ x ∈ rest, ∃ i : Nat, x = .int i) ?_ ?_ ?_ _ _ _
    ⟨[], none, none, none, none, rfl, rfl, by simp, by simp [rng_len], fun x hx => ?_⟩
  · rintro x xs δ S N ⟨gs, k, c, t, s, rfl, rfl, hg, hl, hx⟩ hN
    obtain ⟨i, rfl⟩ := hx x List.mem_cons_self
    have hx' := fun y hy => hx y (List.mem_cons_of_mem _ hy)
    rw [List.length_cons] at hl
    walk_at "dl"
    refine ⟨ns, _, rfl, by omega, fun cell => ?_⟩
    have brk : ∃ S', Sle S' (su S0 p (.lst (gs.map D.int))) ∧ Q (.rf p) S' := ⟨_, Sle.refl _, h gs p ⟨hg, by omega⟩ hp⟩
    -- the two ways behind the cell's sign
    have long : ∀ (c t : Option D) (z : Int), loopK (dName 6) (dIfS (dTB (dOp dGt (dVar 5) (dC (.int 0)))) (dSeq (dDrop (dBM "list" dApp (dVar 3) (dCons (dOp dMod (dCB dInt (dCons (dVar 5) dNil)) (dC (.int 1000))) dNil))) (dAsg (dOp dFdiv (dVar 5) (dC (.int 1000))) (dName 5))) dNext)
        { nx := N, rt := fun d S => ∃ S', Sle S' S ∧ Q d S', bk := dRet (dVar 3) { nx := fun x S => ∃ S', Sle S' S ∧ Q D.non S', rt := fun d S => ∃ S', Sle S' S ∧ Q d S' }, ct := N } (fun _ => True) (rng 0 (Int.toNat 60))
        [some (.frz (ns.map D.int)), some (.int 0), some (.int 63), some (.rf p), some (.int i), some (.int z), t, s] (su S0 p (.lst (gs.map D.int))) .mk .mk .mk .mk := by
      intro c t z
      refine loop_inv (fun rest δ S => ∃ hs k z t, δ = [some (.frz (ns.map D.int)), some (.int 0), some (.int 63), some (.rf p), k, some (.int z), t, s] ∧ S = su S0 p (.lst (hs.map D.int)) ∧ (∀ g ∈ hs, 0 ≤ g ∧ g < 1000) ∧ hs.length + rest.length ≤ gs.length + 60) ?_ ?_ ?_ _ _ _
        ⟨gs, _, z, t, rfl, rfl, hg, by rw [rng_len]; exact Nat.le_refl _⟩
      · rintro x xs δ S N ⟨hs, k, z, t, rfl, rfl, hh, hl⟩ hN
        rw [List.length_cons] at hl
        walk_at "dl"
        refine ifb (fun _ => ?_) fun _ => ?_
        · refine ⟨⟨_, rfl⟩, by omega, by rw [sizeLine_eq]; omega, ⟨by decide, by decide⟩, hN _ _ ⟨hs ++ [z % 1000], _, _, _, rfl, by rw [su_su, List.map_append]; rfl, Dig.snoc hh, by rw [List.length_append, List.length_singleton]; omega⟩⟩
        · exact hN _ _ ⟨hs, _, _, _, rfl, rfl, hh, by omega⟩
      · exact fun _ _ _ _ => trivial
      · rintro δ S ⟨hs, k, z, t, rfl, rfl, hh, hl⟩
        exact hN _ _ ⟨hs, _, _, _, _, rfl, rfl, hh, by simp at hl; omega, hx'⟩
    have short : ∀ (c t : Option D) (z : Int), loopK (dName 6) (dSeq (dAsg (dOp dMod (dCB dInt (dCons (dOp dAdd (dOp dAdd (dOp dMul (dVar 7) (dC (.int 16807))) (dOp dMul (dC (.int 7)) (dVar 6))) (dC (.int 1))) dNil)) (dC (.int 2147483647))) (dName 7))
          (dDrop (dBM "list" dApp (dVar 3) (dCons (dOp dMod (dCB dInt (dCons (dOp dFdiv (dVar 7) (dC (.int 997))) dNil)) (dC (.int 1000))) dNil))))
        { nx := N, rt := fun d S => ∃ S', Sle S' S ∧ Q d S', bk := dRet (dVar 3) { nx := fun x S => ∃ S', Sle S' S ∧ Q D.non S', rt := fun d S => ∃ S', Sle S' S ∧ Q d S' }, ct := N } (fun _ => True) (rng 0 (Int.toNat 12))
        [some (.frz (ns.map D.int)), some (.int 0), some (.int 63), some (.rf p), some (.int i), c, t, some (.int z)] (su S0 p (.lst (gs.map D.int))) .mk .mk .mk .mk := by
      intro c t z
      refine loop_inv (fun rest δ S => ∃ hs k z t, δ = [some (.frz (ns.map D.int)), some (.int 0), some (.int 63), some (.rf p), k, c, t, some (.int z)] ∧ S = su S0 p (.lst (hs.map D.int)) ∧ (∀ g ∈ hs, 0 ≤ g ∧ g < 1000) ∧ hs.length + rest.length ≤ gs.length + 12 ∧ ∀ x ∈ rest, ∃ i : Nat, x = .int i) ?_ ?_ ?_ _ _ _
        ⟨gs, _, z, t, rfl, rfl, hg, by rw [rng_len]; exact Nat.le_refl _, fun x hx => let ⟨i, _, e⟩ := rng_mem hx; ⟨i, by rw [e]; simp⟩⟩
      · rintro x xs δ S N ⟨hs, k, z, t, rfl, rfl, hh, hl, hx⟩ hN
        obtain ⟨i, rfl⟩ := hx x List.mem_cons_self
        rw [List.length_cons] at hl
        walk_at "dl"
        refine ⟨.inr ⟨by decide, by decide⟩, .inl ⟨by decide, by decide⟩, by decide, ⟨_, rfl⟩, ⟨by decide, by decide⟩, by decide, by rw [sizeLine_eq]; omega, hN _ _ ⟨hs ++ [_ % 1000], _, _, _, rfl, by rw [su_su, List.map_append]; rfl, Dig.snoc hh, by rw [List.length_append, List.length_singleton]; omega, fun y hy => hx y (List.mem_cons_of_mem _ hy)⟩⟩
      · exact fun _ _ _ _ => trivial
      · rintro δ S ⟨hs, k, z, t, rfl, rfl, hh, hl, _⟩
        exact hN _ _ ⟨hs, _, _, _, _, rfl, rfl, hh, by simp at hl; omega, hx'⟩
    walk_at "dl"
    refine ifb (fun _ => ?_) fun _ => ?_
    · exact ⟨.inl ⟨by decide, by decide⟩, ifb (fun _ => brk) fun _ => ⟨⟨by decide, by decide, by decide⟩, ifb (fun _ => ⟨by decide, by decide, long c t _⟩) fun _ => ⟨.inr ⟨by decide, by decide⟩, .inr ⟨by decide, by decide⟩, by decide, by decide, by decide, short _ t _⟩⟩⟩
    · exact ifb (fun _ => brk) fun _ => ⟨⟨by decide, by decide, by decide⟩, ifb (fun _ => ⟨by decide, by decide, long c t _⟩) fun _ => ⟨.inr ⟨by decide, by decide⟩, .inr ⟨by decide, by decide⟩, by decide, by decide, by decide, short _ t _⟩⟩
  · exact fun _ _ _ _ => trivial
  · rintro δ S ⟨gs, k, c, t, s, rfl, rfl, hg, hl, _⟩
    exact ⟨_, Sle.refl _, h gs p ⟨hg, by simpa using Nat.le_trans (Nat.le_add_right _ _) (Nat.le_trans hl (by decide))⟩ hp⟩
  · obtain ⟨i, _, rfl⟩ := rng_mem hx
    exact ⟨i, by simp⟩
/-! ### _law_same -/
theorem deqs_len : ∀ {a d : List D}, a.length ≠ d.length → deqs a d = false
  | [], [], h => absurd rfl h
  | [], _ :: _, _ => rfl
  | _ :: _, [], _ => rfl
  | x :: a, y :: d, h => by
    have : deqs a d = false := deqs_len (by intro e; exact h (by rw [List.length_cons, List.length_cons, e]))
    show (deq x y && deqs a d) = false
    rw [this, Bool.and_false]
theorem deqs_get : ∀ {a d : List D}, a.length = d.length → (deqs a d = true ↔ ∀ (i : Nat) x y, a[i]? = some x → d[i]? = some y → deq x y = true)
  | [], [], _ => ⟨fun _ i x y h => by simp at h, fun _ => rfl⟩
  | [], _ :: _, h => by simp at h
  | _ :: _, [], h => by simp at h
  | x :: a, y :: d, h => by
    have ih := deqs_get (a := a) (d := d) (by simpa using h)
    show (deq x y && deqs a d) = true ↔ _
    rw [Bool.and_eq_true, ih]
    constructor
    · rintro ⟨h1, h2⟩ i u v hu hv
      cases i with
      | zero => simp at hu hv; subst hu; subst hv; exact h1
      | succ i => exact h2 i u v (by simpa using hu) (by simpa using hv)
    · intro k
      exact ⟨k 0 x y rfl rfl, fun i u v hu hv => k (i + 1) u v (by simpa using hu) (by simpa using hv)⟩
theorem plns_get : ∀ {a : List D}, plns a = true → ∀ (i : Nat) x, a[i]? = some x → pln x = true
  | x :: a, h, i, u, hu => by
    have h' : (pln x && plns a) = true := h
    rw [Bool.and_eq_true] at h'
    cases i with
    | zero => simp at hu; subst hu; exact h'.1
    | succ i => exact plns_get h'.2 i u (by simpa using hu)
  | [], _, i, u, hu => by simp at hu
theorem szds_get : ∀ {a : List D}, szds a = true → ∀ (i : Nat) x, a[i]? = some x → szd x = true
  | x :: a, h, i, u, hu => by
    have h' : (szd x && szds a) = true := h
    rw [Bool.and_eq_true] at h'
    cases i with
    | zero => simp at hu; subst hu; exact h'.1
    | succ i => exact szds_get h'.2 i u (by simpa using hu)
  | [], _, i, u, hu => by simp at hu
theorem deps_get : ∀ {a : List D} (i : Nat) x, a[i]? = some x → dep x ≤ deps a
  | x :: a, i, u, hu => by
    show dep u ≤ max (dep x) (deps a)
    cases i with
    | zero => simp at hu; subst hu; exact Nat.le_max_left _ _
    | succ i => exact Nat.le_trans (deps_get i u (by simpa using hu)) (Nat.le_max_right _ _)
  | [], i, u, hu => by simp at hu
theorem deq_ii (a b : Int) : deq (.int a) (.int b) = decide (a = b) := by rw [deq, Bool.eq_iff_iff]; simp
theorem deq_ss (a b : List Nat) : deq (.str a) (.str b) = decide (a = b) := by rw [deq, Bool.eq_iff_iff]; simp
theorem deq_bb (a b : Bool) : deq (.bl a) (.bl b) = decide (a = b) := by cases a <;> cases b <;> decide
theorem eqv_nil (zs : List PyData) : PyData.eqv (.list zs) (.list []) = zs.isEmpty := by
  cases zs <;> rfl
theorem ones_pys : ∀ ys : List D, (∀ x ∈ ys, x = .int 1) → ∃ zs : List PyData, toPys ys = some zs ∧ zs.isEmpty = ys.isEmpty ∧ PyData.canLayAll0 zs = true ∧ PyData.depthAll zs = 0
  | [], _ => ⟨[], rfl, rfl, rfl, rfl⟩
  | y :: ys, h => by
    obtain ⟨zs, e1, _, e3, e4⟩ := ones_pys ys fun x hx => h x (List.mem_cons_of_mem _ hx)
    obtain rfl := h y (List.mem_cons_self ..)
    exact ⟨.int 1 :: zs, by show (match toPy (.int 1), toPys ys with | some a, some b => some (a :: b) | _, _ => none) = _; rw [e1]; rfl, rfl, by show (PyData.canLay0 (.int 1) && PyData.canLayAll0 zs) = true; rw [e3]; rfl, by show max (PyData.depth (.int 1)) (PyData.depthAll zs) = 0; rw [e4]; rfl⟩
theorem eqL_ones {neg : Bool} {ys : List D} {S : Sh} {Q : QD} (h : ∀ x ∈ ys, x = .int 1) (q : Q (.bl (if neg = true then !ys.isEmpty else ys.isEmpty)) S) : dEqP neg ((toPys ys).map .list) ((toPys []).map .list) S Q := by
  obtain ⟨zs, e1, e2, e3, e4⟩ := ones_pys ys h
  rw [e1]
  refine ⟨?_, rfl, ?_⟩
  · show (PyData.canLayAll0 zs && decide (PyData.depthAll zs + 1 ≤ 64)) = true
    rw [e3, e4]; rfl
  · rw [eqv_nil, e2]
    exact q
theorem ok_like (n : Nat) : ∀ ds S Q, ds.length = 2 → sp_like (n + 1) ds S Q → rd_llaw_like n (endsD Q) (startD N_llaw_like ds) S := by
  rintro ds S Q - ⟨a, d, rfl, pa, pd, za, zd, hd, h⟩
  have fin : ∀ b, deq a d = b → ∃ S', Sle S' S ∧ Q (.bl b) S' := fun b e => ⟨S, Sle.refl S, by rw [← e]; exact h⟩
  cases d with
  | tup xs =>
    have sz := sz6
    have zd' : (decide (xs.length ≤ 100000) && szds xs) = true := zd
    rw [Bool.and_eq_true, decide_eq_true_eq] at zd'
    cases a with
    | tup ys =>
      walk_at "dl"
      by_cases hl : ys.length = xs.length
      · rw [decide_eq_true (show (ys.length : Int) = xs.length by rw [hl]), if_neg (by decide)]
        have fin' := Hd.mk fin
        clear h fin
        have pa' : plns ys = true := pa
        have za' : (decide (ys.length ≤ 100000) && szds ys) = true := za
        rw [Bool.and_eq_true, decide_eq_true_eq] at za'
        have pd' : plns xs = true := pd
        have hd' : deps xs + 1 < n + 1 := hd
        refine ⟨by omega, by omega, ?_⟩
        refine comp_filter (fun x => match x with | .int i => !(deq (ys.getD i.toNat .non) (xs.getD i.toNat .non)) | _ => false) (fun _ => .int 1) (S := S) trivial _ [] (fun x hx Y Z hY hZ => ?_) (by rw [rng_len, List.length_nil]; omega) ?_
        · obtain ⟨i, hi, rfl⟩ := rng_mem hx
          rw [Int.toNat_natCast] at hi
          have ex : xs[i]? = some xs[i] := List.getElem?_eq_getElem hi
          have ey : ys[i]? = some (ys[i]'(by omega)) := List.getElem?_eq_getElem (by omega)
          have ax : atI xs ((0 : Int) + (i : Nat)) = some xs[i] := by rw [Int.zero_add]; exact atI_nat ex
          have ay : atI ys ((0 : Int) + (i : Nat)) = some (ys[i]'(by omega)) := by rw [Int.zero_add]; exact atI_nat ey
          have gx : xs.getD ((0 : Int) + (i : Nat)).toNat .non = xs[i] := by rw [Int.zero_add, Int.toNat_natCast, List.getD_eq_getElem?_getD, ex]; rfl
          have gy : ys.getD ((0 : Int) + (i : Nat)).toNat .non = ys[i]'(by omega) := by rw [Int.zero_add, Int.toNat_natCast, List.getD_eq_getElem?_getD, ey]; rfl
          dsimp only at hY hZ
          rw [gx, gy] at hY hZ
          show (match atI ys ((0 : Int) + (i : Nat)) with | some y => (match atI xs ((0 : Int) + (i : Nat)) with | some x => 2 = 2 ∧ sp_like n [y, x] S (fun d S1 => match dTruS S1 d with | some b => (if (!b) = true then Y (.int 1) S1 else Z S1) | none => False) | none => False) | none => False)
          rw [ay, ax]
          refine ⟨rfl, _, _, rfl, plns_get pa' _ _ ey, plns_get pd' _ _ ex, szds_get za'.2 _ _ ey, szds_get zd'.2 _ _ ex, ?_, ?_⟩
          · have := deps_get _ _ ex
            omega
          · show if (!(deq (ys[i]'(by omega)) xs[i])) = true then Y (.int 1) S else Z S
            split
            · exact hY ‹_›
            · rename_i z; exact hZ (by simpa using z)
        · rw [List.nil_append]
          refine ⟨by show 0 ≤ _; omega, eqL_ones (fun x hx => ?_) ?_⟩
          · obtain ⟨y, _, rfl⟩ := List.mem_map.mp hx
            rfl
          · rw [if_neg Bool.false_ne_true, List.isEmpty_map]
            refine fin'.a _ ?_
            show deqs ys xs = _
            rw [Bool.eq_iff_iff, deqs_get hl, List.isEmpty_iff, List.filter_eq_nil_iff]
            constructor
            · intro k x hx
              obtain ⟨i, hi, rfl⟩ := rng_mem hx
              rw [Int.toNat_natCast] at hi
              have ex : xs[i]? = some xs[i] := List.getElem?_eq_getElem hi
              have ey : ys[i]? = some (ys[i]'(by omega)) := List.getElem?_eq_getElem (by omega)
              have gx : xs.getD ((0 : Int) + (i : Nat)).toNat .non = xs[i] := by rw [Int.zero_add, Int.toNat_natCast, List.getD_eq_getElem?_getD, ex]; rfl
              have gy : ys.getD ((0 : Int) + (i : Nat)).toNat .non = ys[i]'(by omega) := by rw [Int.zero_add, Int.toNat_natCast, List.getD_eq_getElem?_getD, ey]; rfl
              dsimp only
              rw [gx, gy, k i _ _ ey ex]
              decide
            · intro k i x y hx hy
              have hi := (List.getElem?_eq_some_iff.mp hy).1
              have := k (.int ((0 : Int) + (i : Nat))) (List.mem_map.mpr ⟨i, by rw [List.mem_range, Int.toNat_natCast]; exact hi, rfl⟩)
              have gx : xs.getD ((0 : Int) + (i : Nat)).toNat .non = y := by rw [Int.zero_add, Int.toNat_natCast, List.getD_eq_getElem?_getD, hy]; rfl
              have gy : ys.getD ((0 : Int) + (i : Nat)).toNat .non = x := by rw [Int.zero_add, Int.toNat_natCast, List.getD_eq_getElem?_getD, hx]; rfl
              dsimp only at this
              rw [gx, gy] at this
              simpa using this
      · rw [decide_eq_false (by omega)]
        exact fin false (deqs_len hl)
    | rf p => cases pa
    | frz p => cases pa
    | ty p => cases pa
    | kst w p => cases pa
    | _ => walk_at "dl"; exact fin false rfl
  | non => cases a <;> first | (cases pa; done) | (walk_at "dl"; first | exact fin false (by simp only [deq]) | exact fin true (by simp only [deq]))
  | bl c => cases c <;> cases a <;> first | (cases pa; done) | (walk_at "dl"; first | exact fin _ (deq_bb _ _) | exact fin false (by simp only [deq]) | exact fin true (by simp only [deq]))
  | int i => cases a <;> first | (cases pa; done) | (walk_at "dl"; first | exact fin _ (deq_ii _ _) | exact fin false (by simp only [deq]) | exact fin true (by simp only [deq]))
  | str s =>
    cases a <;> first | (cases pa; done) | skip
    · walk_at "dl"; exact fin false rfl
    · walk_at "dl"; exact fin false rfl
    · walk_at "dl"; exact fin false rfl
    · rename_i s'
      have sz := sz6
      walk_at "dl"
      refine ⟨by omega, ?_⟩
      show joinOk [] [s'] ∧ ∃ S', Sle S' S ∧ Q (.bl (decide (TL.joinL [] [s'] = s))) S'
      refine ⟨?_, fin _ (deq_ss s' s)⟩
      have za' : decide (s'.length ≤ 1000000) = true := za
      have := of_decide_eq_true za'
      show s'.length + 0 + 1 * 0 ≤ 16777216
      omega
    · walk_at "dl"; exact fin false rfl
  | rf p => cases pd
  | frz p => cases pd
  | ty p => cases pd
  | kst w p => cases pd
end LW

set_option Elab.async false
set_option linter.all false
set_option maxRecDepth 100000
set_option maxHeartbeats 4000000
set_option exponentiation.threshold 100
namespace LW
open PySem PySem.Spec L2 DL
local macro_rules | `(tactic| walk_at "dl") => `(tactic| simp -implicitDefEqProofs only [↓dRepl, ↓dLstripC, ↓dRstripC, ↓dFind3, ↓dTabVIn, ↓dTabVIx, ↓dIntB, ↓dStrB, ↓dDisp, ↓dPairs, ↓dDNew, ↓dDGet, ↓dDIn, ↓dDPut, ↓dDGet1, ↓dDGet2, ↓dRepl0, ↓dFalls, ↓toKy, ↓kvsOf, ↓dFmt, ↓dJsE, ↓dJs, ↓dSumL, ↓dAllL, ↓dAnyL, ↓dPartn, ↓dStrip, ↓dStripC, ↓dLower, ↓dUpper, ↓dRfind, ↓dCount, ↓okL, ↓dGunl, ↓dLc2_k, ↓dStarL, ↓dListT, ↓dTupT, ↓dSetK, ↓dSortS, ↓dEqL, ↓dOnL, ↓dStrA, ↓dTabGet, ↓dTabIx, ↓dZipM, ↓dInD, ↓dTupRg, ↓dLstRg, ↓dInT, ↓dSetT, ↓dZipT, ↓dSetAll, ↓dEqO, ↓dMulT, ↓dSeq, ↓dIfS, ↓dTB, ↓dOp, ↓dVar, ↓dC, ↓dLt, ↓dLe, ↓dGt, ↓dGe, ↓rII, ↓rIIc, ↓dCB, ↓dCons, ↓dNil, ↓dLen, ↓dInt, ↓dRet, ↓dRetN, ↓dNext, ↓dIx, ↓dAt, ↓startD, List.map_cons, List.map_nil, List.cons_append, List.nil_append, List.append_nil, List.length_cons, List.length_nil, List.getElem?_cons_zero, List.getElem?_cons_succ, List.length_map, ↓dAsg, ↓dName, ↓dNew_k, ↓dLst, ↓dFor_k, ↓dRng1, ↓dRng2, ↓dCall_k, ↓dAdd, ↓dSub, ↓dMul, ↓dMod, ↓dFdiv, ↓dPow, ↓dEq, ↓dNe, ↓scd, ↓dIsN, ↓dNotN, ↓dIsB, ↓dNotB, ↓dUn, ↓dNeg, ↓dTru, ↓dTruS, ↓dAnd, ↓dOr, ↓dNot, ↓dNotV, ↓dAndV, ↓dOrV, ↓dIfE, ↓dTup, ↓dDrop, ↓dBM, ↓dBM0, ↓tyD, ↓dApp, ↓dSetL, ↓dAsL, ↓dOnL, ↓dOnN_k, ↓dIsi, ↓tyName, isT, ↓dBreak, ↓dCont, ↓dPar, ↓endsD, List.set_cons_zero, List.set_cons_succ, List.replicate_succ, List.replicate_zero, su_same, ↓dLc_k, ↓dWhile_k, ↓dWipe, ↓dYes, ↓dIt, ↓dItN, ↓dSlice, ↓dPart, ↓dNoP, ↓dCut, ↓dSliceE, ↓dIxL, ↓dChain, ↓dIn, ↓dNotIn, ↓dInS, ↓mS0, ↓mS1, ↓dSta, ↓dEnd, ↓dFind, ↓dIsasc, ↓dIsdig, ↓dIsalp, ↓dIsaln, ↓dIslow, ↓dIspri, ↓okT, ↓okU, ↓ok2, ↓dFind4, ↓dSplit, ↓dJoin, ↓dJoinT, ↓dMulS, ↓dCatL, ↓dCatE, ↓dCatR, ↓dCatEE, ↓dStar, ↓dIntS, ↓dStr, ↓dMax, ↓dMin, ↓dII, ↓dFld_m, ↓dSetF_m, ↓dMeth_m, ↓dMake_k, ↓dGtup, ↓dGcons, ↓dGnil, true_and, and_true, Nat.add_zero, reduceCtorEq, ↓reduceIte, Bool.not_true, Bool.not_false, Bool.false_eq_true, if_true, if_false])
local macro_rules | `(tactic| walk_at "dl*") => `(tactic| simp -implicitDefEqProofs only [*, ↓dRepl, ↓dLstripC, ↓dRstripC, ↓dFind3, ↓dTabVIn, ↓dTabVIx, ↓dIntB, ↓dStrB, ↓dDisp, ↓dPairs, ↓dDNew, ↓dDGet, ↓dDIn, ↓dDPut, ↓dDGet1, ↓dDGet2, ↓dRepl0, ↓dFalls, ↓toKy, ↓kvsOf, ↓dFmt, ↓dJsE, ↓dJs, ↓dSumL, ↓dAllL, ↓dAnyL, ↓dPartn, ↓dStrip, ↓dStripC, ↓dLower, ↓dUpper, ↓dRfind, ↓dCount, ↓okL, ↓dGunl, ↓dLc2_k, ↓dStarL, ↓dListT, ↓dTupT, ↓dSetK, ↓dSortS, ↓dEqL, ↓dOnL, ↓dStrA, ↓dTabGet, ↓dTabIx, ↓dZipM, ↓dInD, ↓dTupRg, ↓dLstRg, ↓dInT, ↓dSetT, ↓dZipT, ↓dSetAll, ↓dEqO, ↓dMulT, ↓dSeq, ↓dIfS, ↓dTB, ↓dOp, ↓dVar, ↓dC, ↓dLt, ↓dLe, ↓dGt, ↓dGe, ↓rII, ↓rIIc, ↓dCB, ↓dCons, ↓dNil, ↓dLen, ↓dInt, ↓dRet, ↓dRetN, ↓dNext, ↓dIx, ↓dAt, ↓startD, List.map_cons, List.map_nil, List.cons_append, List.nil_append, List.append_nil, List.length_cons, List.length_nil, List.getElem?_cons_zero, List.getElem?_cons_succ, List.length_map, ↓dAsg, ↓dName, ↓dNew_k, ↓dLst, ↓dFor_k, ↓dRng1, ↓dRng2, ↓dCall_k, ↓dAdd, ↓dSub, ↓dMul, ↓dMod, ↓dFdiv, ↓dPow, ↓dEq, ↓dNe, ↓scd, ↓dIsN, ↓dNotN, ↓dIsB, ↓dNotB, ↓dUn, ↓dNeg, ↓dTru, ↓dTruS, ↓dAnd, ↓dOr, ↓dNot, ↓dNotV, ↓dAndV, ↓dOrV, ↓dIfE, ↓dTup, ↓dDrop, ↓dBM, ↓dBM0, ↓tyD, ↓dApp, ↓dSetL, ↓dAsL, ↓dOnL, ↓dOnN_k, ↓dIsi, ↓tyName, isT, ↓dBreak, ↓dCont, ↓dPar, ↓endsD, List.set_cons_zero, List.set_cons_succ, List.replicate_succ, List.replicate_zero, su_same, ↓dLc_k, ↓dWhile_k, ↓dWipe, ↓dYes, ↓dIt, ↓dItN, ↓dSlice, ↓dPart, ↓dNoP, ↓dCut, ↓dSliceE, ↓dIxL, ↓dChain, ↓dIn, ↓dNotIn, ↓dInS, ↓mS0, ↓mS1, ↓dSta, ↓dEnd, ↓dFind, ↓dIsasc, ↓dIsdig, ↓dIsalp, ↓dIsaln, ↓dIslow, ↓dIspri, ↓okT, ↓okU, ↓ok2, ↓dFind4, ↓dSplit, ↓dJoin, ↓dJoinT, ↓dMulS, ↓dCatL, ↓dCatE, ↓dCatR, ↓dCatEE, ↓dStar, ↓dIntS, ↓dStr, ↓dMax, ↓dMin, ↓dII, ↓dFld_m, ↓dSetF_m, ↓dMeth_m, ↓dMake_k, ↓dGtup, ↓dGcons, ↓dGnil, true_and, and_true, Nat.add_zero, reduceCtorEq, ↓reduceIte, Bool.not_true, Bool.not_false, Bool.false_eq_true, if_true, if_false])
def group_digits_b3_1 : SD := (dAsg (dOp dAdd (dOp dIx (dC (.str [48, 49, 50, 51, 52, 53, 54, 55, 56, 57, 97, 98, 99, 100, 101, 102, 103, 104, 105, 106, 107, 108, 109, 110, 111, 112, 113, 114, 115, 116, 117, 118, 119, 120, 121, 122, 65, 66, 67, 68, 69, 70, 71, 72, 73, 74, 75, 76, 77, 78, 79, 80, 81, 82, 83, 84, 85, 86, 87, 88, 89, 90, 43, 45])) (dVar 5)) (dVar 3)) (dName 3))
def group_digits_k4 : SD := (dRet (dVar 3))
def group_digits_k3 : SD := dSeq (dFor (dRng1 (dCons (dOp dAdd (dCB dLen (dCons (dVar 0) dNil)) (dC (.int 1))) dNil)) (dName 4) (dSeq (dAsg (dCB dDivmod (dCons (dVar 1) (dCons (dC (.int 64)) dNil))) (dGtup (dGcons (dName 1) (dGcons (dName 5) dGnil)) 2)) (group_digits_b3_1))) (group_digits_k4)
def group_digits_k2 : SD := dSeq (dAsg (dC (.str [])) (dName 3)) (group_digits_k3)
def group_digits_k1 : SD := dSeq (dFor (dIt (dVar 0)) (dName 2) (dAsg (dOp dAdd (dOp dMul (dC (.int 95)) (dVar 1)) (dBM "str" dIndex (dC (.str [10, 32, 33, 34, 35, 36, 38, 39, 40, 41, 42, 43, 44, 45, 46, 47, 48, 49, 50, 51, 52, 53, 54, 55, 56, 57, 58, 59, 60, 61, 62, 63, 64, 65, 66, 67, 68, 69, 70, 71, 72, 73, 74, 75, 76, 77, 78, 79, 80, 81, 82, 83, 84, 85, 86, 87, 88, 89, 90, 91, 92, 93, 94, 95, 96, 97, 98, 99, 100, 101, 102, 103, 104, 105, 106, 107, 108, 109, 110, 111, 112, 113, 114, 115, 116, 117, 118, 119, 120, 121, 122, 123, 124, 125, 126])) (dCons (dVar 2) dNil))) (dName 1))) (group_digits_k2)
theorem cut_group_digits : rd_group_digits = dSeq (dAsg (dC (.int 0)) (dName 1)) (group_digits_k1) := rfl
def group_signs_b4_1 : SD := (dAsg (dOp dAdd (dOp dIx (dC (.str [10, 32, 33, 34, 35, 36, 38, 39, 40, 41, 42, 43, 44, 45, 46, 47, 48, 49, 50, 51, 52, 53, 54, 55, 56, 57, 58, 59, 60, 61, 62, 63, 64, 65, 66, 67, 68, 69, 70, 71, 72, 73, 74, 75, 76, 77, 78, 79, 80, 81, 82, 83, 84, 85, 86, 87, 88, 89, 90, 91, 92, 93, 94, 95, 96, 97, 98, 99, 100, 101, 102, 103, 104, 105, 106, 107, 108, 109, 110, 111, 112, 113, 114, 115, 116, 117, 118, 119, 120, 121, 122, 123, 124, 125, 126])) (dVar 5)) (dVar 3)) (dName 3))
def group_signs_k5 : SD := (dRet (dVar 3))
def group_signs_k4 : SD := dSeq (dFor (dRng1 (dCons (dOp dSub (dCB dLen (dCons (dVar 0) dNil)) (dC (.int 1))) dNil)) (dName 4) (dSeq (dAsg (dCB dDivmod (dCons (dVar 1) (dCons (dC (.int 95)) dNil))) (dGtup (dGcons (dName 1) (dGcons (dName 5) dGnil)) 2)) (group_signs_b4_1))) (group_signs_k5)
def group_signs_k3 : SD := dSeq (dAsg (dC (.str [])) (dName 3)) (group_signs_k4)
def group_signs_k2 : SD := dSeq (dIfS (dTB (dOp dGe (dVar 1) (dOp dIx (dC (.tup (([0, 0, 95, 9025, 857375] : List Int).map DL.D.int))) (dCB dLen (dCons (dVar 0) dNil))))) (dRet (dC .non)) dNext) (group_signs_k3)
def group_signs_k1 : SD := dSeq (dFor (dIt (dVar 0)) (dName 2) (dAsg (dOp dAdd (dOp dMul (dC (.int 64)) (dVar 1)) (dBM "str" dIndex (dC (.str [48, 49, 50, 51, 52, 53, 54, 55, 56, 57, 97, 98, 99, 100, 101, 102, 103, 104, 105, 106, 107, 108, 109, 110, 111, 112, 113, 114, 115, 116, 117, 118, 119, 120, 121, 122, 65, 66, 67, 68, 69, 70, 71, 72, 73, 74, 75, 76, 77, 78, 79, 80, 81, 82, 83, 84, 85, 86, 87, 88, 89, 90, 43, 45])) (dCons (dVar 2) dNil))) (dName 1))) (group_signs_k2)
theorem cut_group_signs : rd_group_signs = dSeq (dAsg (dC (.int 0)) (dName 1)) (group_signs_k1) := rfl

theorem at_tbl {tbl : List Nat} {i : Nat} (h : i < tbl.length) : atI tbl ((i : Nat) : Int) = some (tbl.getD i 0) := atI_nat (by rw [List.getD_eq_getElem?_getD, List.getElem?_eq_getElem h]; rfl)
theorem ok_group_digits : ∀ ds S Q, ds.length = 1 → sp_group_digits ds S Q → rd_group_digits (endsD Q) (startD N_group_digits ds) S := by
  rintro ds S Q - ⟨g, rfl, hg, hl, h⟩
  have sz := sz6
  rw [cut_group_digits]
  unfold group_digits_k1
  walk_at "dl"
  refine loop_inv (fun rest δ S' => ∃ (l r : List Nat) (x2 : Option D), g = l ++ r ∧ rest = r.map (fun c => D.str [c]) ∧ S' = S ∧ δ = [some (.str g), some (.int ((val 95 SG l : Nat) : Int)), x2, none, none, none]) ?_ (fun _ _ _ _ => trivial) ?_ _ _ _ ⟨[], g, none, rfl, rfl, rfl, rfl⟩
  · rintro x xs δ S' N ⟨l, r, x2, e, er, rfl, rfl⟩ hN
    cases r with
    | nil => cases er
    | cons c r =>
      rw [List.map_cons] at er
      obtain ⟨rfl, rfl⟩ := List.cons.inj er
      have hc : c ∈ SG := hg c (by rw [e]; simp)
      refine ⟨.inl ⟨by decide, by decide⟩, rfl, ix SG c, sg_index c hc, ?_⟩
      show N [some (.str g), some (.int (95 * ((val 95 SG l : Nat) : Int) + ((ix SG c : Nat) : Int))), some (.str [c]), none, none, none] S'
      refine hN _ _ ⟨l ++ [c], r, some (.str [c]), by rw [e]; simp, rfl, rfl, ?_⟩
      rw [val_snoc, show ((95 * val 95 SG l + ix SG c : Nat) : Int) = 95 * ((val 95 SG l : Nat) : Int) + ((ix SG c : Nat) : Int) by omega]
  · rintro δ S' ⟨l, r, x2, e, er, rfl, rfl⟩
    have r0 : r = [] := by cases r with | nil => rfl | cons c r => cases er
    subst r0
    rw [List.append_nil] at e
    subst e
    show group_digits_k2 (endsD Q) [some (.str g), some (.int ((val 95 SG g : Nat) : Int)), x2, none, none, none] S'
    unfold group_digits_k2 group_digits_k3
    walk_at "dl"
    refine ⟨by omega, by omega, by omega, ?_⟩
    refine loop_inv (fun rest δ S2 => ∃ (k w : Nat) (acc : List Nat) (x4 x5 : Option D), rest.length = k ∧ k + acc.length ≤ 4 ∧ pd 64 DGS k w acc = gD g ∧ S2 = S' ∧ δ = [some (.str g), some (.int ((w : Nat) : Int)), x2, some (.str acc), x4, x5]) ?_ (fun _ _ _ _ => trivial) ?_ _ _ _ ⟨g.length + 1, val 95 SG g, [], none, none, by rw [rng_len]; omega, by rw [List.length_nil]; omega, rfl, rfl, rfl⟩
    · rintro x xs δ S2 N ⟨k, w, acc, x4, x5, ek, el, ep, rfl, rfl⟩ hN
      rw [List.length_cons] at ek
      subst ek
      unfold pd at ep
      have hw : w % 64 < 64 := Nat.mod_lt _ (by decide)
      have hat := at_tbl (tbl := DGS) (i := w % 64) hw
      refine ⟨⟨by decide, by decide⟩, rfl, ?_⟩
      rw [show ((w : Nat) : Int) / 64 = ((w / 64 : Nat) : Int) by omega, show ((w : Nat) : Int) % 64 = ((w % 64 : Nat) : Int) by omega]
      show group_digits_b3_1 _ [some (.str g), some (.int ((w / 64 : Nat) : Int)), x2, some (.str acc), some x, some (.int ((w % 64 : Nat) : Int))] S2
      unfold group_digits_b3_1
      show 64 ≤ sizeLine ∧ (match atI DGS ((w % 64 : Nat) : Int) with | some c => 1 + acc.length ≤ sizeLine ∧ N [some (.str g), some (.int ((w / 64 : Nat) : Int)), x2, some (.str ([c] ++ acc)), some x, some (.int ((w % 64 : Nat) : Int))] S2 | none => False)
      rw [hat]
      exact ⟨by omega, by omega, hN _ _ ⟨xs.length, w / 64, DGS.getD (w % 64) 0 :: acc, some x, some (.int ((w % 64 : Nat) : Int)), rfl, by rw [List.length_cons]; omega, ep, rfl, rfl⟩⟩
    · rintro δ S2 ⟨k, w, acc, x4, x5, ek, el, ep, rfl, rfl⟩
      have k0 : k = 0 := by rw [← ek]; rfl
      subst k0
      have ep : acc = gD g := ep
      unfold group_digits_k4
      exact ⟨S2, Sle.refl S2, by rw [ep]; exact h⟩
theorem ok_group_signs : ∀ ds S Q, ds.length = 1 → sp_group_signs ds S Q → rd_group_signs (endsD Q) (startD N_group_signs ds) S := by
  rintro ds S Q - ⟨g, rfl, hg, h1, hl, h⟩
  have sz := sz6
  rw [cut_group_signs]
  unfold group_signs_k1
  walk_at "dl"
  refine loop_inv (fun rest δ S' => ∃ (l r : List Nat) (x2 : Option D), g = l ++ r ∧ rest = r.map (fun c => D.str [c]) ∧ S' = S ∧ δ = [some (.str g), some (.int ((val 64 DGS l : Nat) : Int)), x2, none, none, none]) ?_ (fun _ _ _ _ => trivial) ?_ _ _ _ ⟨[], g, none, rfl, rfl, rfl, rfl⟩
  · rintro x xs δ S' N ⟨l, r, x2, e, er, rfl, rfl⟩ hN
    cases r with
    | nil => cases er
    | cons c r =>
      rw [List.map_cons] at er
      obtain ⟨rfl, rfl⟩ := List.cons.inj er
      have hc : c ∈ DGS := hg c (by rw [e]; simp)
      refine ⟨.inl ⟨by decide, by decide⟩, rfl, ix DGS c, dg_index c hc, ?_⟩
      show N [some (.str g), some (.int (64 * ((val 64 DGS l : Nat) : Int) + ((ix DGS c : Nat) : Int))), some (.str [c]), none, none, none] S'
      refine hN _ _ ⟨l ++ [c], r, some (.str [c]), by rw [e]; simp, rfl, rfl, ?_⟩
      rw [val_snoc, show ((64 * val 64 DGS l + ix DGS c : Nat) : Int) = 64 * ((val 64 DGS l : Nat) : Int) + ((ix DGS c : Nat) : Int) by omega]
  · rintro δ S' ⟨l, r, x2, e, er, rfl, rfl⟩
    have r0 : r = [] := by cases r with | nil => rfl | cons c r => cases er
    subst r0
    rw [List.append_nil] at e
    subst e
    show group_signs_k2 (endsD Q) [some (.str g), some (.int ((val 64 DGS g : Nat) : Int)), x2, none, none, none] S'
    have hb : atI (([0, 0, 95, 9025, 857375] : List Int).map D.int) ((g.length : Nat) : Int) = some (.int ((BND.getD g.length 0 : Nat) : Int)) := by
      have : g.length = 1 ∨ g.length = 2 ∨ g.length = 3 ∨ g.length = 4 := by omega
      rcases this with e | e | e | e <;> rw [e] <;> rfl
    unfold group_signs_k2
    unfold gS at h
    refine if_b (b := decide (((BND.getD g.length 0 : Nat) : Int) ≤ ((val 64 DGS g : Nat) : Int))) (fun R hR => ?_) (fun z => ?_) fun z => ?_
    · show g.length ≤ sizeLine ∧ (match atI (([0, 0, 95, 9025, 857375] : List Int).map D.int) ((g.length : Nat) : Int) with | some d => (match D.int ((val 64 DGS g : Nat) : Int), d with | .int i, .int j => R (decide (j ≤ i)) S' | _, _ => False) | none => False)
      rw [hb]
      exact ⟨by omega, hR⟩
    · have z := of_decide_eq_true z
      rw [if_pos (by omega)] at h
      exact ⟨S', Sle.refl S', h⟩
    have z := of_decide_eq_false z
    rw [if_neg (by omega)] at h
    delta dNext
    dsimp only
    unfold group_signs_k3 group_signs_k4
    walk_at "dl"
    refine ⟨by omega, by omega, by omega, ?_⟩
    refine loop_inv (fun rest δ S2 => ∃ (k w : Nat) (acc : List Nat) (x4 x5 : Option D), rest.length = k ∧ k + acc.length ≤ 4 ∧ pd 95 SG k w acc = pd 95 SG (g.length - 1) (val 64 DGS g) [] ∧ S2 = S' ∧ δ = [some (.str g), some (.int ((w : Nat) : Int)), x2, some (.str acc), x4, x5]) ?_ (fun _ _ _ _ => trivial) ?_ _ _ _ ⟨g.length - 1, val 64 DGS g, [], none, none, by rw [rng_len]; omega, by rw [List.length_nil]; omega, rfl, rfl, rfl⟩
    · rintro x xs δ S2 N ⟨k, w, acc, x4, x5, ek, el, ep, rfl, rfl⟩ hN
      rw [List.length_cons] at ek
      subst ek
      have ep : pd 95 SG xs.length (w / 95) (SG.getD (w % 95) 0 :: acc) = pd 95 SG (g.length - 1) (val 64 DGS g) [] := ep
      have hw : w % 95 < 95 := Nat.mod_lt _ (by decide)
      have hat := at_tbl (tbl := SG) (i := w % 95) hw
      refine ⟨⟨by decide, by decide⟩, rfl, ?_⟩
      rw [show ((w : Nat) : Int) / 95 = ((w / 95 : Nat) : Int) by omega, show ((w : Nat) : Int) % 95 = ((w % 95 : Nat) : Int) by omega]
      show group_signs_b4_1 _ [some (.str g), some (.int ((w / 95 : Nat) : Int)), x2, some (.str acc), some x, some (.int ((w % 95 : Nat) : Int))] S2
      unfold group_signs_b4_1
      show 95 ≤ sizeLine ∧ (match atI SG ((w % 95 : Nat) : Int) with | some c => 1 + acc.length ≤ sizeLine ∧ N [some (.str g), some (.int ((w / 95 : Nat) : Int)), x2, some (.str ([c] ++ acc)), some x, some (.int ((w % 95 : Nat) : Int))] S2 | none => False)
      rw [hat]
      exact ⟨by omega, by omega, hN _ _ ⟨xs.length, w / 95, SG.getD (w % 95) 0 :: acc, some x, some (.int ((w % 95 : Nat) : Int)), rfl, by rw [List.length_cons]; omega, ep, rfl, rfl⟩⟩
    · rintro δ S2 ⟨k, w, acc, x4, x5, ek, el, ep, rfl, rfl⟩
      have k0 : k = 0 := by rw [← ek]; rfl
      subst k0
      have ep : acc = pd 95 SG (g.length - 1) (val 64 DGS g) [] := ep
      unfold group_signs_k5
      exact ⟨S2, Sle.refl S2, by rw [ep]; exact h⟩
/-! ### small defs of the law -/
theorem ok_llaw_small : ∀ ds S Q, ds.length = 0 → sp_llaw_small ds S Q → rd_llaw_small (endsD Q) (startD N_llaw_small ds) S := by
  rintro ds S Q - ⟨rfl, h⟩
  exact ⟨S, Sle.refl S, h⟩
theorem ok_llaw_number : ∀ ds S Q, ds.length = 3 → sp_llaw_number ds S Q → rd_llaw_number (endsD Q) (startD N_llaw_number ds) S := by
  rintro ds S Q - ⟨x, rfl, h0, h1, h⟩
  walk_at "dl"
  rw [decide_eq_true h0, if_pos rfl, decide_eq_true h1]
  exact ⟨S, Sle.refl S, h⟩
theorem ok_llaw_refusal : ∀ ds S Q, ds.length = 2 → sp_llaw_refusal ds S Q → rd_llaw_refusal (endsD Q) (startD N_llaw_refusal ds) S := by
  rintro ds S Q - ⟨x, s, rfl, h0, h1, hl, h⟩
  have sz := sz6
  walk_at "dl"
  refine ⟨x, rfl, h0, h1, ?_⟩
  show "str" = "str" ∧ 0 + 1 ≤ sizeLine ∧ joinOk [] [s] ∧ 0 + 1 + 1 ≤ sizeLine ∧ ∀ q, S q = none → (endsD Q).rt (.rf q) (su S q (.lst [.int x, .str s]))
  exact ⟨rfl, by omega, by show s.length + 0 + 1 * 0 ≤ 16777216; omega, by omega, fun q hq => sle_new (Sle.refl S) hq h⟩
theorem ok_llaw_named : ∀ ds S Q, ds.length = 2 → sp_llaw_named ds S Q → rd_llaw_named (endsD Q) (startD N_llaw_named ds) S := by
  rintro ds S Q - ⟨a, xs, rfl, pa, px, za, zx, hd, h⟩
  exact ⟨rfl, a, .tup xs, rfl, pa, px, za, zx, by omega, S, Sle.refl S, h⟩
def line_at_b1_2 : SD := (dAugI (fun i j => i + j) 2 (dC (.int 1)))
def line_at_b1_1 : SD := dSeq (dAugI (fun i j => i - j) 1 (dCB dLen (dCons (dVar 3) dNil))) (line_at_b1_2)
def line_at_k2 : SD := (dRet (dVar 2))
def line_at_k1 : SD := dSeq (dFor (dIt (dVar 0)) (dName 3) (dSeq (dIfS (dTB (dOp dLt (dVar 1) (dCB dLen (dCons (dVar 3) dNil)))) dBreak dNext) (line_at_b1_1))) (line_at_k2)
theorem cut_line_at : rd_line_at = dSeq (dAsg (dC (.int 1)) (dName 2)) (line_at_k1) := rfl

theorem tls_len (ls : List (List Nat)) : (tls ls).length = ls.length := List.length_map _
theorem len_flat : ∀ {ls : List (List Nat)} {l : List Nat}, l ∈ ls → l.length ≤ ls.flatten.length
  | a :: ls, l, h => by
    rw [List.flatten_cons, List.length_append]
    rcases List.mem_cons.mp h with z | z
    · rw [z]; omega
    · have := len_flat (ls := ls) z; omega
  | [], l, h => by cases h
theorem ok_line_at : ∀ ds S Q, ds.length = 2 → sp_line_at ds S Q → rd_line_at (endsD Q) (startD N_line_at ds) S := by
  rintro ds S Q - ⟨ls, p, rfl, hz, h⟩
  have sz := sz6
  rw [cut_line_at]
  unfold line_at_k1
  walk_at "dl"
  refine loop_inv (fun rest δ S' => ∃ (r : List (List Nat)) (p' n : Nat) (x3 : Option D), rest = tls r ∧ (∀ l ∈ r, l ∈ ls) ∧ lineAt r p' n = lineAt ls p 1 ∧ S' = S ∧ δ = [some (.tup (tls ls)), some (.int ((p' : Nat) : Int)), some (.int ((n : Nat) : Int)), x3]) ?_ (fun _ _ _ _ => trivial) ?_ _ _ _ ⟨ls, p, 1, none, rfl, fun _ h => h, rfl, rfl, rfl⟩
  · rintro x xs δ S' N ⟨r, p', n, x3, er, hr, e, rfl, rfl⟩ hN
    cases r with
    | nil => cases er
    | cons l r =>
      obtain ⟨rfl, rfl⟩ := List.cons.inj er
      have hl := len_flat (hr l List.mem_cons_self)
      have := hz.2
      have e : (if p' < l.length then n else lineAt r (p' - l.length) (n + 1)) = lineAt ls p 1 := e
      show dSeq (dIfS _ _ _) _ _ [some (.tup (tls ls)), some (.int ((p' : Nat) : Int)), some (.int ((n : Nat) : Int)), some (.str l)] S'
      refine if_b (b := decide (((p' : Nat) : Int) < ((l.length : Nat) : Int))) (fun R hR => ⟨by omega, hR⟩) (fun z => ?_) fun z => ?_
      · have z := of_decide_eq_true z
        rw [if_pos (by omega)] at e
        exact ⟨S', Sle.refl S', by rw [e]; exact h⟩
      · have z := of_decide_eq_false z
        rw [if_neg (by omega)] at e
        refine ⟨by omega, ?_⟩
        show N [some (.tup (tls ls)), some (.int (((p' : Nat) : Int) - ((l.length : Nat) : Int))), some (.int (((n : Nat) : Int) + 1)), some (.str l)] S'
        refine hN _ _ ⟨r, p' - l.length, n + 1, some (.str l), rfl, fun y hy => hr y (List.mem_cons_of_mem _ hy), e, rfl, ?_⟩
        rw [show (((p' - l.length : Nat)) : Int) = ((p' : Nat) : Int) - ((l.length : Nat) : Int) by omega]
        rfl
  · rintro δ S' ⟨r, p', n, x3, er, hr, e, rfl, rfl⟩
    have r0 : r = [] := by cases r with | nil => rfl | cons c r => cases er
    subst r0
    have e : n = lineAt ls p 1 := e
    exact ⟨S', Sle.refl S', by rw [e]; exact h⟩
end LW

set_option Elab.async false
set_option linter.all false
set_option maxRecDepth 100000
set_option maxHeartbeats 4000000
set_option exponentiation.threshold 100
namespace LW
open PySem PySem.Spec L2 DL
local macro_rules | `(tactic| walk_at "dl") => `(tactic| simp -implicitDefEqProofs only [↓dRepl, ↓dLstripC, ↓dRstripC, ↓dFind3, ↓dTabVIn, ↓dTabVIx, ↓dIntB, ↓dStrB, ↓dDisp, ↓dPairs, ↓dDNew, ↓dDGet, ↓dDIn, ↓dDPut, ↓dDGet1, ↓dDGet2, ↓dRepl0, ↓dFalls, ↓toKy, ↓kvsOf, ↓dFmt, ↓dJsE, ↓dJs, ↓dSumL, ↓dAllL, ↓dAnyL, ↓dPartn, ↓dStrip, ↓dStripC, ↓dLower, ↓dUpper, ↓dRfind, ↓dCount, ↓okL, ↓dGunl, ↓dLc2_k, ↓dStarL, ↓dListT, ↓dTupT, ↓dSetK, ↓dSortS, ↓dEqL, ↓dOnL, ↓dStrA, ↓dTabGet, ↓dTabIx, ↓dZipM, ↓dInD, ↓dTupRg, ↓dLstRg, ↓dInT, ↓dSetT, ↓dZipT, ↓dSetAll, ↓dEqO, ↓dMulT, ↓dSeq, ↓dIfS, ↓dTB, ↓dOp, ↓dVar, ↓dC, ↓dLt, ↓dLe, ↓dGt, ↓dGe, ↓rII, ↓rIIc, ↓dCB, ↓dCons, ↓dNil, ↓dLen, ↓dInt, ↓dRet, ↓dRetN, ↓dNext, ↓dIx, ↓dAt, ↓startD, List.map_cons, List.map_nil, List.cons_append, List.nil_append, List.append_nil, List.length_cons, List.length_nil, List.getElem?_cons_zero, List.getElem?_cons_succ, List.length_map, ↓dAsg, ↓dName, ↓dNew_k, ↓dLst, ↓dFor_k, ↓dRng1, ↓dRng2, ↓dCall_k, ↓dAdd, ↓dSub, ↓dMul, ↓dMod, ↓dFdiv, ↓dPow, ↓dEq, ↓dNe, ↓scd, ↓dIsN, ↓dNotN, ↓dIsB, ↓dNotB, ↓dUn, ↓dNeg, ↓dTru, ↓dTruS, ↓dAnd, ↓dOr, ↓dNot, ↓dNotV, ↓dAndV, ↓dOrV, ↓dIfE, ↓dTup, ↓dDrop, ↓dBM, ↓dBM0, ↓tyD, ↓dApp, ↓dSetL, ↓dAsL, ↓dOnL, ↓dOnN_k, ↓dIsi, ↓tyName, isT, ↓dBreak, ↓dCont, ↓dPar, ↓endsD, List.set_cons_zero, List.set_cons_succ, List.replicate_succ, List.replicate_zero, su_same, ↓dLc_k, ↓dWhile_k, ↓dWipe, ↓dYes, ↓dIt, ↓dItN, ↓dSlice, ↓dPart, ↓dNoP, ↓dCut, ↓dSliceE, ↓dIxL, ↓dChain, ↓dIn, ↓dNotIn, ↓dInS, ↓mS0, ↓mS1, ↓dSta, ↓dEnd, ↓dFind, ↓dIsasc, ↓dIsdig, ↓dIsalp, ↓dIsaln, ↓dIslow, ↓dIspri, ↓okT, ↓okU, ↓ok2, ↓dFind4, ↓dSplit, ↓dJoin, ↓dJoinT, ↓dMulS, ↓dCatL, ↓dCatE, ↓dCatR, ↓dCatEE, ↓dStar, ↓dIntS, ↓dStr, ↓dMax, ↓dMin, ↓dII, ↓dFld_m, ↓dSetF_m, ↓dMeth_m, ↓dMake_k, ↓dGtup, ↓dGcons, ↓dGnil, true_and, and_true, Nat.add_zero, reduceCtorEq, ↓reduceIte, Bool.not_true, Bool.not_false, Bool.false_eq_true, if_true, if_false])
local macro_rules | `(tactic| walk_at "dl*") => `(tactic| simp -implicitDefEqProofs only [*, ↓dRepl, ↓dLstripC, ↓dRstripC, ↓dFind3, ↓dTabVIn, ↓dTabVIx, ↓dIntB, ↓dStrB, ↓dDisp, ↓dPairs, ↓dDNew, ↓dDGet, ↓dDIn, ↓dDPut, ↓dDGet1, ↓dDGet2, ↓dRepl0, ↓dFalls, ↓toKy, ↓kvsOf, ↓dFmt, ↓dJsE, ↓dJs, ↓dSumL, ↓dAllL, ↓dAnyL, ↓dPartn, ↓dStrip, ↓dStripC, ↓dLower, ↓dUpper, ↓dRfind, ↓dCount, ↓okL, ↓dGunl, ↓dLc2_k, ↓dStarL, ↓dListT, ↓dTupT, ↓dSetK, ↓dSortS, ↓dEqL, ↓dOnL, ↓dStrA, ↓dTabGet, ↓dTabIx, ↓dZipM, ↓dInD, ↓dTupRg, ↓dLstRg, ↓dInT, ↓dSetT, ↓dZipT, ↓dSetAll, ↓dEqO, ↓dMulT, ↓dSeq, ↓dIfS, ↓dTB, ↓dOp, ↓dVar, ↓dC, ↓dLt, ↓dLe, ↓dGt, ↓dGe, ↓rII, ↓rIIc, ↓dCB, ↓dCons, ↓dNil, ↓dLen, ↓dInt, ↓dRet, ↓dRetN, ↓dNext, ↓dIx, ↓dAt, ↓startD, List.map_cons, List.map_nil, List.cons_append, List.nil_append, List.append_nil, List.length_cons, List.length_nil, List.getElem?_cons_zero, List.getElem?_cons_succ, List.length_map, ↓dAsg, ↓dName, ↓dNew_k, ↓dLst, ↓dFor_k, ↓dRng1, ↓dRng2, ↓dCall_k, ↓dAdd, ↓dSub, ↓dMul, ↓dMod, ↓dFdiv, ↓dPow, ↓dEq, ↓dNe, ↓scd, ↓dIsN, ↓dNotN, ↓dIsB, ↓dNotB, ↓dUn, ↓dNeg, ↓dTru, ↓dTruS, ↓dAnd, ↓dOr, ↓dNot, ↓dNotV, ↓dAndV, ↓dOrV, ↓dIfE, ↓dTup, ↓dDrop, ↓dBM, ↓dBM0, ↓tyD, ↓dApp, ↓dSetL, ↓dAsL, ↓dOnL, ↓dOnN_k, ↓dIsi, ↓tyName, isT, ↓dBreak, ↓dCont, ↓dPar, ↓endsD, List.set_cons_zero, List.set_cons_succ, List.replicate_succ, List.replicate_zero, su_same, ↓dLc_k, ↓dWhile_k, ↓dWipe, ↓dYes, ↓dIt, ↓dItN, ↓dSlice, ↓dPart, ↓dNoP, ↓dCut, ↓dSliceE, ↓dIxL, ↓dChain, ↓dIn, ↓dNotIn, ↓dInS, ↓mS0, ↓mS1, ↓dSta, ↓dEnd, ↓dFind, ↓dIsasc, ↓dIsdig, ↓dIsalp, ↓dIsaln, ↓dIslow, ↓dIspri, ↓okT, ↓okU, ↓ok2, ↓dFind4, ↓dSplit, ↓dJoin, ↓dJoinT, ↓dMulS, ↓dCatL, ↓dCatE, ↓dCatR, ↓dCatEE, ↓dStar, ↓dIntS, ↓dStr, ↓dMax, ↓dMin, ↓dII, ↓dFld_m, ↓dSetF_m, ↓dMeth_m, ↓dMake_k, ↓dGtup, ↓dGcons, ↓dGnil, true_and, and_true, Nat.add_zero, reduceCtorEq, ↓reduceIte, Bool.not_true, Bool.not_false, Bool.false_eq_true, if_true, if_false])
/-! ### coded and read -/
def decoded_b3_3 : SD := (dDrop (dBM "list" dApp (dVar 2) (dCons (dVar 7) dNil)))
def decoded_b3_2 : SD := dSeq (dIfS (dTB (dOp dIsN (dVar 7) (dC .non))) (dRet (dTup (dCons (dCall 2 sp_line_at [] (dCons (dVar 0) (dCons (dOp dSub (dOp dAdd (dVar 3) (dCB dLen (dCons (dVar 6) dNil))) (dC (.int 1))) dNil))) (dCons (dC (.str [])) dNil)))) dNext) (decoded_b3_3)
def decoded_b3_1 : SD := dSeq (dAsg (dCall 1 sp_group_signs [] (dCons (dVar 6) dNil)) (dName 7)) (decoded_b3_2)
def decoded_k4 : SD := (dRet (dTup (dCons (dC (.int 0)) (dCons (dBM "str" dJoin (dC (.str [])) (dAsL (dVar 2))) dNil))))
def decoded_k3 : SD := dSeq (dFor (dRng3 (dCons (dC (.int 0)) (dCons (dCB dLen (dCons (dVar 1) dNil)) (dCons (dC (.int 4)) dNil)))) (dName 3) (dSeq (dAsg (dSlice (dVar 1) (dPart (dVar 3)) (dPart (dOp dAdd (dVar 3) (dC (.int 4))))) (dName 6)) (decoded_b3_1))) (decoded_k4)
def decoded_k2 : SD := dSeq (dAsg (dNew (dLst dNil)) (dName 2)) (decoded_k3)
def decoded_k1 : SD := dSeq (dAsg (dBM "str" dJoinT (dC (.str [])) (dCons (dVar 0) dNil)) (dName 1)) (decoded_k2)
theorem cut_decoded : rd_decoded = dSeq (dFor (dEnumT 1 (dCons (dVar 0) dNil)) (dGtup (dGcons (dName 4) (dGcons (dName 5) dGnil)) 2) (dIfS (dTB (dOp dNe (dBM "str" dStripC (dVar 5) (dCons (dC (.str [48, 49, 50, 51, 52, 53, 54, 55, 56, 57, 97, 98, 99, 100, 101, 102, 103, 104, 105, 106, 107, 108, 109, 110, 111, 112, 113, 114, 115, 116, 117, 118, 119, 120, 121, 122, 65, 66, 67, 68, 69, 70, 71, 72, 73, 74, 75, 76, 77, 78, 79, 80, 81, 82, 83, 84, 85, 86, 87, 88, 89, 90, 43, 45])) dNil)) (dC (.str [])))) (dRet (dTup (dCons (dVar 4) (dCons (dC (.str [])) dNil)))) dNext)) (decoded_k1) := rfl
def write_coding_k1 : SD := (dRet (dOnL (fun ds S Q => Q (.tup ds) S) (dLc (dRng3 (dCons (dC (.int 0)) (dCons (dCB dLen (dCons (dVar 1) dNil)) (dCons (dC (.int 76)) dNil)))) (dName 2) dYes (dSlice (dVar 1) (dPart (dVar 2)) (dPart (dOp dAdd (dVar 2) (dC (.int 76))))) [2])))
theorem cut_write_coding : rd_write_coding = dSeq (dAsg (dBM "str" dJoin (dC (.str [])) (dLc (dRng3 (dCons (dC (.int 0)) (dCons (dCB dLen (dCons (dVar 0) dNil)) (dCons (dC (.int 3)) dNil)))) (dName 2) dYes (dCall 1 sp_group_digits [] (dCons (dSlice (dVar 0) (dPart (dVar 2)) (dPart (dOp dAdd (dVar 2) (dC (.int 3))))) dNil)) [2])) (dName 1)) (write_coding_k1) := rfl
def read_coding_k2 (C : Nat → Addr) (ω : XSD) : SD := (dRet (dVar 2))
def read_coding_k1 (C : Nat → Addr) (ω : XSD) : SD := dSeq (dIfS (dTB (dOp dGt (dVar 1) (dC (.int 0)))) (dRaise (dMkX (C 1) N_BadLetterU_initU 3 rd_BadLetterU_initU (fl2 "line" "reason") (dCons (dVar 1) (dCons (dC (.str [98, 97, 100, 32, 99, 111, 100, 105, 110, 103])) dNil))) ω) dNext) (read_coding_k2 C ω)
theorem cut_read_coding (C : Nat → Addr) (ω : XSD) : rd_read_coding C ω = dSeq (dAsg (dCall 1 sp_decoded [] (dCons (dVar 0) dNil)) (dGtup (dGcons (dName 1) (dGcons (dName 2) dGnil)) 2)) (read_coding_k1 C ω) := rfl

theorem sl_chs {p s t : List Nat} (ht : t = p ++ s) (n : Nat) {b : Int} (hb : b = ((p.length : Nat) : Int) + ((n : Nat) : Int)) : DL.cutD t (some ((p.length : Nat) : Int)) (some b) = s.take n := by
  subst ht
  exact cut_n rfl hb
theorem join_nil : ∀ ys : List (List Nat), TL.joinL [] ys = ys.flatten
  | [] => rfl
  | [p] => by show p = p ++ []; rw [List.append_nil]
  | p :: q :: r => by
    have ih := join_nil (q :: r)
    rw [join_cons2, ih]
    rfl
theorem sum_flat : ∀ ys : List (List Nat), (ys.map (·.length)).sum = ys.flatten.length
  | [] => rfl
  | y :: ys => by rw [List.map_cons, List.sum_cons, List.flatten_cons, List.length_append, sum_flat ys]
theorem row_len {t : List Nat} (ht : ∀ c ∈ t, c ∈ SG) (hl : t.length ≤ 1000 := by assumption) : joinOk [] ((chs 3 t).map gD) ∧ ((chs 3 t).flatMap gD).length ≤ 4000 := by
  have key : ∀ gs : List (List Nat), (gs.flatMap gD).length = gs.flatten.length + gs.length := fun gs => by
    induction gs with
    | nil => rfl
    | cons g gs ih => rw [List.flatMap_cons, List.length_append, gD_len, ih, List.flatten_cons, List.length_append, List.length_cons]; omega
  have k := key (chs 3 t)
  rw [chs_flat (by decide) t.length t (Nat.le_refl _)] at k
  have := chs_le (n := 3) (by decide) t
  refine ⟨?_, by omega⟩
  unfold joinOk
  rw [sum_flat, ← List.flatMap_def, List.length_nil, Nat.mul_zero]
  omega
theorem ok_write_coding : ∀ ds S Q, ds.length = 1 → sp_write_coding ds S Q → rd_write_coding (endsD Q) (startD N_write_coding ds) S := by
  rintro ds S Q - ⟨t, rfl, ht, hl, h⟩
  have sz := sz6
  have h' := Hd.mk h
  clear h
  rw [cut_write_coding]
  walk_at "dl"
  refine ⟨by omega, ⟨by decide, by decide, by decide, by omega, by decide, by omega⟩, ?_⟩
  refine comp_chs (n := 3) (by decide) (t := t) (fun g => .str (gD g)) trivial (fun p s e hs R hR => ?_) _ [] [] t (Ac.start (n := 3) (by decide) t) ?_ ?_
  · have hc := sl_chs e 3 (b := ((p.length : Nat) : Int) + 3) rfl
    show t.length ≤ sizeLine ∧ 1 = 1 ∧ sp_group_digits [.str (DL.cutD t (some ((p.length : Nat) : Int)) (some (((p.length : Nat) : Int) + 3)))] S R
    rw [hc]
    exact ⟨by omega, rfl, s.take 3, rfl, fun c hc => ht c (by rw [e]; exact List.mem_append_right _ (List.mem_of_mem_take hc)), by rw [List.length_take]; omega, hR⟩
  · have := chs_le (n := 3) (by decide) t
    rw [List.length_nil]
    omega
  rw [List.nil_append, show (chs 3 t).map (fun g => D.str (gD g)) = ((chs 3 t).map gD).map D.str by rw [List.map_map]; rfl, strsOf_map]
  obtain ⟨r1, r2⟩ := row_len ht
  show joinOk [] ((chs 3 t).map gD) ∧ write_coding_k1 _ [some (.str t), some (.str (TL.joinL [] ((chs 3 t).map gD))), none] S
  rw [join_nil, ← List.flatMap_def]
  generalize hr : (chs 3 t).flatMap gD = row at *
  refine ⟨r1, ?_⟩
  unfold write_coding_k1
  walk_at "dl"
  refine ⟨by omega, ⟨by decide, by decide, by decide, by omega, by decide, by omega⟩, ?_⟩
  refine comp_chs (n := 76) (by decide) (t := row) (fun g => .str g) trivial (fun p s e hs R hR => ?_) _ [] [] row (Ac.start (n := 76) (by decide) row) ?_ ?_
  · have hc := sl_chs e 76 (b := ((p.length : Nat) : Int) + 76) rfl
    show row.length ≤ sizeLine ∧ R (.str (DL.cutD row (some ((p.length : Nat) : Int)) (some (((p.length : Nat) : Int) + 76)))) S
    rw [hc]
    exact ⟨by omega, hR⟩
  · have := chs_le (n := 76) (by decide) row
    rw [List.length_nil]
    omega
  rw [List.nil_append]
  refine ⟨S, Sle.refl S, ?_⟩
  have := h'.a
  unfold code at this
  rw [hr] at this
  exact this
end LW

set_option Elab.async false
set_option linter.all false
set_option maxRecDepth 100000
set_option maxHeartbeats 4000000
set_option exponentiation.threshold 100
namespace LW
open PySem PySem.Spec L2 DL
local macro_rules | `(tactic| walk_at "dl") => `(tactic| simp -implicitDefEqProofs only [↓dRepl, ↓dLstripC, ↓dRstripC, ↓dFind3, ↓dTabVIn, ↓dTabVIx, ↓dIntB, ↓dStrB, ↓dDisp, ↓dPairs, ↓dDNew, ↓dDGet, ↓dDIn, ↓dDPut, ↓dDGet1, ↓dDGet2, ↓dRepl0, ↓dFalls, ↓toKy, ↓kvsOf, ↓dFmt, ↓dJsE, ↓dJs, ↓dSumL, ↓dAllL, ↓dAnyL, ↓dPartn, ↓dStrip, ↓dStripC, ↓dLower, ↓dUpper, ↓dRfind, ↓dCount, ↓okL, ↓dGunl, ↓dLc2_k, ↓dStarL, ↓dListT, ↓dTupT, ↓dSetK, ↓dSortS, ↓dEqL, ↓dOnL, ↓dStrA, ↓dTabGet, ↓dTabIx, ↓dZipM, ↓dInD, ↓dTupRg, ↓dLstRg, ↓dInT, ↓dSetT, ↓dZipT, ↓dSetAll, ↓dEqO, ↓dMulT, ↓dSeq, ↓dIfS, ↓dTB, ↓dOp, ↓dVar, ↓dC, ↓dLt, ↓dLe, ↓dGt, ↓dGe, ↓rII, ↓rIIc, ↓dCB, ↓dCons, ↓dNil, ↓dLen, ↓dInt, ↓dRet, ↓dRetN, ↓dNext, ↓dIx, ↓dAt, ↓startD, List.map_cons, List.map_nil, List.cons_append, List.nil_append, List.append_nil, List.length_cons, List.length_nil, List.getElem?_cons_zero, List.getElem?_cons_succ, List.length_map, ↓dAsg, ↓dName, ↓dNew_k, ↓dLst, ↓dFor_k, ↓dRng1, ↓dRng2, ↓dCall_k, ↓dAdd, ↓dSub, ↓dMul, ↓dMod, ↓dFdiv, ↓dPow, ↓dEq, ↓dNe, ↓scd, ↓dIsN, ↓dNotN, ↓dIsB, ↓dNotB, ↓dUn, ↓dNeg, ↓dTru, ↓dTruS, ↓dAnd, ↓dOr, ↓dNot, ↓dNotV, ↓dAndV, ↓dOrV, ↓dIfE, ↓dTup, ↓dDrop, ↓dBM, ↓dBM0, ↓tyD, ↓dApp, ↓dSetL, ↓dAsL, ↓dOnL, ↓dOnN_k, ↓dIsi, ↓tyName, isT, ↓dBreak, ↓dCont, ↓dPar, ↓endsD, List.set_cons_zero, List.set_cons_succ, List.replicate_succ, List.replicate_zero, su_same, ↓dLc_k, ↓dWhile_k, ↓dWipe, ↓dYes, ↓dIt, ↓dItN, ↓dSlice, ↓dPart, ↓dNoP, ↓dCut, ↓dSliceE, ↓dIxL, ↓dChain, ↓dIn, ↓dNotIn, ↓dInS, ↓mS0, ↓mS1, ↓dSta, ↓dEnd, ↓dFind, ↓dIsasc, ↓dIsdig, ↓dIsalp, ↓dIsaln, ↓dIslow, ↓dIspri, ↓okT, ↓okU, ↓ok2, ↓dFind4, ↓dSplit, ↓dJoin, ↓dJoinT, ↓dMulS, ↓dCatL, ↓dCatE, ↓dCatR, ↓dCatEE, ↓dStar, ↓dIntS, ↓dStr, ↓dMax, ↓dMin, ↓dII, ↓dFld_m, ↓dSetF_m, ↓dMeth_m, ↓dMake_k, ↓dGtup, ↓dGcons, ↓dGnil, true_and, and_true, Nat.add_zero, reduceCtorEq, ↓reduceIte, Bool.not_true, Bool.not_false, Bool.false_eq_true, if_true, if_false])
local macro_rules | `(tactic| walk_at "dl*") => `(tactic| simp -implicitDefEqProofs only [*, ↓dRepl, ↓dLstripC, ↓dRstripC, ↓dFind3, ↓dTabVIn, ↓dTabVIx, ↓dIntB, ↓dStrB, ↓dDisp, ↓dPairs, ↓dDNew, ↓dDGet, ↓dDIn, ↓dDPut, ↓dDGet1, ↓dDGet2, ↓dRepl0, ↓dFalls, ↓toKy, ↓kvsOf, ↓dFmt, ↓dJsE, ↓dJs, ↓dSumL, ↓dAllL, ↓dAnyL, ↓dPartn, ↓dStrip, ↓dStripC, ↓dLower, ↓dUpper, ↓dRfind, ↓dCount, ↓okL, ↓dGunl, ↓dLc2_k, ↓dStarL, ↓dListT, ↓dTupT, ↓dSetK, ↓dSortS, ↓dEqL, ↓dOnL, ↓dStrA, ↓dTabGet, ↓dTabIx, ↓dZipM, ↓dInD, ↓dTupRg, ↓dLstRg, ↓dInT, ↓dSetT, ↓dZipT, ↓dSetAll, ↓dEqO, ↓dMulT, ↓dSeq, ↓dIfS, ↓dTB, ↓dOp, ↓dVar, ↓dC, ↓dLt, ↓dLe, ↓dGt, ↓dGe, ↓rII, ↓rIIc, ↓dCB, ↓dCons, ↓dNil, ↓dLen, ↓dInt, ↓dRet, ↓dRetN, ↓dNext, ↓dIx, ↓dAt, ↓startD, List.map_cons, List.map_nil, List.cons_append, List.nil_append, List.append_nil, List.length_cons, List.length_nil, List.getElem?_cons_zero, List.getElem?_cons_succ, List.length_map, ↓dAsg, ↓dName, ↓dNew_k, ↓dLst, ↓dFor_k, ↓dRng1, ↓dRng2, ↓dCall_k, ↓dAdd, ↓dSub, ↓dMul, ↓dMod, ↓dFdiv, ↓dPow, ↓dEq, ↓dNe, ↓scd, ↓dIsN, ↓dNotN, ↓dIsB, ↓dNotB, ↓dUn, ↓dNeg, ↓dTru, ↓dTruS, ↓dAnd, ↓dOr, ↓dNot, ↓dNotV, ↓dAndV, ↓dOrV, ↓dIfE, ↓dTup, ↓dDrop, ↓dBM, ↓dBM0, ↓tyD, ↓dApp, ↓dSetL, ↓dAsL, ↓dOnL, ↓dOnN_k, ↓dIsi, ↓tyName, isT, ↓dBreak, ↓dCont, ↓dPar, ↓endsD, List.set_cons_zero, List.set_cons_succ, List.replicate_succ, List.replicate_zero, su_same, ↓dLc_k, ↓dWhile_k, ↓dWipe, ↓dYes, ↓dIt, ↓dItN, ↓dSlice, ↓dPart, ↓dNoP, ↓dCut, ↓dSliceE, ↓dIxL, ↓dChain, ↓dIn, ↓dNotIn, ↓dInS, ↓mS0, ↓mS1, ↓dSta, ↓dEnd, ↓dFind, ↓dIsasc, ↓dIsdig, ↓dIsalp, ↓dIsaln, ↓dIslow, ↓dIspri, ↓okT, ↓okU, ↓ok2, ↓dFind4, ↓dSplit, ↓dJoin, ↓dJoinT, ↓dMulS, ↓dCatL, ↓dCatE, ↓dCatR, ↓dCatEE, ↓dStar, ↓dIntS, ↓dStr, ↓dMax, ↓dMin, ↓dII, ↓dFld_m, ↓dSetF_m, ↓dMeth_m, ↓dMake_k, ↓dGtup, ↓dGcons, ↓dGnil, true_and, and_true, Nat.add_zero, reduceCtorEq, ↓reduceIte, Bool.not_true, Bool.not_false, Bool.false_eq_true, if_true, if_false])
theorem decs_small {k : Int} (h : k.natAbs < 10 ^ 18) : (decs k).length ≤ 20 ∧ k.natAbs.log2 < 1920 := by
  refine ⟨?_, ?_⟩
  · rw [decs_abs, List.length_append]
    have := TL.numL_len (k := 18) (by decide) h
    split <;> simp <;> omega
  · by_cases h0 : k.natAbs = 0
    · rw [h0]; decide
    · exact (Nat.log2_lt h0).mpr (Nat.lt_of_lt_of_le h (by decide))
theorem mk_bl {c : Addr} {k : Nat} {S : Sh} {Q : Addr → Addr → Sh → Prop} (hk : k ≤ 10000000) (h : XBf c [("reason", .str badc), ("line", .int (k : Nat))] S fun c d S' => Q c d S') :
    (fun (ds : List D) (S1 : Sh) => ds.length + 1 = 3 ∧ ∀ p, S1 p = none → rd_BadLetterU_initU (startD N_BadLetterU_initU (.rf p :: ds)) S1 fun xs S2 => xs.length ≤ 1000 ∧ ∀ d, S2 d = none → Q c d (su S2 d (.exn (fl2 "line" "reason" ds)))) [.int ((k : Nat) : Int), .str badc] S := by
  have sz := sz6
  obtain ⟨h1, h2⟩ := decs_small (k := ((k : Nat) : Int)) (show k < 10 ^ 18 from Nat.lt_of_le_of_lt hk (by decide))
  refine ⟨rfl, fun p hp => ?_⟩
  have hb : badc.length = 10 := rfl
  refine ⟨by show 5 ≤ _; omega, h2, ?_, ?_, ?_, ?_, ?_, ?_⟩
  · show (([] ++ [108, 105, 110, 101, 32]) ++ decs ((k : Nat) : Int)).length ≤ sizeLine
    simp only [List.length_append, List.length_cons, List.length_nil]; omega
  · show ((([] ++ [108, 105, 110, 101, 32]) ++ decs ((k : Nat) : Int)) ++ [58, 32]).length ≤ sizeLine
    simp only [List.length_append, List.length_cons, List.length_nil]; omega
  · show badc.length ≤ sizeLine
    omega
  · show (((([] ++ [108, 105, 110, 101, 32]) ++ decs ((k : Nat) : Int)) ++ [58, 32]) ++ badc).length ≤ sizeLine
    simp only [List.length_append, List.length_cons, List.length_nil]; omega
  · show 1 ≤ 1000
    decide
  · exact h
theorem ok_read_coding {C : Nat → Addr} : ∀ ds S Q Xd, ds.length = 1 → sp_read_coding C ds S Q Xd → rd_read_coding C (endX Xd) (endsD Q) (startD N_read_coding ds) S := by
  rintro ds S Q Xd - ⟨ls, rfl, hz, h⟩
  have sz := sz6
  rw [cut_read_coding]
  refine ⟨rfl, ls, rfl, hz, ?_⟩
  cases e : DD ls with
  | inl n =>
    rw [e] at h
    obtain ⟨n1, n2⟩ := DD_le e
    have := hz.1
    show 2 = 2 ∧ read_coding_k1 C (endX Xd) (endsD Q) [some (.tup (tls ls)), some (.int ((n : Nat) : Int)), some (.str [])] S
    refine ⟨rfl, ?_⟩
    unfold read_coding_k1
    refine if_b (b := decide ((0 : Int) < ((n : Nat) : Int))) (fun Q hQ => hQ) (fun _ => ?_) fun z => absurd (of_decide_eq_false z) (by omega)
    exact mk_bl (by omega) (XBf.end (Sle.refl S) h)
  | inr t =>
    rw [e] at h
    show 2 = 2 ∧ read_coding_k1 C (endX Xd) (endsD Q) [some (.tup (tls ls)), some (.int 0), some (.str t)] S
    refine ⟨rfl, ?_⟩
    unfold read_coding_k1
    refine if_no (fun Q hQ => hQ) ?_
    exact ⟨S, Sle.refl S, h⟩
theorem ok_llaw_told {C : Nat → Addr} : ∀ ds S Q, ds.length = 1 → sp_llaw_told ds S Q → rd_llaw_told C (endsD Q) (startD N_llaw_told ds) S := by
  rintro ds S Q - ⟨ls, rfl, hz, h⟩
  have sz := sz6
  refine ⟨rfl, ls, rfl, hz, ?_⟩
  unfold toldL at h
  cases e : DD ls with
  | inl n =>
    rw [e] at h
    obtain ⟨n1, n2⟩ := DD_le e
    have := hz.1
    intro d hd
    refine ⟨List.mem_singleton.mpr rfl, fun a ha => ?_⟩
    have hsd : (su S d (.exn [(Str.ofString "reason", .str badc), (Str.ofString "line", .int (n : Nat))])) d = some (.exn [(Str.ofString "reason", .str badc), (Str.ofString "line", .int (n : Nat))]) := su_same
    have le : Sle S (su S d (.exn [(Str.ofString "reason", .str badc), (Str.ofString "line", .int (n : Nat))])) := Sle.new hd
    show a = a ∧ (match (su S d (.exn [(Str.ofString "reason", .str badc), (Str.ofString "line", .int (n : Nat))])) d with | some (.exn fs) => (match fs.lookup (Str.ofString "line") with | some v1 => a = a ∧ (match (su S d (.exn [(Str.ofString "reason", .str badc), (Str.ofString "line", .int (n : Nat))])) d with | some (.exn fs) => (match fs.lookup (Str.ofString "reason") with | some v2 => 2 = 2 ∧ sp_llaw_refusal [v1, v2] (su S d (.exn [(Str.ofString "reason", .str badc), (Str.ofString "line", .int (n : Nat))])) (endsD Q).rt | none => False) | _ => False) | none => False) | _ => False)
    revert hsd le
    generalize su S d (.exn [(Str.ofString "reason", .str badc), (Str.ofString "line", .int (n : Nat))]) = S2
    intro hsd le
    rw [hsd]
    dsimp only
    have l2 : ([(Str.ofString "reason", .str badc), (Str.ofString "line", D.int (n : Nat))] : List (Str × D)).lookup (Str.ofString "reason") = some (.str badc) := by rw [List.lookup_cons_self]
    have l1 : ([(Str.ofString "reason", .str badc), (Str.ofString "line", D.int (n : Nat))] : List (Str × D)).lookup (Str.ofString "line") = some (.int (n : Nat)) := by
      have ne : (Str.ofString "line" == Str.ofString "reason") = false := by decide +kernel
      rw [List.lookup_cons, ne]
      show List.lookup _ [_] = _
      rw [List.lookup_cons_self]
    rw [l1]
    dsimp only
    rw [l2]
    exact ⟨rfl, rfl, rfl, _, _, rfl, by omega, by omega, by decide, fun q hq => sle_new le hq h⟩
  | inr t =>
    rw [e] at h
    exact ⟨by show 1 ≤ _; omega, fun q hq => sle_new (Sle.refl S) hq h⟩
theorem dgo_cons (a : Nat) (g : List Nat) (gs : List (List Nat)) : dgo a (g :: gs) = match gS g with
    | none => .inl (a + g.length - 1)
    | some x => match dgo (a + 4) gs with
      | .inl p => .inl p
      | .inr t => .inr (x ++ t) := rfl
theorem gS_len {g y : List Nat} (h : gS g = some y) : y.length = g.length - 1 := by
  unfold gS at h
  split at h
  · cases h
  · cases h
    rw [pd_len]
    rfl
theorem bad1_ok : ∀ (ls : List (List Nat)) (n : Nat), bad1 ls n = none → ∀ c ∈ ls.flatten, c ∈ DGS
  | [], n, _, c, hc => by cases hc
  | l :: ls, n, h, c, hc => by
    have h : (if okl l = true then bad1 ls (n + 1) else some n) = none := h
    by_cases z : okl l = true
    · rw [if_pos z] at h
      rw [List.flatten_cons] at hc
      rcases List.mem_append.mp hc with w | w
      · exact of_decide_eq_true (List.all_eq_true.mp z c w)
      · exact bad1_ok ls (n + 1) h c w
    · rw [if_neg z] at h
      cases h
theorem ok_decoded : ∀ ds S Q, ds.length = 1 → sp_decoded ds S Q → rd_decoded (endsD Q) (startD N_decoded ds) S := by
  rintro ds S Q - ⟨ls, rfl, hz, h⟩
  have sz := sz6
  rw [cut_decoded]
  walk_at "dl"
  refine loop_inv (fun rest δ S' => ∃ (r : List (List Nat)) (n : Nat) (x4 x5 : Option D), rest = enumD ((n : Nat) : Int) (tls r) ∧ (∀ l ∈ r, l ∈ ls) ∧ bad1 r n = bad1 ls 1 ∧ S' = S ∧ δ = [some (.tup (tls ls)), none, none, none, x4, x5, none, none]) ?_ (fun _ _ _ _ => trivial) ?_ _ _ _ ⟨ls, 1, none, none, rfl, fun _ h => h, rfl, rfl, rfl⟩
  · rintro x xs δ S' N ⟨r, n, x4, x5, er, hr, eb, rfl, rfl⟩ hN
    cases r with
    | nil => cases er
    | cons l r =>
      obtain ⟨rfl, rfl⟩ := List.cons.inj er
      have hl := len_flat (hr l List.mem_cons_self)
      have := hz.2
      have eb : (if okl l = true then bad1 r (n + 1) else some n) = bad1 ls 1 := eb
      refine ⟨rfl, ?_⟩
      simp only [dGcons, dGnil, dName, List.set_cons_succ, List.set_cons_zero]
      refine if_b (b := !(okl l)) (fun R hR => ?_) (fun z => ?_) fun z => ?_
      · rw [← strip_nil] at hR
        exact ⟨rfl, by omega, hR⟩
      · have z : ¬ okl l = true := by simpa using z
        rw [if_neg z] at eb
        show 2 ≤ sizeLine ∧ (endsD Q).rt (.tup [.int ((n : Nat) : Int), .str []]) S'
        unfold DD at h
        rw [← eb] at h
        exact ⟨by omega, S', Sle.refl S', h⟩
      · have z : okl l = true := by simpa using z
        rw [if_pos z] at eb
        show N [some (.tup (tls ls)), none, none, none, some (.int ((n : Nat) : Int)), some (.str l), none, none] S'
        exact hN _ _ ⟨r, n + 1, _, _, rfl, fun y hy => hr y (List.mem_cons_of_mem _ hy), eb, rfl, rfl⟩
  · rintro δ S' ⟨r, n, x4, x5, er, hr, eb, rfl, rfl⟩
    have r0 : r = [] := by cases r with | nil => rfl | cons c r => cases er
    subst r0
    have eb : none = bad1 ls 1 := eb
    have hd := bad1_ok ls 1 eb.symm
    unfold DD at h
    rw [← eb] at h
    dsimp only at h
    show decoded_k1 (endsD Q) [some (.tup (tls ls)), none, none, none, x4, x5, none, none] S'
    unfold decoded_k1
    have hfl := hz.2
    have hll := hz.1
    have hj : joinOk [] ls := by
      unfold joinOk
      rw [sum_flat, List.length_nil, Nat.mul_zero]
      omega
    have hjn := join_nil ls
    generalize hrow : ls.flatten = row at *
    walk_at "dl"
    rw [show tls ls = ls.map D.str from rfl, strsOf_map]
    show joinOk [] ls ∧ decoded_k2 (endsD Q) [some (.tup (tls ls)), some (.str (TL.joinL [] ls)), none, none, x4, x5, none, none] S'
    rw [hjn]
    refine ⟨hj, ?_⟩
    unfold decoded_k2
    refine ⟨by show 0 ≤ _; omega, fun q hq => ?_⟩
    show decoded_k3 (endsD Q) [some (.tup (tls ls)), some (.str row), some (.rf q), none, x4, x5, none, none] (su S' q (.lst []))
    unfold decoded_k3
    walk_at "dl"
    refine ⟨by omega, ⟨by decide, by decide, by decide, by omega, by decide, by omega⟩, ?_⟩
    refine loop_inv (fun rest δ S2 => ∃ (p s : List Nat) (xs : List (List Nat)) (x3 x6 x7 : Option D), Ac 4 row rest p s ∧ xs.flatten.length ≤ 3 * xs.length ∧ xs.length + (chs 4 s).length ≤ 10000 ∧ S2 = su S' q (.lst (xs.map D.str)) ∧ (match dgo p.length (chs 4 s) with | .inl k => dgo 0 (chs 4 row) = .inl k | .inr t => dgo 0 (chs 4 row) = .inr (xs.flatten ++ t)) ∧ δ = [some (.tup (tls ls)), some (.str row), some (.rf q), x3, x4, x5, x6, x7]) ?_ (fun _ _ _ _ => trivial) ?_ _ _ _ ⟨[], row, [], none, none, none, Ac.start (n := 4) (by decide) row, Nat.le_refl _, by have := chs_le (n := 4) (by decide) row; rw [List.length_nil]; omega, rfl, by
      show match dgo 0 (chs 4 row) with | .inl k => dgo 0 (chs 4 row) = .inl k | .inr t => dgo 0 (chs 4 row) = .inr t
      cases dgo 0 (chs 4 row) <;> rfl, rfl⟩
    · rintro x xs' δ S2 N ⟨p, s, xs, x3, x6, x7, hA, hm, hlen, rfl, hgo, rfl⟩ hN
      obtain ⟨hs, rfl, hA', hcc⟩ := hA.cons (by decide)
      have hrow := hA.1
      have hps := congrArg List.length hrow
      rw [List.length_append] at hps
      have hsl : 1 ≤ s.length := by cases s with | nil => exact absurd rfl hs | cons c r => simp
      have hc := sl_chs hrow 4 (b := ((p.length : Nat) : Int) + 4) rfl
      have hg : ∀ c ∈ s.take 4, c ∈ DGS := fun c hc => hd c (by rw [hrow]; exact List.mem_append_right _ (List.mem_of_mem_take hc))
      have hgl : (s.take 4).length = min 4 s.length := List.length_take
      rw [hcc, List.length_cons] at hlen
      rw [hcc] at hgo
      have hg4 : p.length + 4 = (p ++ s.take 4).length ∨ s.drop 4 = [] := by
        by_cases h4 : 4 ≤ s.length
        · left; rw [List.length_append]; omega
        · right; exact List.drop_of_length_le (by omega)
      rw [dgo_cons] at hgo
      show row.length ≤ sizeLine ∧ decoded_b3_1 _ [some (.tup (tls ls)), some (.str row), some (.rf q), some (.int ((p.length : Nat) : Int)), x4, x5, some (.str (DL.cutD row (some ((p.length : Nat) : Int)) (some (((p.length : Nat) : Int) + 4)))), x7] (su S' q (.lst (xs.map D.str)))
      rw [hc]
      refine ⟨by omega, ?_⟩
      generalize hgg : s.take 4 = g at *
      unfold decoded_b3_1
      refine ⟨rfl, g, rfl, hg, by omega, by omega, ?_⟩
      show decoded_b3_2 _ [some (.tup (tls ls)), some (.str row), some (.rf q), some (.int ((p.length : Nat) : Int)), x4, x5, some (.str g), some (opt (gS g))] (su S' q (.lst (xs.map D.str)))
      unfold decoded_b3_2
      cases eg : gS g with
      | none =>
        rw [eg] at hgo
        dsimp only at hgo
        rw [hgo] at h
        refine if_yes (fun Q hQ => hQ) ?_
        refine ⟨by omega, rfl, ls, p.length + g.length - 1, ?_, hz, ?_⟩
        · rw [show ((p.length + g.length - 1 : Nat) : Int) = ((p.length : Nat) : Int) + ((g.length : Nat) : Int) - 1 by omega]
          rfl
        · exact ⟨by show 2 ≤ _; omega, S', Sle.new hq, h⟩
      | some y =>
        rw [eg] at hgo
        dsimp only at hgo
        refine if_no (fun Q hQ => hQ) ?_
        delta dNext
        dsimp only
        unfold decoded_b3_3
        walk_at "dl"
        refine ⟨⟨_, rfl⟩, by omega, ?_⟩
        rw [su_su]
        refine hN _ _ ⟨p ++ g, s.drop 4, xs ++ [y], _, _, _, hA', ?_, by rw [List.length_append, List.length_singleton]; omega, by rw [List.map_append]; rfl, ?_, rfl⟩
        · have := gS_len eg
          rw [List.flatten_append, List.length_append, List.length_append, List.length_singleton]
          show _ + (y ++ []).length ≤ _
          rw [List.append_nil]
          omega
        · have e1 : dgo (p ++ g).length (chs 4 (s.drop 4)) = dgo (p.length + 4) (chs 4 (s.drop 4)) := by
            rcases hg4 with z | z
            · rw [z]
            · rw [z]; rfl
          rw [e1]
          cases e2 : dgo (p.length + 4) (chs 4 (s.drop 4)) with
          | inl k => rw [e2] at hgo; exact hgo
          | inr t =>
            rw [e2] at hgo
            dsimp only at hgo ⊢
            rw [hgo, List.flatten_append, List.append_assoc]
            show _ = Sum.inr (xs.flatten ++ ((y ++ []) ++ t))
            rw [List.append_nil]
    · rintro δ S2 ⟨p, s, xs, x3, x6, x7, hA, hm, hlen, rfl, hgo, rfl⟩
      have s0 := hA.nil (by decide)
      subst s0
      rw [chs_nil] at hgo
      have hgo : dgo 0 (chs 4 row) = .inr (xs.flatten ++ []) := hgo
      rw [List.append_nil] at hgo
      rw [hgo] at h
      show decoded_k4 (endsD Q) [some (.tup (tls ls)), some (.str row), some (.rf q), x3, x4, x5, x6, x7] (su S' q (.lst (xs.map D.str)))
      unfold decoded_k4
      walk_at "dl"
      rw [strsOf_map]
      show joinOk [] xs ∧ 2 ≤ sizeLine ∧ ∃ S2, Sle S2 (su S' q (.lst (xs.map D.str))) ∧ Q (.tup [.int 0, .str (TL.joinL [] xs)]) S2
      rw [join_nil]
      refine ⟨?_, by omega, S', Sle.new hq, h⟩
      rw [chs_nil, List.length_nil] at hlen
      unfold joinOk
      rw [sum_flat, List.length_nil, Nat.mul_zero]
      omega
end LW

set_option Elab.async false
set_option linter.all false
set_option maxRecDepth 100000
set_option maxHeartbeats 4000000
set_option exponentiation.threshold 100
namespace LW
open PySem PySem.Spec L2 DL
local macro_rules | `(tactic| walk_at "dl") => `(tactic| simp -implicitDefEqProofs only [↓dRepl, ↓dLstripC, ↓dRstripC, ↓dFind3, ↓dTabVIn, ↓dTabVIx, ↓dIntB, ↓dStrB, ↓dDisp, ↓dPairs, ↓dDNew, ↓dDGet, ↓dDIn, ↓dDPut, ↓dDGet1, ↓dDGet2, ↓dRepl0, ↓dFalls, ↓toKy, ↓kvsOf, ↓dFmt, ↓dJsE, ↓dJs, ↓dSumL, ↓dAllL, ↓dAnyL, ↓dPartn, ↓dStrip, ↓dStripC, ↓dLower, ↓dUpper, ↓dRfind, ↓dCount, ↓okL, ↓dGunl, ↓dLc2_k, ↓dStarL, ↓dListT, ↓dTupT, ↓dSetK, ↓dSortS, ↓dEqL, ↓dOnL, ↓dStrA, ↓dTabGet, ↓dTabIx, ↓dZipM, ↓dInD, ↓dTupRg, ↓dLstRg, ↓dInT, ↓dSetT, ↓dZipT, ↓dSetAll, ↓dEqO, ↓dMulT, ↓dSeq, ↓dIfS, ↓dTB, ↓dOp, ↓dVar, ↓dC, ↓dLt, ↓dLe, ↓dGt, ↓dGe, ↓rII, ↓rIIc, ↓dCB, ↓dCons, ↓dNil, ↓dLen, ↓dInt, ↓dRet, ↓dRetN, ↓dNext, ↓dIx, ↓dAt, ↓startD, List.map_cons, List.map_nil, List.cons_append, List.nil_append, List.append_nil, List.length_cons, List.length_nil, List.getElem?_cons_zero, List.getElem?_cons_succ, List.length_map, ↓dAsg, ↓dName, ↓dNew_k, ↓dLst, ↓dFor_k, ↓dRng1, ↓dRng2, ↓dCall_k, ↓dAdd, ↓dSub, ↓dMul, ↓dMod, ↓dFdiv, ↓dPow, ↓dEq, ↓dNe, ↓scd, ↓dIsN, ↓dNotN, ↓dIsB, ↓dNotB, ↓dUn, ↓dNeg, ↓dTru, ↓dTruS, ↓dAnd, ↓dOr, ↓dNot, ↓dNotV, ↓dAndV, ↓dOrV, ↓dIfE, ↓dTup, ↓dDrop, ↓dBM, ↓dBM0, ↓tyD, ↓dApp, ↓dSetL, ↓dAsL, ↓dOnL, ↓dOnN_k, ↓dIsi, ↓tyName, isT, ↓dBreak, ↓dCont, ↓dPar, ↓endsD, List.set_cons_zero, List.set_cons_succ, List.replicate_succ, List.replicate_zero, su_same, ↓dLc_k, ↓dWhile_k, ↓dWipe, ↓dYes, ↓dIt, ↓dItN, ↓dSlice, ↓dPart, ↓dNoP, ↓dCut, ↓dSliceE, ↓dIxL, ↓dChain, ↓dIn, ↓dNotIn, ↓dInS, ↓mS0, ↓mS1, ↓dSta, ↓dEnd, ↓dFind, ↓dIsasc, ↓dIsdig, ↓dIsalp, ↓dIsaln, ↓dIslow, ↓dIspri, ↓okT, ↓okU, ↓ok2, ↓dFind4, ↓dSplit, ↓dJoin, ↓dJoinT, ↓dMulS, ↓dCatL, ↓dCatE, ↓dCatR, ↓dCatEE, ↓dStar, ↓dIntS, ↓dStr, ↓dMax, ↓dMin, ↓dII, ↓dFld_m, ↓dSetF_m, ↓dMeth_m, ↓dMake_k, ↓dGtup, ↓dGcons, ↓dGnil, true_and, and_true, Nat.add_zero, reduceCtorEq, ↓reduceIte, Bool.not_true, Bool.not_false, Bool.false_eq_true, if_true, if_false])
local macro_rules | `(tactic| walk_at "dl*") => `(tactic| simp -implicitDefEqProofs only [*, ↓dRepl, ↓dLstripC, ↓dRstripC, ↓dFind3, ↓dTabVIn, ↓dTabVIx, ↓dIntB, ↓dStrB, ↓dDisp, ↓dPairs, ↓dDNew, ↓dDGet, ↓dDIn, ↓dDPut, ↓dDGet1, ↓dDGet2, ↓dRepl0, ↓dFalls, ↓toKy, ↓kvsOf, ↓dFmt, ↓dJsE, ↓dJs, ↓dSumL, ↓dAllL, ↓dAnyL, ↓dPartn, ↓dStrip, ↓dStripC, ↓dLower, ↓dUpper, ↓dRfind, ↓dCount, ↓okL, ↓dGunl, ↓dLc2_k, ↓dStarL, ↓dListT, ↓dTupT, ↓dSetK, ↓dSortS, ↓dEqL, ↓dOnL, ↓dStrA, ↓dTabGet, ↓dTabIx, ↓dZipM, ↓dInD, ↓dTupRg, ↓dLstRg, ↓dInT, ↓dSetT, ↓dZipT, ↓dSetAll, ↓dEqO, ↓dMulT, ↓dSeq, ↓dIfS, ↓dTB, ↓dOp, ↓dVar, ↓dC, ↓dLt, ↓dLe, ↓dGt, ↓dGe, ↓rII, ↓rIIc, ↓dCB, ↓dCons, ↓dNil, ↓dLen, ↓dInt, ↓dRet, ↓dRetN, ↓dNext, ↓dIx, ↓dAt, ↓startD, List.map_cons, List.map_nil, List.cons_append, List.nil_append, List.append_nil, List.length_cons, List.length_nil, List.getElem?_cons_zero, List.getElem?_cons_succ, List.length_map, ↓dAsg, ↓dName, ↓dNew_k, ↓dLst, ↓dFor_k, ↓dRng1, ↓dRng2, ↓dCall_k, ↓dAdd, ↓dSub, ↓dMul, ↓dMod, ↓dFdiv, ↓dPow, ↓dEq, ↓dNe, ↓scd, ↓dIsN, ↓dNotN, ↓dIsB, ↓dNotB, ↓dUn, ↓dNeg, ↓dTru, ↓dTruS, ↓dAnd, ↓dOr, ↓dNot, ↓dNotV, ↓dAndV, ↓dOrV, ↓dIfE, ↓dTup, ↓dDrop, ↓dBM, ↓dBM0, ↓tyD, ↓dApp, ↓dSetL, ↓dAsL, ↓dOnL, ↓dOnN_k, ↓dIsi, ↓tyName, isT, ↓dBreak, ↓dCont, ↓dPar, ↓endsD, List.set_cons_zero, List.set_cons_succ, List.replicate_succ, List.replicate_zero, su_same, ↓dLc_k, ↓dWhile_k, ↓dWipe, ↓dYes, ↓dIt, ↓dItN, ↓dSlice, ↓dPart, ↓dNoP, ↓dCut, ↓dSliceE, ↓dIxL, ↓dChain, ↓dIn, ↓dNotIn, ↓dInS, ↓mS0, ↓mS1, ↓dSta, ↓dEnd, ↓dFind, ↓dIsasc, ↓dIsdig, ↓dIsalp, ↓dIsaln, ↓dIslow, ↓dIspri, ↓okT, ↓okU, ↓ok2, ↓dFind4, ↓dSplit, ↓dJoin, ↓dJoinT, ↓dMulS, ↓dCatL, ↓dCatE, ↓dCatR, ↓dCatEE, ↓dStar, ↓dIntS, ↓dStr, ↓dMax, ↓dMin, ↓dII, ↓dFld_m, ↓dSetF_m, ↓dMeth_m, ↓dMake_k, ↓dGtup, ↓dGcons, ↓dGnil, true_and, and_true, Nat.add_zero, reduceCtorEq, ↓reduceIte, Bool.not_true, Bool.not_false, Bool.false_eq_true, if_true, if_false])
theorem cut_llaw_pick : rd_llaw_pick = (dRet (dOp dIx (dVar 1) (dOp dMod (dCB dInt (dCons (dCall 2 sp_llaw_draw [] (dCons (dVar 0) (dCons (dC (.int 900)) dNil))) dNil)) (dCB dLen (dCons (dVar 1) dNil))))) := rfl
def llaw_free_k1 : SD := (dRet (dBM "str" dJoin (dC (.str [])) (dLc (dRng1 (dCons (dVar 1) dNil)) (dName 3) dYes (dOp dIx (dVar 2) (dOp dMod (dCB dInt (dCons (dCall 2 sp_llaw_draw [] (dCons (dVar 0) (dCons (dC (.int 1000)) dNil))) dNil)) (dC (.int 95)))) [3])))
theorem cut_llaw_free : rd_llaw_free = dSeq (dAsg (dOp dAdd (dOp dAdd (dOp dAdd (dOp dAdd (dC (.str [10, 32, 33, 34, 35, 36, 38, 39, 40, 41, 42, 43, 44, 45, 46, 47, 48, 49, 50, 51, 52, 53, 54, 55, 56, 57, 58, 59, 60, 61, 62, 63, 64])) (dBM0 "str" dUpper (dCall 0 sp_llaw_small [] dNil))) (dC (.str [91, 92, 93, 94, 95, 96]))) (dCall 0 sp_llaw_small [] dNil)) (dC (.str [123, 124, 125, 126]))) (dName 2)) (llaw_free_k1) := rfl
def llaw_cut_b1_2 : SD := (dAsg (dSlice (dVar 1) (dPart (dVar 4)) dNoP) (dName 1))
def llaw_cut_b1_1 : SD := dSeq (dDrop (dBM "list" dApp (dVar 2) (dCons (dSlice (dVar 1) dNoP (dPart (dVar 4))) dNil))) (llaw_cut_b1_2)
def llaw_cut_k2 : SD := (dRet (dNew (dCatE (dVar 2) (dLst (dCons (dVar 1) dNil)))))
def llaw_cut_k1 : SD := dSeq (dFor (dRng1 (dCons (dC (.int 12)) dNil)) (dName 3) (dSeq (dAsg (dCall 2 sp_llaw_draw [] (dCons (dVar 0) (dCons (dC (.int 30)) dNil))) (dName 4)) (llaw_cut_b1_1))) (llaw_cut_k2)
theorem cut_llaw_cut : rd_llaw_cut = dSeq (dAsg (dNew (dLst dNil)) (dName 2)) (llaw_cut_k1) := rfl

theorem Kb.trans {b : Addr} {S S1 S2 : Sh} (x : Kb b S S1) (y : Kb b S1 S2) : Kb b S S2 := ⟨y.1, fun p o hp e => y.2 p o hp (x.2 p o hp e)⟩
theorem Kb.refl {b : Addr} {S : Sh} (h : Box S b) : Kb b S S := ⟨h, fun _ _ _ e => e⟩
theorem Bx.kb {b : Addr} {S S' : Sh} (x : Bx b S S') : Kb b S S' := ⟨x.1, fun p o hp e => by rw [x.2.1 p hp]; exact e⟩
theorem Box.new {S : Sh} {b q : Addr} {o : MO} (h : Box S b) (hq : S q = none) : Box (su S q o) b := by
  obtain ⟨dg, gs, a, h1, h2, h3⟩ := h
  refine ⟨dg, gs, a, ?_, ?_, h3⟩
  · rw [su_ne (fun z => by rw [z, hq] at h1; cases h1)]; exact h1
  · rw [su_ne (fun z => by rw [z, hq] at h2; cases h2)]; exact h2
theorem Kb.new {S : Sh} {b q : Addr} {o : MO} (h : Box S b) (hq : S q = none) : Kb b S (su S q o) := ⟨h.new hq, fun p x hp e => by rw [su_ne (fun z => by rw [z, hq] at e; cases e)]; exact e⟩
theorem mod_at {α : Type} {xs : List α} (r : Int) (h : 1 ≤ xs.length) : ∃ x ∈ xs, atI xs (r % ((xs.length : Nat) : Int)) = some x := by
  obtain ⟨j, hj⟩ := Int.eq_ofNat_of_zero_le (Int.emod_nonneg r (show ((xs.length : Nat) : Int) ≠ 0 by omega))
  have hj2 : j < xs.length := by
    have := Int.emod_lt_of_pos r (show (0 : Int) < ((xs.length : Nat) : Int) by omega)
    omega
  exact ⟨xs[j], List.getElem_mem hj2, by rw [hj]; exact atI_nat (List.getElem?_eq_getElem hj2)⟩
theorem ok_llaw_pick : ∀ ds S Q, ds.length = 2 → sp_llaw_pick ds S Q → rd_llaw_pick (endsD Q) (startD N_llaw_pick ds) S := by
  rintro ds S Q - ⟨b, q, xs, rfl, hb, hq, hne, h1, h2, h⟩
  have sz := sz6
  have h' := Hd.mk h
  clear h
  rw [cut_llaw_pick]
  walk_at "dl"
  refine ⟨b, 900, rfl, by decide, hb, fun r S1 r0 r1 bx => ?_⟩
  have e1 : S1 q = some (.lst xs) := bx.kb.2 q _ hne hq
  obtain ⟨x, hx, hat⟩ := mod_at r h1
  show match S1 q with | some (MO.lst xs_1) => 0 < ((xs_1.length : Nat) : Int) ∧ (match S1 q with | some (MO.lst ds) => (match atI ds (r % ((xs_1.length : Nat) : Int)) with | some d => ∃ S', Sle S' S1 ∧ Q d S' | none => False) | _ => False) | _ => False
  rw [e1]
  refine ⟨by omega, ?_⟩
  dsimp only
  rw [hat]
  exact ⟨S1, Sle.refl S1, h'.a x hx S1 bx.kb⟩
theorem up_small : (Txt.upper (tx [97, 98, 99, 100, 101, 102, 103, 104, 105, 106, 107, 108, 109, 110, 111, 112, 113, 114, 115, 116, 117, 118, 119, 120, 121, 122])).cps.toList = [65, 66, 67, 68, 69, 70, 71, 72, 73, 74, 75, 76, 77, 78, 79, 80, 81, 82, 83, 84, 85, 86, 87, 88, 89, 90] := by decide +kernel
def dDG : ED := (dOp dAdd (dOp dAdd (dOp dAdd (dC (.str [48, 49, 50, 51, 52, 53, 54, 55, 56, 57])) (dCall 0 sp_llaw_small [] dNil)) (dBM0 "str" dUpper (dCall 0 sp_llaw_small [] dNil))) (dC (.str [43, 45])))
def dSG : ED := (dOp dAdd (dOp dAdd (dOp dAdd (dOp dAdd (dC (.str [10, 32, 33, 34, 35, 36, 38, 39, 40, 41, 42, 43, 44, 45, 46, 47, 48, 49, 50, 51, 52, 53, 54, 55, 56, 57, 58, 59, 60, 61, 62, 63, 64])) (dBM0 "str" dUpper (dCall 0 sp_llaw_small [] dNil))) (dC (.str [91, 92, 93, 94, 95, 96]))) (dCall 0 sp_llaw_small [] dNil)) (dC (.str [123, 124, 125, 126])))
theorem eDG {δ : Sl} {S : Sh} {Q : QD} (h : Q (.str DGS) S) : dDG δ S Q := by
  have sz := sz6
  refine ⟨rfl, rfl, by show 36 ≤ _; omega, rfl, rfl, rfl, by show 26 ≤ _; omega, ?_⟩
  show 36 + (Txt.upper (tx [97, 98, 99, 100, 101, 102, 103, 104, 105, 106, 107, 108, 109, 110, 111, 112, 113, 114, 115, 116, 117, 118, 119, 120, 121, 122])).cps.toList.length ≤ sizeLine ∧ (([48, 49, 50, 51, 52, 53, 54, 55, 56, 57] ++ [97, 98, 99, 100, 101, 102, 103, 104, 105, 106, 107, 108, 109, 110, 111, 112, 113, 114, 115, 116, 117, 118, 119, 120, 121, 122]) ++ (Txt.upper (tx [97, 98, 99, 100, 101, 102, 103, 104, 105, 106, 107, 108, 109, 110, 111, 112, 113, 114, 115, 116, 117, 118, 119, 120, 121, 122])).cps.toList).length + 2 ≤ sizeLine ∧ Q (.str ((([48, 49, 50, 51, 52, 53, 54, 55, 56, 57] ++ [97, 98, 99, 100, 101, 102, 103, 104, 105, 106, 107, 108, 109, 110, 111, 112, 113, 114, 115, 116, 117, 118, 119, 120, 121, 122]) ++ (Txt.upper (tx [97, 98, 99, 100, 101, 102, 103, 104, 105, 106, 107, 108, 109, 110, 111, 112, 113, 114, 115, 116, 117, 118, 119, 120, 121, 122])).cps.toList) ++ [43, 45])) S
  rw [up_small]
  exact ⟨by show 62 ≤ _; omega, by show 64 ≤ _; omega, h⟩
theorem eSG {δ : Sl} {S : Sh} {Q : QD} (h : Q (.str SG) S) : dSG δ S Q := by
  have sz := sz6
  refine ⟨rfl, rfl, rfl, by show 26 ≤ _; omega, ?_⟩
  dsimp only
  rw [up_small]
  exact ⟨by show 59 ≤ _; omega, by show 65 ≤ _; omega, rfl, rfl, by show 91 ≤ _; omega, by show 95 ≤ _; omega, h⟩

theorem ok_llaw_free : ∀ ds S Q, ds.length = 2 → sp_llaw_free ds S Q → rd_llaw_free (endsD Q) (startD N_llaw_free ds) S := by
  rintro ds S Q - ⟨b, m, rfl, m0, m1, hb, h⟩
  have sz := sz6
  have h' := Hd.mk h
  clear h
  rw [cut_llaw_free]
  show dSG [some (.rf b), some (.int m), none, none] S (fun d S1 => llaw_free_k1 (endsD Q) [some (.rf b), some (.int m), some d, none] S1)
  refine eSG ?_
  unfold llaw_free_k1
  walk_at "dl"
  refine ⟨by omega, by omega, ?_⟩
  refine comp_allP (fun _ => True) (fun d => ∃ c, d = .str [c] ∧ c ∈ SG) (fun S' => Kb b S S') (fun _ _ => trivial) (fun x _ S2 k2 R hR => ?_) (rng 0 m.toNat) [] S (fun _ _ => trivial) (Kb.refl hb) (fun _ h => by cases h) (by rw [rng_len, List.length_nil]; omega) fun ds S' e1 e2 k2 => ?_
  · refine ⟨rfl, b, 1000, rfl, by decide, k2.1, fun r S3 r0 r1 bx => ?_⟩
    obtain ⟨c, hc, hat⟩ := mod_at (xs := SG) r (by decide)
    show (0 : Int) < 95 ∧ 95 ≤ sizeLine ∧ (match atI SG (r % 95) with | some c => R (.str [c]) S3 | none => False)
    rw [show atI SG (r % 95) = some c from hat]
    exact ⟨by decide, by omega, hR _ _ ⟨c, rfl, hc⟩ (k2.trans bx.kb)⟩
  · obtain ⟨cs, ec, oc⟩ : ∃ cs : List Nat, ds = (cs.map fun c => [c]).map D.str ∧ ∀ c ∈ cs, c ∈ SG := by
      clear e1
      induction ds with
      | nil => exact ⟨[], rfl, fun _ h => by cases h⟩
      | cons d ds ih =>
        obtain ⟨cs, rfl, oc⟩ := ih fun x hx => e2 x (List.mem_cons_of_mem _ hx)
        obtain ⟨c, rfl, hc⟩ := e2 d (List.mem_cons_self ..)
        exact ⟨c :: cs, rfl, fun j hj => (List.mem_cons.mp hj).elim (fun z => by rw [z]; exact hc) (oc j)⟩
    subst ec
    rw [strsOf_map]
    rw [List.length_map, List.length_map, rng_len, List.length_nil] at e1
    have ef : (cs.map fun c => [c]).flatten = cs := by
      clear e1 e2 oc
      induction cs with
      | nil => rfl
      | cons c cs ih => rw [List.map_cons, List.flatten_cons, ih]; rfl
    show joinOk [] (cs.map fun c => [c]) ∧ ∃ S2, Sle S2 S' ∧ Q (.str (TL.joinL [] (cs.map fun c => [c]))) S2
    rw [join_nil, ef]
    refine ⟨?_, S', Sle.refl S', h'.a cs S' oc (by omega) k2⟩
    unfold joinOk
    rw [sum_flat, ef, List.length_nil, Nat.mul_zero]
    omega
def Bd (dg b : Addr) (S : Sh) : Prop := ∃ (gs : List Int) (a : Int), S b = some (.lst [.rf dg, .int a]) ∧ S dg = some (.lst (gs.map D.int)) ∧ Dig gs ∧ 0 ≤ a ∧ dg ≠ b
theorem Bd.box {dg b : Addr} {S : Sh} (h : Bd dg b S) : Box S b := let ⟨gs, a, h⟩ := h; ⟨dg, gs, a, h⟩
theorem Bd.step {dg b : Addr} {S S' : Sh} (h : Bd dg b S) (bx : Bx b S S') : Bd dg b S' := by
  obtain ⟨gs, a, h1, -⟩ := h
  obtain ⟨⟨dg2, gs2, a2, k1, k2, k3, k4, k5⟩, -, dg3, x, y, e1, e2⟩ := bx
  rw [h1] at e1
  cases e1
  rw [k1] at e2
  cases e2
  exact ⟨gs2, _, k1, k2, k3, k4, k5⟩
theorem cut_no {β : Type} (r : List β) (n : Nat) : DL.cutD r none (some ((n : Nat) : Int)) = r.take n := by
  unfold DL.cutD
  rw [HT.sIx_nat]
  show (r.drop 0).take (min n r.length - 0) = r.take n
  rw [List.drop_zero, Nat.sub_zero]
  by_cases h : n ≤ r.length
  · rw [Nat.min_eq_left h]
  · rw [Nat.min_eq_right (by omega), List.take_length, List.take_of_length_le (by omega)]
theorem cut_on {β : Type} (r : List β) (n : Nat) : DL.cutD r (some ((n : Nat) : Int)) none = r.drop n := by
  unfold DL.cutD
  rw [HT.sIx_nat]
  show (r.drop (min n r.length)).take (r.length - min n r.length) = r.drop n
  rw [List.take_of_length_le (by rw [List.length_drop]; omega)]
  by_cases h : n ≤ r.length
  · rw [Nat.min_eq_left h]
  · rw [Nat.min_eq_right (by omega), List.drop_length, List.drop_of_length_le (by omega)]
theorem ok_llaw_cut : ∀ ds S Q, ds.length = 2 → sp_llaw_cut ds S Q → rd_llaw_cut (endsD Q) (startD N_llaw_cut ds) S := by
  rintro ds S Q - ⟨b, row, rfl, hb, hl, h⟩
  have sz := sz6
  have h' := Hd.mk h
  clear h
  rw [cut_llaw_cut]
  walk_at "dl"
  refine ⟨by omega, fun q hq => ?_⟩
  unfold llaw_cut_k1
  walk_at "dl"
  refine ⟨by decide, by decide, ?_⟩
  obtain ⟨dg, gs, a, g1, g2, g3, g4, g5⟩ := hb
  have hqb : q ≠ b := fun z => by rw [← z, hq] at g1; cases g1
  have hqd : q ≠ dg := fun z => by rw [← z, hq] at g2; cases g2
  refine loop_inv (fun rest δ S' => ∃ (ls : List (List Nat)) (r : List Nat) (x3 x4 : Option D), ls.flatten ++ r = row ∧ ls.length + rest.length = 12 ∧ Bd dg b S' ∧ S' q = some (.lst (ls.map D.str)) ∧ (∀ p o, p ≠ b → S p = some o → S' p = some o) ∧ δ = [some (.rf b), some (.str r), some (.rf q), x3, x4]) ?_ (fun _ _ _ _ => trivial) ?_ _ _ _ ⟨[], row, none, none, rfl, rfl, ⟨gs, a, by rw [su_ne (Ne.symm hqb)]; exact g1, by rw [su_ne (Ne.symm hqd)]; exact g2, g3, g4, g5⟩, su_same, fun p o hp e => by rw [su_ne (fun z => by rw [z, hq] at e; cases e)]; exact e, rfl⟩
  · rintro x xs δ S' N ⟨ls, r, x3, x4, e, el, bd, hq1, kp, rfl⟩ hN
    rw [List.length_cons] at el
    have hrl : r.length ≤ row.length := by rw [← e, List.length_append]; omega
    refine ⟨rfl, b, 30, rfl, by decide, bd.box, fun z S2 z0 z1 bx => ?_⟩
    show llaw_cut_b1_1 _ [some (.rf b), some (.str r), some (.rf q), some x, some (.int z)] S2
    have e2 : S2 q = some (.lst (ls.map D.str)) := by rw [bx.2.1 q hqb]; exact hq1
    obtain ⟨n, rfl⟩ := Int.eq_ofNat_of_zero_le z0
    unfold llaw_cut_b1_1
    have c1 : DL.cutD r none (some ((n : Nat) : Int)) = r.take n := cut_no r n
    have c2 : DL.cutD r (some ((n : Nat) : Int)) none = r.drop n := cut_on r n
    show (("list" = "list" ∧ ∃ ds, S2 q = some (.lst ds)) ∧ r.length ≤ sizeLine ∧ (match S2 q with | some (.lst xs) => xs.length < sizeLine ∧ llaw_cut_b1_2 _ [some (.rf b), some (.str r), some (.rf q), some x, some (.int ((n : Nat) : Int))] (su S2 q (.lst (xs ++ [.str (DL.cutD r none (some ((n : Nat) : Int)))]))) | _ => False))
    rw [e2, c1]
    refine ⟨⟨rfl, _, rfl⟩, by omega, by rw [List.length_map]; omega, ?_⟩
    unfold llaw_cut_b1_2
    show r.length ≤ sizeLine ∧ N [some (.rf b), some (.str (DL.cutD r (some ((n : Nat) : Int)) none)), some (.rf q), some x, some (.int ((n : Nat) : Int))] _
    rw [c2]
    refine ⟨by omega, hN _ _ ⟨ls ++ [r.take n], r.drop n, some x, some (.int ((n : Nat) : Int)), ?_, by rw [List.length_append, List.length_singleton]; omega, ?_, by rw [su_same, List.map_append]; rfl, fun p o hp ep => ?_, rfl⟩⟩
    · rw [List.flatten_append, List.append_assoc]
      show ls.flatten ++ ((r.take n ++ []) ++ r.drop n) = row
      rw [List.append_nil, List.take_append_drop]
      exact e
    · obtain ⟨gs', a', b1, b2, b3, b4, b5⟩ := bd.step bx
      exact ⟨gs', a', by rw [su_ne (Ne.symm hqb)]; exact b1, by rw [su_ne (Ne.symm hqd)]; exact b2, b3, b4, b5⟩
    · rw [su_ne (fun z => by rw [z, hq] at ep; cases ep), bx.2.1 p hp]
      exact kp p o hp ep
  · rintro δ S' ⟨ls, r, x3, x4, e, el, bd, hq1, kp, rfl⟩
    rw [List.length_nil] at el
    show llaw_cut_k2 (endsD Q) [some (.rf b), some (.str r), some (.rf q), x3, x4] S'
    unfold llaw_cut_k2
    show 1 ≤ sizeLine ∧ (match S' q with | some (.lst xs) => xs.length + 1 ≤ sizeLine ∧ ∀ q2, S' q2 = none → (endsD Q).rt (.rf q2) (su S' q2 (.lst (xs ++ [.str r]))) | _ => False)
    rw [hq1]
    refine ⟨by omega, by rw [List.length_map]; omega, fun q2 hq2 => ⟨_, Sle.refl _, ?_⟩⟩
    have := h'.a (ls ++ [r]) S' (by rw [List.flatten_append]; show ls.flatten ++ (r ++ []) = row; rw [List.append_nil]; exact e) (by rw [List.length_append, List.length_singleton]; omega) ⟨bd.box, kp⟩ q2 hq2
    unfold tls at this
    rw [List.map_append] at this
    exact this
end LW

set_option Elab.async false
set_option linter.all false
set_option maxRecDepth 100000
set_option maxHeartbeats 4000000
set_option exponentiation.threshold 100
namespace LW
open PySem PySem.Spec L2 DL
local macro_rules | `(tactic| walk_at "dl") => `(tactic| simp -implicitDefEqProofs only [↓dRepl, ↓dLstripC, ↓dRstripC, ↓dFind3, ↓dTabVIn, ↓dTabVIx, ↓dIntB, ↓dStrB, ↓dDisp, ↓dPairs, ↓dDNew, ↓dDGet, ↓dDIn, ↓dDPut, ↓dDGet1, ↓dDGet2, ↓dRepl0, ↓dFalls, ↓toKy, ↓kvsOf, ↓dFmt, ↓dJsE, ↓dJs, ↓dSumL, ↓dAllL, ↓dAnyL, ↓dPartn, ↓dStrip, ↓dStripC, ↓dLower, ↓dUpper, ↓dRfind, ↓dCount, ↓okL, ↓dGunl, ↓dLc2_k, ↓dStarL, ↓dListT, ↓dTupT, ↓dSetK, ↓dSortS, ↓dEqL, ↓dOnL, ↓dStrA, ↓dTabGet, ↓dTabIx, ↓dZipM, ↓dInD, ↓dTupRg, ↓dLstRg, ↓dInT, ↓dSetT, ↓dZipT, ↓dSetAll, ↓dEqO, ↓dMulT, ↓dSeq, ↓dIfS, ↓dTB, ↓dOp, ↓dVar, ↓dC, ↓dLt, ↓dLe, ↓dGt, ↓dGe, ↓rII, ↓rIIc, ↓dCB, ↓dCons, ↓dNil, ↓dLen, ↓dInt, ↓dRet, ↓dRetN, ↓dNext, ↓dIx, ↓dAt, ↓startD, List.map_cons, List.map_nil, List.cons_append, List.nil_append, List.append_nil, List.length_cons, List.length_nil, List.getElem?_cons_zero, List.getElem?_cons_succ, List.length_map, ↓dAsg, ↓dName, ↓dNew_k, ↓dLst, ↓dFor_k, ↓dRng1, ↓dRng2, ↓dCall_k, ↓dAdd, ↓dSub, ↓dMul, ↓dMod, ↓dFdiv, ↓dPow, ↓dEq, ↓dNe, ↓scd, ↓dIsN, ↓dNotN, ↓dIsB, ↓dNotB, ↓dUn, ↓dNeg, ↓dTru, ↓dTruS, ↓dAnd, ↓dOr, ↓dNot, ↓dNotV, ↓dAndV, ↓dOrV, ↓dIfE, ↓dTup, ↓dDrop, ↓dBM, ↓dBM0, ↓tyD, ↓dApp, ↓dSetL, ↓dAsL, ↓dOnL, ↓dOnN_k, ↓dIsi, ↓tyName, isT, ↓dBreak, ↓dCont, ↓dPar, ↓endsD, List.set_cons_zero, List.set_cons_succ, List.replicate_succ, List.replicate_zero, su_same, ↓dLc_k, ↓dWhile_k, ↓dWipe, ↓dYes, ↓dIt, ↓dItN, ↓dSlice, ↓dPart, ↓dNoP, ↓dCut, ↓dSliceE, ↓dIxL, ↓dChain, ↓dIn, ↓dNotIn, ↓dInS, ↓mS0, ↓mS1, ↓dSta, ↓dEnd, ↓dFind, ↓dIsasc, ↓dIsdig, ↓dIsalp, ↓dIsaln, ↓dIslow, ↓dIspri, ↓okT, ↓okU, ↓ok2, ↓dFind4, ↓dSplit, ↓dJoin, ↓dJoinT, ↓dMulS, ↓dCatL, ↓dCatE, ↓dCatR, ↓dCatEE, ↓dStar, ↓dIntS, ↓dStr, ↓dMax, ↓dMin, ↓dII, ↓dFld_m, ↓dSetF_m, ↓dMeth_m, ↓dMake_k, ↓dGtup, ↓dGcons, ↓dGnil, true_and, and_true, Nat.add_zero, reduceCtorEq, ↓reduceIte, Bool.not_true, Bool.not_false, Bool.false_eq_true, if_true, if_false])
local macro_rules | `(tactic| walk_at "dl*") => `(tactic| simp -implicitDefEqProofs only [*, ↓dRepl, ↓dLstripC, ↓dRstripC, ↓dFind3, ↓dTabVIn, ↓dTabVIx, ↓dIntB, ↓dStrB, ↓dDisp, ↓dPairs, ↓dDNew, ↓dDGet, ↓dDIn, ↓dDPut, ↓dDGet1, ↓dDGet2, ↓dRepl0, ↓dFalls, ↓toKy, ↓kvsOf, ↓dFmt, ↓dJsE, ↓dJs, ↓dSumL, ↓dAllL, ↓dAnyL, ↓dPartn, ↓dStrip, ↓dStripC, ↓dLower, ↓dUpper, ↓dRfind, ↓dCount, ↓okL, ↓dGunl, ↓dLc2_k, ↓dStarL, ↓dListT, ↓dTupT, ↓dSetK, ↓dSortS, ↓dEqL, ↓dOnL, ↓dStrA, ↓dTabGet, ↓dTabIx, ↓dZipM, ↓dInD, ↓dTupRg, ↓dLstRg, ↓dInT, ↓dSetT, ↓dZipT, ↓dSetAll, ↓dEqO, ↓dMulT, ↓dSeq, ↓dIfS, ↓dTB, ↓dOp, ↓dVar, ↓dC, ↓dLt, ↓dLe, ↓dGt, ↓dGe, ↓rII, ↓rIIc, ↓dCB, ↓dCons, ↓dNil, ↓dLen, ↓dInt, ↓dRet, ↓dRetN, ↓dNext, ↓dIx, ↓dAt, ↓startD, List.map_cons, List.map_nil, List.cons_append, List.nil_append, List.append_nil, List.length_cons, List.length_nil, List.getElem?_cons_zero, List.getElem?_cons_succ, List.length_map, ↓dAsg, ↓dName, ↓dNew_k, ↓dLst, ↓dFor_k, ↓dRng1, ↓dRng2, ↓dCall_k, ↓dAdd, ↓dSub, ↓dMul, ↓dMod, ↓dFdiv, ↓dPow, ↓dEq, ↓dNe, ↓scd, ↓dIsN, ↓dNotN, ↓dIsB, ↓dNotB, ↓dUn, ↓dNeg, ↓dTru, ↓dTruS, ↓dAnd, ↓dOr, ↓dNot, ↓dNotV, ↓dAndV, ↓dOrV, ↓dIfE, ↓dTup, ↓dDrop, ↓dBM, ↓dBM0, ↓tyD, ↓dApp, ↓dSetL, ↓dAsL, ↓dOnL, ↓dOnN_k, ↓dIsi, ↓tyName, isT, ↓dBreak, ↓dCont, ↓dPar, ↓endsD, List.set_cons_zero, List.set_cons_succ, List.replicate_succ, List.replicate_zero, su_same, ↓dLc_k, ↓dWhile_k, ↓dWipe, ↓dYes, ↓dIt, ↓dItN, ↓dSlice, ↓dPart, ↓dNoP, ↓dCut, ↓dSliceE, ↓dIxL, ↓dChain, ↓dIn, ↓dNotIn, ↓dInS, ↓mS0, ↓mS1, ↓dSta, ↓dEnd, ↓dFind, ↓dIsasc, ↓dIsdig, ↓dIsalp, ↓dIsaln, ↓dIslow, ↓dIspri, ↓okT, ↓okU, ↓ok2, ↓dFind4, ↓dSplit, ↓dJoin, ↓dJoinT, ↓dMulS, ↓dCatL, ↓dCatE, ↓dCatR, ↓dCatEE, ↓dStar, ↓dIntS, ↓dStr, ↓dMax, ↓dMin, ↓dII, ↓dFld_m, ↓dSetF_m, ↓dMeth_m, ↓dMake_k, ↓dGtup, ↓dGcons, ↓dGnil, true_and, and_true, Nat.add_zero, reduceCtorEq, ↓reduceIte, Bool.not_true, Bool.not_false, Bool.false_eq_true, if_true, if_false])
def llaw_code_b3_3 : SD := (dFor (dRng1 (dCons (dOp dAdd (dCB dLen (dCons (dVar 5) dNil)) (dC (.int 1))) dNil)) (dName 8) (dAsg (dOp dAdd (dVar 3) (dOp dIx (dVar 1) (dOp dMod (dCB dInt (dCons (dOp dFdiv (dVar 6) (dIxL (dLst (dCons (dC (.int 1)) (dCons (dC (.int 64)) (dCons (dC (.int 4096)) (dCons (dC (.int 262144)) dNil))))) (dOp dSub (dCB dLen (dCons (dVar 5) dNil)) (dVar 8)))) dNil)) (dC (.int 64))))) (dName 3)))
def llaw_code_b3_2 : SD := dSeq (dFor (dIt (dVar 5)) (dName 7) (dAsg (dOp dAdd (dOp dMul (dVar 6) (dC (.int 95))) (dBM "str" dFind (dVar 2) (dCons (dVar 7) dNil))) (dName 6))) (llaw_code_b3_3)
def llaw_code_b3_1 : SD := dSeq (dAsg (dC (.int 0)) (dName 6)) (llaw_code_b3_2)
def llaw_code_k4 : SD := (dRet (dOnL (fun ds S Q => Q (.tup ds) S) (dLc (dRng3 (dCons (dC (.int 0)) (dCons (dCB dLen (dCons (dVar 3) dNil)) (dCons (dC (.int 76)) dNil)))) (dName 4) dYes (dSlice (dVar 3) (dPart (dVar 4)) (dPart (dOp dAdd (dVar 4) (dC (.int 76))))) [4])))
def llaw_code_k3 : SD := dSeq (dFor (dRng3 (dCons (dC (.int 0)) (dCons (dCB dLen (dCons (dVar 0) dNil)) (dCons (dC (.int 3)) dNil)))) (dName 4) (dSeq (dAsg (dSlice (dVar 0) (dPart (dVar 4)) (dPart (dOp dAdd (dVar 4) (dC (.int 3))))) (dName 5)) (llaw_code_b3_1))) (llaw_code_k4)
def llaw_code_k2 : SD := dSeq (dAsg (dC (.str [])) (dName 3)) (llaw_code_k3)
def llaw_code_k1 : SD := dSeq (dAsg (dOp dAdd (dOp dAdd (dOp dAdd (dOp dAdd (dC (.str [10, 32, 33, 34, 35, 36, 38, 39, 40, 41, 42, 43, 44, 45, 46, 47, 48, 49, 50, 51, 52, 53, 54, 55, 56, 57, 58, 59, 60, 61, 62, 63, 64])) (dBM0 "str" dUpper (dCall 0 sp_llaw_small [] dNil))) (dC (.str [91, 92, 93, 94, 95, 96]))) (dCall 0 sp_llaw_small [] dNil)) (dC (.str [123, 124, 125, 126]))) (dName 2)) (llaw_code_k2)
theorem cut_llaw_code : rd_llaw_code = dSeq (dAsg (dOp dAdd (dOp dAdd (dOp dAdd (dC (.str [48, 49, 50, 51, 52, 53, 54, 55, 56, 57])) (dCall 0 sp_llaw_small [] dNil)) (dBM0 "str" dUpper (dCall 0 sp_llaw_small [] dNil))) (dC (.str [43, 45]))) (dName 1)) (llaw_code_k1) := rfl

theorem pd_map (b : Nat) (tbl : List Nat) : ∀ (n w : Nat), pd b tbl (n + 1) w [] = (List.range (n + 1)).map fun k => tbl.getD (w / b ^ (n - k) % b) 0
  | 0, w => by
    show [tbl.getD (w % b) 0] = [tbl.getD (w / b ^ 0 % b) 0]
    rw [Nat.pow_zero, Nat.div_one]
  | n + 1, w => by
    rw [pd_snoc, pd_map b tbl n (w / b), List.range_succ (n := n + 1), List.map_append]
    congr 1
    · refine List.map_congr_left fun k hk => ?_
      have hk := List.mem_range.mp hk
      rw [Nat.div_div_eq_div_mul, show n + 1 - k = (n - k) + 1 by omega, Nat.pow_succ, Nat.mul_comm b]
    · show _ = [tbl.getD (w / b ^ (n + 1 - (n + 1)) % b) 0]
      rw [Nat.sub_self, Nat.pow_zero, Nat.div_one]
theorem at_pow : ∀ m : Nat, m ≤ 3 → atI [D.int 1, D.int 64, D.int 4096, D.int 262144] ((m : Nat) : Int) = some (.int ((64 ^ m : Nat) : Int)) := by
  intro m hm
  have : m = 0 ∨ m = 1 ∨ m = 2 ∨ m = 3 := by omega
  rcases this with e | e | e | e <;> subst e <;> rfl
theorem ok_llaw_code : ∀ ds S Q, ds.length = 1 → sp_llaw_code ds S Q → rd_llaw_code (endsD Q) (startD N_llaw_code ds) S := by
  rintro ds S Q - ⟨t, rfl, ht, hl, h⟩
  have sz := sz6
  have h' := Hd.mk h
  clear h
  rw [cut_llaw_code]
  show dDG [some (.str t), none, none, none, none, none, none, none, none] S (fun d S1 => llaw_code_k1 (endsD Q) [some (.str t), some d, none, none, none, none, none, none, none] S1)
  refine eDG ?_
  unfold llaw_code_k1
  show dSG [some (.str t), some (.str DGS), none, none, none, none, none, none, none] S (fun d S1 => llaw_code_k2 (endsD Q) [some (.str t), some (.str DGS), some d, none, none, none, none, none, none] S1)
  refine eSG ?_
  unfold llaw_code_k2
  show llaw_code_k3 (endsD Q) [some (.str t), some (.str DGS), some (.str SG), some (.str []), none, none, none, none, none] S
  unfold llaw_code_k3
  obtain ⟨-, r2⟩ := row_len ht
  generalize hrow : (chs 3 t).flatMap gD = row at *
  walk_at "dl"
  refine ⟨by omega, ⟨by decide, by decide, by decide, by omega, by decide, by omega⟩, ?_⟩
  refine loop_inv (fun rest δ S2 => ∃ (p s rw' : List Nat) (x4 x5 x6 x7 x8 : Option D), Ac 3 t rest p s ∧ rw' ++ (chs 3 s).flatMap gD = row ∧ S2 = S ∧ δ = [some (.str t), some (.str DGS), some (.str SG), some (.str rw'), x4, x5, x6, x7, x8]) ?_ (fun _ _ _ _ => trivial) ?_ _ _ _ ⟨[], t, [], none, none, none, none, none, Ac.start (n := 3) (by decide) t, by rw [List.nil_append]; exact hrow, rfl, rfl⟩
  · rintro x xs' δ S2 N ⟨p, s, w0, x4, x5, x6, x7, x8, hA, er, rfl, rfl⟩ hN
    obtain ⟨hs, rfl, hA', hcc⟩ := hA.cons (by decide)
    have hp := hA.1
    have hps := congrArg List.length hp
    rw [List.length_append] at hps
    have hc := sl_chs hp 3 (b := ((p.length : Nat) : Int) + 3) rfl
    have hg : ∀ c ∈ s.take 3, c ∈ SG := fun c hc => ht c (by rw [hp]; exact List.mem_append_right _ (List.mem_of_mem_take hc))
    have hgl : (s.take 3).length ≤ 3 := by rw [List.length_take]; omega
    rw [hcc, List.flatMap_cons] at er
    have erl := congrArg List.length er
    rw [List.length_append, List.length_append, gD_len] at erl
    show t.length ≤ sizeLine ∧ llaw_code_b3_1 _ [some (.str t), some (.str DGS), some (.str SG), some (.str w0), some (.int ((p.length : Nat) : Int)), some (.str (DL.cutD t (some ((p.length : Nat) : Int)) (some (((p.length : Nat) : Int) + 3)))), x6, x7, x8] S2
    rw [hc]
    refine ⟨by omega, ?_⟩
    generalize hgg : s.take 3 = g at *
    unfold llaw_code_b3_1
    show llaw_code_b3_2 _ [some (.str t), some (.str DGS), some (.str SG), some (.str w0), some (.int ((p.length : Nat) : Int)), some (.str g), some (.int 0), x7, x8] S2
    unfold llaw_code_b3_2
    walk_at "dl"
    refine loop_inv (fun rest δ S' => ∃ (l r : List Nat) (x7 : Option D), g = l ++ r ∧ rest = r.map (fun c => D.str [c]) ∧ S' = S2 ∧ δ = [some (.str t), some (.str DGS), some (.str SG), some (.str w0), some (.int ((p.length : Nat) : Int)), some (.str g), some (.int ((val 95 SG l : Nat) : Int)), x7, x8]) ?_ (fun _ _ _ _ => trivial) ?_ _ _ _ ⟨[], g, x7, rfl, rfl, rfl, rfl⟩
    · rintro x xs δ S' N' ⟨l, r, x7, e, er2, rfl, rfl⟩ hN'
      cases r with
      | nil => cases er2
      | cons c r =>
        rw [List.map_cons] at er2
        obtain ⟨rfl, rfl⟩ := List.cons.inj er2
        have hc : c ∈ SG := hg c (by rw [e]; simp)
        refine ⟨.inr ⟨by decide, by decide⟩, rfl, trivial, ?_⟩
        show N' [some (.str t), some (.str DGS), some (.str SG), some (.str w0), some (.int ((p.length : Nat) : Int)), some (.str g), some (.int (((val 95 SG l : Nat) : Int) * 95 + Txt.find (tx SG) (tx [c]))), some (.str [c]), x8] S'
        rw [sg_find c hc]
        refine hN' _ _ ⟨l ++ [c], r, some (.str [c]), by rw [e]; simp, rfl, rfl, ?_⟩
        rw [val_snoc, show ((95 * val 95 SG l + ix SG c : Nat) : Int) = ((val 95 SG l : Nat) : Int) * 95 + ((ix SG c : Nat) : Int) by omega]
    · rintro δ S' ⟨l, r, x7, e, er2, rfl, rfl⟩
      have r0 : r = [] := by cases r with | nil => rfl | cons c r => cases er2
      subst r0
      rw [List.append_nil] at e
      subst e
      show llaw_code_b3_3 _ [some (.str t), some (.str DGS), some (.str SG), some (.str w0), some (.int ((p.length : Nat) : Int)), some (.str g), some (.int ((val 95 SG g : Nat) : Int)), x7, x8] S'
      have hpd := pd_map 64 DGS g.length (val 95 SG g)
      have hgd : gD g = (List.range (g.length + 1)).map fun k => DGS.getD (val 95 SG g / 64 ^ (g.length - k) % 64) 0 := hpd
      generalize val 95 SG g = w at *
      unfold llaw_code_b3_3
      walk_at "dl"
      refine ⟨by omega, by omega, by omega, ?_⟩
      refine loop_pre (fun pre δ S3 => ∃ x8, S3 = S' ∧ δ = [some (.str t), some (.str DGS), some (.str SG), some (.str (w0 ++ (List.range pre.length).map fun k => DGS.getD (w / 64 ^ (g.length - k) % 64) 0)), some (.int ((p.length : Nat) : Int)), some (.str g), some (.int ((w : Nat) : Int)), x7, x8]) ⟨x8, rfl, by rw [List.length_nil, List.range_zero, List.map_nil, List.append_nil]⟩ ?_ (fun _ _ _ _ => trivial) ?_
      · rintro pre y post e3 δ S3 N3 ⟨x8, rfl, rfl⟩ hN3
        obtain ⟨rfl, hlt⟩ := rng_split e3
        have hk : pre.length ≤ g.length := by omega
        have hm := at_pow (g.length - pre.length) (by omega)
        have hl3 : (w0 ++ (List.range pre.length).map fun k => DGS.getD (w / 64 ^ (g.length - k) % 64) 0).length = w0.length + pre.length := by rw [List.length_append, List.length_map, List.length_range]
        have nx := hN3 [some (.str t), some (.str DGS), some (.str SG), some (.str (w0 ++ (List.range (pre ++ [D.int (0 + ((pre.length : Nat) : Int))]).length).map fun k => DGS.getD (w / 64 ^ (g.length - k) % 64) 0)), some (.int ((p.length : Nat) : Int)), some (.str g), some (.int ((w : Nat) : Int)), x7, some (.int (0 + ((pre.length : Nat) : Int)))] S3 ⟨_, rfl, rfl⟩
        rw [List.length_append, List.length_singleton, List.range_succ, List.map_append, ← List.append_assoc, List.map_cons, List.map_nil] at nx
        have hp0 : 0 < 64 ^ (g.length - pre.length) := Nat.pow_pos (by decide)
        have hp1 : 64 ^ (g.length - pre.length) ≤ 64 ^ 3 := Nat.pow_le_pow_right (by decide) (by omega)
        have hat := at_tbl (tbl := DGS) (i := w / 64 ^ (g.length - pre.length) % 64) (Nat.mod_lt _ (by decide))
        generalize hW : (w0 ++ (List.range pre.length).map fun k => DGS.getD (w / 64 ^ (g.length - k) % 64) 0) = W at *
        show 4 ≤ sizeLine ∧ g.length ≤ sizeLine ∧ (match atI [D.int 1, D.int 64, D.int 4096, D.int 262144] (((g.length : Nat) : Int) - (0 + ((pre.length : Nat) : Int))) with | some d => (match D.int ((w : Nat) : Int), d with | .int i, .int j => CDiv i j ∧ 0 < (64 : Int) ∧ 64 ≤ sizeLine ∧ (match atI DGS (i / j % 64) with | some c => W.length + 1 ≤ sizeLine ∧ N3 [some (.str t), some (.str DGS), some (.str SG), some (.str (W ++ [c])), some (.int ((p.length : Nat) : Int)), some (.str g), some (.int ((w : Nat) : Int)), x7, some (.int (0 + ((pre.length : Nat) : Int)))] S3 | none => False) | _, _ => False) | none => False)
        rw [show ((g.length : Nat) : Int) - (0 + ((pre.length : Nat) : Int)) = ((g.length - pre.length : Nat) : Int) by omega, hm]
        generalize 64 ^ (g.length - pre.length) = z at *
        dsimp only
        rw [show ((w : Nat) : Int) / ((z : Nat) : Int) = ((w / z : Nat) : Int) from (Int.natCast_ediv _ _).symm]
        rw [show ((w / z : Nat) : Int) % 64 = ((w / z % 64 : Nat) : Int) by omega, hat]
        have hz3 : z ≤ 262144 := hp1
        exact ⟨by omega, by omega, ⟨by omega, by omega⟩, by decide, by omega, by omega, nx⟩
      · rintro δ S3 ⟨x8, rfl, rfl⟩
        rw [rng_len, show (((g.length : Nat) : Int) + 1).toNat = g.length + 1 by omega, ← hgd]
        exact hN _ _ ⟨_, _, w0 ++ gD g, _, _, _, _, _, hA', by rw [List.append_assoc]; exact er, rfl, rfl⟩
  · rintro δ S2 ⟨p, s, w0, x4, x5, x6, x7, x8, hA, er, rfl, rfl⟩
    have s0 := hA.nil (by decide)
    subst s0
    rw [chs_nil, List.flatMap_nil, List.append_nil] at er
    subst er
    show llaw_code_k4 (endsD Q) [some (.str t), some (.str DGS), some (.str SG), some (.str w0), x4, x5, x6, x7, x8] S2
    unfold llaw_code_k4
    walk_at "dl"
    refine ⟨by omega, ⟨by decide, by decide, by decide, by omega, by decide, by omega⟩, ?_⟩
    refine comp_chs (n := 76) (by decide) (t := w0) (fun g => .str g) trivial (fun p s e hs R hR => ?_) _ [] [] w0 (Ac.start (n := 76) (by decide) w0) ?_ ?_
    · have hc := sl_chs e 76 (b := ((p.length : Nat) : Int) + 76) rfl
      show w0.length ≤ sizeLine ∧ R (.str (DL.cutD w0 (some ((p.length : Nat) : Int)) (some (((p.length : Nat) : Int) + 76)))) S2
      rw [hc]
      exact ⟨by omega, hR⟩
    · have := chs_le (n := 76) (by decide) w0
      rw [List.length_nil]
      omega
    rw [List.nil_append]
    refine ⟨S2, Sle.refl S2, ?_⟩
    have := h'.a
    unfold code at this
    rw [hrow] at this
    exact this
end LW

set_option Elab.async false
set_option linter.all false
set_option maxRecDepth 100000
set_option maxHeartbeats 4000000
set_option exponentiation.threshold 100
namespace LW
open PySem PySem.Spec L2 DL
local macro_rules | `(tactic| walk_at "dl") => `(tactic| simp -implicitDefEqProofs only [↓dRepl, ↓dLstripC, ↓dRstripC, ↓dFind3, ↓dTabVIn, ↓dTabVIx, ↓dIntB, ↓dStrB, ↓dDisp, ↓dPairs, ↓dDNew, ↓dDGet, ↓dDIn, ↓dDPut, ↓dDGet1, ↓dDGet2, ↓dRepl0, ↓dFalls, ↓toKy, ↓kvsOf, ↓dFmt, ↓dJsE, ↓dJs, ↓dSumL, ↓dAllL, ↓dAnyL, ↓dPartn, ↓dStrip, ↓dStripC, ↓dLower, ↓dUpper, ↓dRfind, ↓dCount, ↓okL, ↓dGunl, ↓dLc2_k, ↓dStarL, ↓dListT, ↓dTupT, ↓dSetK, ↓dSortS, ↓dEqL, ↓dOnL, ↓dStrA, ↓dTabGet, ↓dTabIx, ↓dZipM, ↓dInD, ↓dTupRg, ↓dLstRg, ↓dInT, ↓dSetT, ↓dZipT, ↓dSetAll, ↓dEqO, ↓dMulT, ↓dSeq, ↓dIfS, ↓dTB, ↓dOp, ↓dVar, ↓dC, ↓dLt, ↓dLe, ↓dGt, ↓dGe, ↓rII, ↓rIIc, ↓dCB, ↓dCons, ↓dNil, ↓dLen, ↓dInt, ↓dRet, ↓dRetN, ↓dNext, ↓dIx, ↓dAt, ↓startD, List.map_cons, List.map_nil, List.cons_append, List.nil_append, List.append_nil, List.length_cons, List.length_nil, List.getElem?_cons_zero, List.getElem?_cons_succ, List.length_map, ↓dAsg, ↓dName, ↓dNew_k, ↓dLst, ↓dFor_k, ↓dRng1, ↓dRng2, ↓dCall_k, ↓dAdd, ↓dSub, ↓dMul, ↓dMod, ↓dFdiv, ↓dPow, ↓dEq, ↓dNe, ↓scd, ↓dIsN, ↓dNotN, ↓dIsB, ↓dNotB, ↓dUn, ↓dNeg, ↓dTru, ↓dTruS, ↓dAnd, ↓dOr, ↓dNot, ↓dNotV, ↓dAndV, ↓dOrV, ↓dIfE, ↓dTup, ↓dDrop, ↓dBM, ↓dBM0, ↓tyD, ↓dApp, ↓dSetL, ↓dAsL, ↓dOnL, ↓dOnN_k, ↓dIsi, ↓tyName, isT, ↓dBreak, ↓dCont, ↓dPar, ↓endsD, List.set_cons_zero, List.set_cons_succ, List.replicate_succ, List.replicate_zero, su_same, ↓dLc_k, ↓dWhile_k, ↓dWipe, ↓dYes, ↓dIt, ↓dItN, ↓dSlice, ↓dPart, ↓dNoP, ↓dCut, ↓dSliceE, ↓dIxL, ↓dChain, ↓dIn, ↓dNotIn, ↓dInS, ↓mS0, ↓mS1, ↓dSta, ↓dEnd, ↓dFind, ↓dIsasc, ↓dIsdig, ↓dIsalp, ↓dIsaln, ↓dIslow, ↓dIspri, ↓okT, ↓okU, ↓ok2, ↓dFind4, ↓dSplit, ↓dJoin, ↓dJoinT, ↓dMulS, ↓dCatL, ↓dCatE, ↓dCatR, ↓dCatEE, ↓dStar, ↓dIntS, ↓dStr, ↓dMax, ↓dMin, ↓dII, ↓dFld_m, ↓dSetF_m, ↓dMeth_m, ↓dMake_k, ↓dGtup, ↓dGcons, ↓dGnil, true_and, and_true, Nat.add_zero, reduceCtorEq, ↓reduceIte, Bool.not_true, Bool.not_false, Bool.false_eq_true, if_true, if_false])
local macro_rules | `(tactic| walk_at "dl*") => `(tactic| simp -implicitDefEqProofs only [*, ↓dRepl, ↓dLstripC, ↓dRstripC, ↓dFind3, ↓dTabVIn, ↓dTabVIx, ↓dIntB, ↓dStrB, ↓dDisp, ↓dPairs, ↓dDNew, ↓dDGet, ↓dDIn, ↓dDPut, ↓dDGet1, ↓dDGet2, ↓dRepl0, ↓dFalls, ↓toKy, ↓kvsOf, ↓dFmt, ↓dJsE, ↓dJs, ↓dSumL, ↓dAllL, ↓dAnyL, ↓dPartn, ↓dStrip, ↓dStripC, ↓dLower, ↓dUpper, ↓dRfind, ↓dCount, ↓okL, ↓dGunl, ↓dLc2_k, ↓dStarL, ↓dListT, ↓dTupT, ↓dSetK, ↓dSortS, ↓dEqL, ↓dOnL, ↓dStrA, ↓dTabGet, ↓dTabIx, ↓dZipM, ↓dInD, ↓dTupRg, ↓dLstRg, ↓dInT, ↓dSetT, ↓dZipT, ↓dSetAll, ↓dEqO, ↓dMulT, ↓dSeq, ↓dIfS, ↓dTB, ↓dOp, ↓dVar, ↓dC, ↓dLt, ↓dLe, ↓dGt, ↓dGe, ↓rII, ↓rIIc, ↓dCB, ↓dCons, ↓dNil, ↓dLen, ↓dInt, ↓dRet, ↓dRetN, ↓dNext, ↓dIx, ↓dAt, ↓startD, List.map_cons, List.map_nil, List.cons_append, List.nil_append, List.append_nil, List.length_cons, List.length_nil, List.getElem?_cons_zero, List.getElem?_cons_succ, List.length_map, ↓dAsg, ↓dName, ↓dNew_k, ↓dLst, ↓dFor_k, ↓dRng1, ↓dRng2, ↓dCall_k, ↓dAdd, ↓dSub, ↓dMul, ↓dMod, ↓dFdiv, ↓dPow, ↓dEq, ↓dNe, ↓scd, ↓dIsN, ↓dNotN, ↓dIsB, ↓dNotB, ↓dUn, ↓dNeg, ↓dTru, ↓dTruS, ↓dAnd, ↓dOr, ↓dNot, ↓dNotV, ↓dAndV, ↓dOrV, ↓dIfE, ↓dTup, ↓dDrop, ↓dBM, ↓dBM0, ↓tyD, ↓dApp, ↓dSetL, ↓dAsL, ↓dOnL, ↓dOnN_k, ↓dIsi, ↓tyName, isT, ↓dBreak, ↓dCont, ↓dPar, ↓endsD, List.set_cons_zero, List.set_cons_succ, List.replicate_succ, List.replicate_zero, su_same, ↓dLc_k, ↓dWhile_k, ↓dWipe, ↓dYes, ↓dIt, ↓dItN, ↓dSlice, ↓dPart, ↓dNoP, ↓dCut, ↓dSliceE, ↓dIxL, ↓dChain, ↓dIn, ↓dNotIn, ↓dInS, ↓mS0, ↓mS1, ↓dSta, ↓dEnd, ↓dFind, ↓dIsasc, ↓dIsdig, ↓dIsalp, ↓dIsaln, ↓dIslow, ↓dIspri, ↓okT, ↓okU, ↓ok2, ↓dFind4, ↓dSplit, ↓dJoin, ↓dJoinT, ↓dMulS, ↓dCatL, ↓dCatE, ↓dCatR, ↓dCatEE, ↓dStar, ↓dIntS, ↓dStr, ↓dMax, ↓dMin, ↓dII, ↓dFld_m, ↓dSetF_m, ↓dMeth_m, ↓dMake_k, ↓dGtup, ↓dGcons, ↓dGnil, true_and, and_true, Nat.add_zero, reduceCtorEq, ↓reduceIte, Bool.not_true, Bool.not_false, Bool.false_eq_true, if_true, if_false])
def llaw_decoded_b5_6 : SD := (dDrop (dBM "list" dApp (dVar 4) (dCons (dOp dIx (dVar 2) (dOp dMod (dCB dInt (dCons (dVar 7) dNil)) (dC (.int 95)))) dNil)))
def llaw_decoded_b5_5 : SD := dSeq (dIfS (dTB (dOp dGe (dCB dLen (dCons (dVar 6) dNil)) (dC (.int 3)))) (dDrop (dBM "list" dApp (dVar 4) (dCons (dOp dIx (dVar 2) (dOp dMod (dCB dInt (dCons (dOp dFdiv (dVar 7) (dC (.int 95))) dNil)) (dC (.int 95)))) dNil))) dNext) (llaw_decoded_b5_6)
def llaw_decoded_b5_4 : SD := dSeq (dIfS (dTB (dOp dEq (dCB dLen (dCons (dVar 6) dNil)) (dC (.int 4)))) (dDrop (dBM "list" dApp (dVar 4) (dCons (dOp dIx (dVar 2) (dOp dFdiv (dVar 7) (dC (.int 9025)))) dNil))) dNext) (llaw_decoded_b5_5)
def llaw_decoded_b5_3 : SD := dSeq (dIfS (dOr (dTB (dOp dEq (dCB dLen (dCons (dVar 6) dNil)) (dC (.int 1)))) (dTB (dOp dGe (dVar 7) (dIxL (dLst (dCons (dC (.int 1)) (dCons (dC (.int 1)) (dCons (dC (.int 95)) (dCons (dC (.int 9025)) (dCons (dC (.int 857375)) dNil)))))) (dCB dLen (dCons (dVar 6) dNil)))))) (dRet (dC .non)) dNext) (llaw_decoded_b5_4)
def llaw_decoded_b5_2 : SD := dSeq (dFor (dIt (dVar 6)) (dName 8) (dAsg (dOp dAdd (dOp dMul (dVar 7) (dC (.int 64))) (dBM "str" dFind (dVar 1) (dCons (dVar 8) dNil))) (dName 7))) (llaw_decoded_b5_3)
def llaw_decoded_b5_1 : SD := dSeq (dAsg (dC (.int 0)) (dName 7)) (llaw_decoded_b5_2)
def llaw_decoded_k6 : SD := (dRet (dBM "str" dJoin (dC (.str [])) (dAsL (dVar 4))))
def llaw_decoded_k5 : SD := dSeq (dFor (dRng3 (dCons (dC (.int 0)) (dCons (dCB dLen (dCons (dVar 3) dNil)) (dCons (dC (.int 4)) dNil)))) (dName 5) (dSeq (dAsg (dSlice (dVar 3) (dPart (dVar 5)) (dPart (dOp dAdd (dVar 5) (dC (.int 4))))) (dName 6)) (llaw_decoded_b5_1))) (llaw_decoded_k6)
def llaw_decoded_k4 : SD := dSeq (dAsg (dNew (dLst dNil)) (dName 4)) (llaw_decoded_k5)
def llaw_decoded_k3 : SD := dSeq (dIfS (dTB (dEqL true (dLc (dIt (dVar 3)) (dName 8) (dTB (dOp dNotIn (dVar 8) (dVar 1))) (dC (.int 1)) [8]) (dLst dNil))) (dRet (dC .non)) dNext) (llaw_decoded_k4)
def llaw_decoded_k2 : SD := dSeq (dAsg (dBM "str" dJoin (dC (.str [])) (dAsL (dVar 0))) (dName 3)) (llaw_decoded_k3)
def llaw_decoded_k1 : SD := dSeq (dAsg (dOp dAdd (dOp dAdd (dOp dAdd (dOp dAdd (dC (.str [10, 32, 33, 34, 35, 36, 38, 39, 40, 41, 42, 43, 44, 45, 46, 47, 48, 49, 50, 51, 52, 53, 54, 55, 56, 57, 58, 59, 60, 61, 62, 63, 64])) (dBM0 "str" dUpper (dCall 0 sp_llaw_small [] dNil))) (dC (.str [91, 92, 93, 94, 95, 96]))) (dCall 0 sp_llaw_small [] dNil)) (dC (.str [123, 124, 125, 126]))) (dName 2)) (llaw_decoded_k2)
theorem cut_llaw_decoded : rd_llaw_decoded = dSeq (dAsg (dOp dAdd (dOp dAdd (dOp dAdd (dC (.str [48, 49, 50, 51, 52, 53, 54, 55, 56, 57])) (dCall 0 sp_llaw_small [] dNil)) (dBM0 "str" dUpper (dCall 0 sp_llaw_small [] dNil))) (dC (.str [43, 45]))) (dName 1)) (llaw_decoded_k1) := rfl

theorem app_step {E : ED} {F : EndsD} {δ : Sl} {S : Sh} {q : Addr} {xs : List D} {d : D} (h4 : δ[4]? = some (some (.rf q))) (hq : S q = some (.lst xs)) (hl : xs.length < sizeLine) (hE : ∀ R : QD, R d S → E δ S R) (hF : F.nx δ (su S q (.lst (xs ++ [d])))) : dDrop (dBM "list" dApp (dVar 4) (dCons E dNil)) F δ S := by
  unfold dDrop dBM dVar
  rw [h4]
  refine ⟨⟨rfl, xs, hq⟩, hE _ ?_⟩
  show match S q with | some (.lst xs) => xs.length < sizeLine ∧ F.nx δ (su S q (.lst (xs ++ [d]))) | _ => False
  rw [hq]
  exact ⟨hl, hF⟩
def nd : D → Bool
  | .str [c] => !decide (c ∈ DGS)
  | _ => false
theorem okl_filter (l : List Nat) : ((l.map fun c => D.str [c]).filter nd).isEmpty = okl l := by
  unfold okl
  rw [Bool.eq_iff_iff, List.isEmpty_iff, List.filter_eq_nil_iff, List.all_eq_true]
  constructor
  · intro k c hc
    have := k (.str [c]) (List.mem_map.mpr ⟨c, hc, rfl⟩)
    simpa [nd] using this
  · intro k x hx
    obtain ⟨c, hc, rfl⟩ := List.mem_map.mp hx
    have := k c hc
    simpa [nd] using this
theorem ones_flat (cs : List Nat) : (cs.map fun c => [c]).flatten = cs := by
  induction cs with
  | nil => rfl
  | cons c cs ih => rw [List.map_cons, List.flatten_cons, ih]; rfl
theorem gS_none {g : List Nat} (h : BND.getD g.length 0 ≤ val 64 DGS g) : gS g = none := by unfold gS; rw [if_pos h]
theorem gS_some {g : List Nat} (h : ¬ BND.getD g.length 0 ≤ val 64 DGS g) : gS g = some (pd 95 SG (g.length - 1) (val 64 DGS g) []) := by unfold gS; rw [if_neg h]
theorem ok_llaw_decoded : ∀ ds S Q, ds.length = 1 → sp_llaw_decoded ds S Q → rd_llaw_decoded (endsD Q) (startD N_llaw_decoded ds) S := by
  rintro ds S Q - ⟨q, ls, rfl, hq, hz, h⟩
  have sz := sz6
  have h' := Hd.mk h
  clear h
  have hfl := hz.2
  have hll := hz.1
  have hj : joinOk [] ls := by
    unfold joinOk
    rw [sum_flat, List.length_nil, Nat.mul_zero]
    omega
  rw [cut_llaw_decoded]
  show dDG [some (.rf q), none, none, none, none, none, none, none, none] S (fun d S1 => llaw_decoded_k1 (endsD Q) [some (.rf q), some d, none, none, none, none, none, none, none] S1)
  refine eDG ?_
  unfold llaw_decoded_k1
  show dSG [some (.rf q), some (.str DGS), none, none, none, none, none, none, none] S (fun d S1 => llaw_decoded_k2 (endsD Q) [some (.rf q), some (.str DGS), some d, none, none, none, none, none, none] S1)
  refine eSG ?_
  unfold llaw_decoded_k2
  walk_at "dl"
  rw [hq]
  dsimp only
  rw [show tls ls = ls.map D.str from rfl, strsOf_map]
  show joinOk [] ls ∧ llaw_decoded_k3 (endsD Q) [some (.rf q), some (.str DGS), some (.str SG), some (.str (TL.joinL [] ls)), none, none, none, none, none] S
  refine ⟨hj, ?_⟩
  rw [join_nil]
  have h'' : Hd (Q (opt (LDc ls)) S) := h'
  unfold LDc at h''
  clear h'
  generalize hrow : ls.flatten = row at *
  unfold llaw_decoded_k3
  have tq : Tq (dTB (dEqL true (dLc (dIt (dVar 3)) (dName 8) (dTB (dOp dNotIn (dVar 8) (dVar 1))) (dC (.int 1)) [8]) (dLst dNil))) [some (.rf q), some (.str DGS), some (.str SG), some (.str row), none, none, none, none, none] S (!(okl row)) := fun R hR => by
    walk_at "dl"
    refine comp_filter nd (fun _ => .int 1) (S := S) trivial _ [] (fun x hx Y Z hY hZ => ?_) (by rw [List.length_map, List.length_nil]; omega) ?_
    · obtain ⟨c, hc, rfl⟩ := List.mem_map.mp hx
      change (!decide (c ∈ DGS)) = true → Y (.int 1) S at hY
      change (!decide (c ∈ DGS)) = false → Z S at hZ
      show if (!decide (c ∈ DGS)) = true then Y (.int 1) S else Z S
      split
      · exact hY ‹_›
      · rename_i z; exact hZ (by simpa using z)
    · rw [List.nil_append]
      refine ⟨by omega, eqL_ones (fun x hx => ?_) ?_⟩
      · obtain ⟨y, _, rfl⟩ := List.mem_map.mp hx
        rfl
      · rw [if_pos rfl, List.isEmpty_map, okl_filter]
        exact hR
  refine if_b tq (fun z => ?_) fun z => ?_
  · rw [show okl row = false by simpa using z, if_neg (by decide)] at h''
    exact ⟨S, Sle.refl S, h''.a⟩
  have z : okl row = true := by simpa using z
  rw [if_pos z] at h''
  have hd : ∀ c ∈ row, c ∈ DGS := fun c hc => of_decide_eq_true (List.all_eq_true.mp z c hc)
  delta dNext
  dsimp only
  unfold llaw_decoded_k4
  refine ⟨by show 0 ≤ _; omega, fun q2 hq2 => ?_⟩
  show llaw_decoded_k5 (endsD Q) [some (.rf q), some (.str DGS), some (.str SG), some (.str row), some (.rf q2), none, none, none, none] (su S q2 (.lst []))
  unfold llaw_decoded_k5
  walk_at "dl"
  refine ⟨by omega, ⟨by decide, by decide, by decide, by omega, by decide, by omega⟩, ?_⟩
  refine loop_inv (fun rest δ S2 => ∃ (p s cs : List Nat) (x5 x6 x7 x8 : Option D), Ac 4 row rest p s ∧ cs.length ≤ p.length ∧ S2 = su S q2 (.lst (cs.map fun c => D.str [c])) ∧ (match dgo p.length (chs 4 s) with | .inl k => dgo 0 (chs 4 row) = .inl k | .inr t => dgo 0 (chs 4 row) = .inr (cs ++ t)) ∧ δ = [some (.rf q), some (.str DGS), some (.str SG), some (.str row), some (.rf q2), x5, x6, x7, x8]) ?_ (fun _ _ _ _ => trivial) ?_ _ _ _ ⟨[], row, [], none, none, none, none, Ac.start (n := 4) (by decide) row, Nat.le_refl _, rfl, by
    show match dgo 0 (chs 4 row) with | .inl k => dgo 0 (chs 4 row) = .inl k | .inr t => dgo 0 (chs 4 row) = .inr t
    cases dgo 0 (chs 4 row) <;> rfl, rfl⟩
  · rintro x xs' δ S2 N ⟨p, s, cs, x5, x6, x7, x8, hA, hm, rfl, hgo, rfl⟩ hN
    obtain ⟨hs, rfl, hA', hcc⟩ := hA.cons (by decide)
    have hrow2 := hA.1
    have hps := congrArg List.length hrow2
    rw [List.length_append] at hps
    have hsl : 1 ≤ s.length := by cases s with | nil => exact absurd rfl hs | cons c r => simp
    have hc := sl_chs hrow2 4 (b := ((p.length : Nat) : Int) + 4) rfl
    have hg : ∀ c ∈ s.take 4, c ∈ DGS := fun c hc => hd c (by rw [hrow2]; exact List.mem_append_right _ (List.mem_of_mem_take hc))
    have hgl : (s.take 4).length = min 4 s.length := List.length_take
    rw [hcc, dgo_cons] at hgo
    have hg4 : p.length + 4 = (p ++ s.take 4).length ∨ s.drop 4 = [] := by
      by_cases h4 : 4 ≤ s.length
      · left; rw [List.length_append]; omega
      · right; exact List.drop_of_length_le (by omega)
    show row.length ≤ sizeLine ∧ llaw_decoded_b5_1 _ [some (.rf q), some (.str DGS), some (.str SG), some (.str row), some (.rf q2), some (.int ((p.length : Nat) : Int)), some (.str (DL.cutD row (some ((p.length : Nat) : Int)) (some (((p.length : Nat) : Int) + 4)))), x7, x8] (su S q2 (.lst (cs.map fun c => D.str [c])))
    rw [hc]
    refine ⟨by omega, ?_⟩
    generalize hgg : s.take 4 = g at *
    have hlp : g.length ≤ s.length := by omega
    unfold llaw_decoded_b5_1
    show llaw_decoded_b5_2 _ [some (.rf q), some (.str DGS), some (.str SG), some (.str row), some (.rf q2), some (.int ((p.length : Nat) : Int)), some (.str g), some (.int 0), x8] (su S q2 (.lst (cs.map fun c => D.str [c])))
    unfold llaw_decoded_b5_2
    walk_at "dl"
    refine loop_inv (fun rest δ S' => ∃ (l r : List Nat) (x8 : Option D), g = l ++ r ∧ rest = r.map (fun c => D.str [c]) ∧ S' = su S q2 (.lst (cs.map fun c => D.str [c])) ∧ δ = [some (.rf q), some (.str DGS), some (.str SG), some (.str row), some (.rf q2), some (.int ((p.length : Nat) : Int)), some (.str g), some (.int ((val 64 DGS l : Nat) : Int)), x8]) ?_ (fun _ _ _ _ => trivial) ?_ _ _ _ ⟨[], g, x8, rfl, rfl, rfl, rfl⟩
    · rintro x xs δ S' N' ⟨l, r, x8, e, er2, rfl, rfl⟩ hN'
      cases r with
      | nil => cases er2
      | cons c r =>
        rw [List.map_cons] at er2
        obtain ⟨rfl, rfl⟩ := List.cons.inj er2
        have hc : c ∈ DGS := hg c (by rw [e]; simp)
        refine ⟨.inr ⟨by decide, by decide⟩, rfl, trivial, ?_⟩
        show N' [some (.rf q), some (.str DGS), some (.str SG), some (.str row), some (.rf q2), some (.int ((p.length : Nat) : Int)), some (.str g), some (.int (((val 64 DGS l : Nat) : Int) * 64 + Txt.find (tx DGS) (tx [c]))), some (.str [c])] (su S q2 (.lst (cs.map fun c => D.str [c])))
        rw [dg_find c hc]
        refine hN' _ _ ⟨l ++ [c], r, some (.str [c]), by rw [e]; simp, rfl, rfl, ?_⟩
        rw [val_snoc, show ((64 * val 64 DGS l + ix DGS c : Nat) : Int) = ((val 64 DGS l : Nat) : Int) * 64 + ((ix DGS c : Nat) : Int) by omega]
    · rintro δ S' ⟨l, r, x8, e, er2, rfl, rfl⟩
      have r0 : r = [] := by cases r with | nil => rfl | cons c r => cases er2
      subst r0
      rw [List.append_nil] at e
      subst e
      show llaw_decoded_b5_3 { nx := N, rt := (endsD Q).rt, bk := llaw_decoded_k6 (endsD Q), ct := N } [some (.rf q), some (.str DGS), some (.str SG), some (.str row), some (.rf q2), some (.int ((p.length : Nat) : Int)), some (.str g), some (.int ((val 64 DGS g : Nat) : Int)), x8] (su S q2 (.lst (cs.map fun c => D.str [c])))
      have none' : gS g = none → ∃ S2, Sle S2 (su S q2 (.lst (cs.map fun c => D.str [c]))) ∧ Q .non S2 := fun eg => by
        rw [eg] at hgo
        dsimp only at hgo
        rw [hgo] at h''
        exact ⟨S, Sle.new hq2, h''.a⟩
      have some' : ∀ y, gS g = some y → y.length ≤ g.length → ∀ x8, N [some (.rf q), some (.str DGS), some (.str SG), some (.str row), some (.rf q2), some (.int ((p.length : Nat) : Int)), some (.str g), some (.int ((val 64 DGS g : Nat) : Int)), x8] (su S q2 (.lst ((cs ++ y).map fun c => D.str [c]))) := fun y eg hy x8 => by
        rw [eg] at hgo
        dsimp only at hgo
        refine hN _ _ ⟨p ++ g, s.drop 4, cs ++ y, _, _, _, _, hA', by rw [List.length_append, List.length_append]; omega, rfl, ?_, rfl⟩
        have e1 : dgo (p ++ g).length (chs 4 (s.drop 4)) = dgo (p.length + 4) (chs 4 (s.drop 4)) := by
          rcases hg4 with z | z
          · rw [z]
          · rw [z]; rfl
        rw [e1]
        cases e2 : dgo (p.length + 4) (chs 4 (s.drop 4)) with
        | inl k => rw [e2] at hgo; exact hgo
        | inr t =>
          rw [e2] at hgo
          dsimp only at hgo ⊢
          rw [hgo, List.append_assoc]
      have hgS : gS g = if BND.getD g.length 0 ≤ val 64 DGS g then none else some (pd 95 SG (g.length - 1) (val 64 DGS g) []) := rfl
      have hbb : ∀ n, 2 ≤ n → n ≤ 4 → atI [D.int 1, D.int 1, D.int 95, D.int 9025, D.int 857375] ((n : Nat) : Int) = some (.int ((BND.getD n 0 : Nat) : Int)) := by
        intro n h1 h2
        have : n = 2 ∨ n = 3 ∨ n = 4 := by omega
        rcases this with e | e | e <;> subst e <;> rfl
      have hg14 : 1 ≤ g.length ∧ g.length ≤ 4 := by omega
      have hcl : cs.length ≤ 10000 := by omega
      clear hN hgo hA' hcc hA hrow2 hc hps hsl hgl hs hg4 hgg h''
      generalize val 64 DGS g = w at *
      unfold llaw_decoded_b5_3
      have tq2 : Tq (dOr (dTB (dOp dEq (dCB dLen (dCons (dVar 6) dNil)) (dC (.int 1)))) (dTB (dOp dGe (dVar 7) (dIxL (dLst (dCons (dC (.int 1)) (dCons (dC (.int 1)) (dCons (dC (.int 95)) (dCons (dC (.int 9025)) (dCons (dC (.int 857375)) dNil)))))) (dCB dLen (dCons (dVar 6) dNil)))))) [some (.rf q), some (.str DGS), some (.str SG), some (.str row), some (.rf q2), some (.int ((p.length : Nat) : Int)), some (.str g), some (.int ((w : Nat) : Int)), x8] (su S q2 (.lst (cs.map fun c => D.str [c]))) (decide (BND.getD g.length 0 ≤ w)) := by
        by_cases g1 : g.length = 1
        · refine tq_iff (tq_or (a := true) (b := true) (fun R hR => ?_) fun z => by cases z) ?_
          · show g.length ≤ sizeLine ∧ R (decide (((g.length : Nat) : Int) = 1)) _
            rw [decide_eq_true (by omega)]
            exact ⟨by omega, hR⟩
          · rw [g1]
            exact (decide_eq_true (Nat.zero_le w)).symm
        · refine tq_iff (tq_or (a := false) (b := decide (((BND.getD g.length 0 : Nat) : Int) ≤ ((w : Nat) : Int))) (fun R hR => ?_) fun _ R hR => ?_) ?_
          · show g.length ≤ sizeLine ∧ R (decide (((g.length : Nat) : Int) = 1)) _
            rw [decide_eq_false (by omega)]
            exact ⟨by omega, hR⟩
          · show 5 ≤ sizeLine ∧ g.length ≤ sizeLine ∧ (match atI [D.int 1, D.int 1, D.int 95, D.int 9025, D.int 857375] ((g.length : Nat) : Int) with | some d => (match D.int ((w : Nat) : Int), d with | .int i, .int j => R (decide (j ≤ i)) _ | _, _ => False) | none => False)
            rw [hbb g.length (by omega) (by omega)]
            exact ⟨by omega, by omega, hR⟩
          · rw [Bool.false_or]
            exact decide_eq_decide.mpr (by omega)
      refine if_b tq2 (fun z => ?_) fun z => ?_
      · have z := of_decide_eq_true z
        rw [if_pos z] at hgS
        exact none' hgS
      have z := of_decide_eq_false z
      rw [if_neg z] at hgS
      have hw : w % 95 < 95 := Nat.mod_lt _ (by decide)
      have hw2 : w / 95 % 95 < 95 := Nat.mod_lt _ (by decide)
      have a1 := at_tbl (tbl := SG) (i := w % 95) hw
      have a2 := at_tbl (tbl := SG) (i := w / 95 % 95) hw2
      delta dNext
      dsimp only
      have ge : ∀ (k : Int) (S' : Sh), Tq (dTB (dOp dGe (dCB dLen (dCons (dVar 6) dNil)) (dC (.int k)))) [some (.rf q), some (.str DGS), some (.str SG), some (.str row), some (.rf q2), some (.int ((p.length : Nat) : Int)), some (.str g), some (.int ((w : Nat) : Int)), x8] S' (decide (k ≤ ((g.length : Nat) : Int))) := fun k S' R hR => ⟨by omega, hR⟩
      have eq : ∀ (k : Int) (S' : Sh), Tq (dTB (dOp dEq (dCB dLen (dCons (dVar 6) dNil)) (dC (.int k)))) [some (.rf q), some (.str DGS), some (.str SG), some (.str row), some (.rf q2), some (.int ((p.length : Nat) : Int)), some (.str g), some (.int ((w : Nat) : Int)), x8] S' (decide (((g.length : Nat) : Int) = k)) := fun k S' R hR => ⟨by omega, hR⟩
      generalize hF : ({ nx := N, rt := (endsD Q).rt, bk := llaw_decoded_k6 (endsD Q), ct := N } : EndsD) = F
      have hFn : F.nx = N := by rw [← hF]
      have s6 : ∀ y, gS g = some (y ++ [SG.getD (w % 95) 0]) → y.length + 1 ≤ g.length → llaw_decoded_b5_6 F [some (.rf q), some (.str DGS), some (.str SG), some (.str row), some (.rf q2), some (.int ((p.length : Nat) : Int)), some (.str g), some (.int ((w : Nat) : Int)), x8] (su S q2 (.lst ((cs ++ y).map fun c => D.str [c]))) := fun y eg hy => by
        unfold llaw_decoded_b5_6
        refine app_step rfl su_same (by rw [List.length_map, List.length_append]; omega) (d := .str [SG.getD (w % 95) 0]) (fun R hR => ?_) ?_
        · show (0 : Int) < 95 ∧ 95 ≤ sizeLine ∧ (match atI SG (((w : Nat) : Int) % 95) with | some c => R (.str [c]) _ | none => False)
          rw [show ((w : Nat) : Int) % 95 = ((w % 95 : Nat) : Int) by omega, a1]
          exact ⟨by decide, by omega, hR⟩
        · rw [su_su, hFn]
          have := some' _ eg (by rw [List.length_append, List.length_singleton]; exact hy) x8
          rw [← List.append_assoc, List.map_append] at this
          exact this
      have s5 : ∀ y, gS g = some (y ++ [SG.getD (w / 95 % 95) 0, SG.getD (w % 95) 0]) → y.length + 2 ≤ g.length → 3 ≤ g.length → llaw_decoded_b5_5 F [some (.rf q), some (.str DGS), some (.str SG), some (.str row), some (.rf q2), some (.int ((p.length : Nat) : Int)), some (.str g), some (.int ((w : Nat) : Int)), x8] (su S q2 (.lst ((cs ++ y).map fun c => D.str [c]))) := fun y eg hy h3 => by
        unfold llaw_decoded_b5_5
        refine if_yes (tq_iff (ge 3 _) (decide_eq_true (by omega))) (app_step rfl su_same (by rw [List.length_map, List.length_append]; omega) (d := .str [SG.getD (w / 95 % 95) 0]) (fun R hR => ?_) ?_)
        · show CDiv ((w : Nat) : Int) 95 ∧ (0 : Int) < 95 ∧ 95 ≤ sizeLine ∧ (match atI SG (((w : Nat) : Int) / 95 % 95) with | some c => R (.str [c]) _ | none => False)
          rw [show ((w : Nat) : Int) / 95 % 95 = ((w / 95 % 95 : Nat) : Int) by omega, a2]
          exact ⟨⟨by decide, by decide⟩, by decide, by omega, hR⟩
        · rw [su_su]
          have := s6 (y ++ [SG.getD (w / 95 % 95) 0]) (by rw [eg, List.append_assoc]; rfl) (by rw [List.length_append, List.length_singleton]; omega)
          rw [← List.append_assoc, List.map_append] at this
          exact this
      have c234 : g.length = 1 ∨ g.length = 2 ∨ g.length = 3 ∨ g.length = 4 := by omega
      have start : (cs.map fun c => D.str [c]) = (cs ++ []).map fun c => D.str [c] := by rw [List.append_nil]
      unfold llaw_decoded_b5_4
      rcases c234 with e | e | e | e
      · rw [e] at z
        exact absurd (Nat.zero_le w) z
      · have eg : gS g = some [SG.getD (w % 95) 0] := by rw [hgS, e]; rfl
        refine if_no (tq_iff (eq 4 _) (decide_eq_false (by omega))) ?_
        delta dNext
        dsimp only
        unfold llaw_decoded_b5_5
        refine if_no (tq_iff (ge 3 _) (decide_eq_false (by omega))) ?_
        delta dNext
        dsimp only
        rw [start]
        exact s6 [] eg (by rw [List.length_nil]; omega)
      · have eg : gS g = some [SG.getD (w / 95 % 95) 0, SG.getD (w % 95) 0] := by rw [hgS, e]; rfl
        refine if_no (tq_iff (eq 4 _) (decide_eq_false (by omega))) ?_
        delta dNext
        dsimp only
        rw [start]
        exact s5 [] eg (by rw [List.length_nil]; omega) (by omega)
      · have hb4 : BND.getD g.length 0 = 857375 := by rw [e]; rfl
        have e9 : w / 95 / 95 % 95 = w / 9025 := by omega
        have eg : gS g = some [SG.getD (w / 9025) 0, SG.getD (w / 95 % 95) 0, SG.getD (w % 95) 0] := by
          rw [hgS, e, ← e9]
          rfl
        have a3 := at_tbl (tbl := SG) (i := w / 9025) (show w / 9025 < 95 by omega)
        refine if_yes (tq_iff (eq 4 _) (decide_eq_true (by omega))) (app_step rfl su_same (by rw [List.length_map]; omega) (d := .str [SG.getD (w / 9025) 0]) (fun R hR => ?_) ?_)
        · show CDiv ((w : Nat) : Int) 9025 ∧ 95 ≤ sizeLine ∧ (match atI SG (((w : Nat) : Int) / 9025) with | some c => R (.str [c]) _ | none => False)
          rw [show ((w : Nat) : Int) / 9025 = ((w / 9025 : Nat) : Int) by omega, a3]
          exact ⟨⟨by decide, by decide⟩, by omega, hR⟩
        · rw [su_su]
          have := s5 [SG.getD (w / 9025) 0] eg (by rw [List.length_singleton]; omega) (by omega)
          rw [List.map_append] at this
          exact this
  · rintro δ S2 ⟨p, s, cs, x5, x6, x7, x8, hA, hm, rfl, hgo, rfl⟩
    have s0 := hA.nil (by decide)
    have hps := congrArg List.length hA.1
    subst s0
    rw [List.length_append, List.length_nil] at hps
    rw [chs_nil] at hgo
    have hgo : dgo 0 (chs 4 row) = .inr (cs ++ []) := hgo
    rw [List.append_nil] at hgo
    rw [hgo] at h''
    show llaw_decoded_k6 (endsD Q) [some (.rf q), some (.str DGS), some (.str SG), some (.str row), some (.rf q2), x5, x6, x7, x8] (su S q2 (.lst (cs.map fun c => D.str [c])))
    unfold llaw_decoded_k6
    walk_at "dl"
    rw [show (cs.map fun c => D.str [c]) = (cs.map fun c => [c]).map D.str by rw [List.map_map]; rfl, strsOf_map]
    have ef : (cs.map fun c => [c]).flatten = cs := ones_flat cs
    show joinOk [] (cs.map fun c => [c]) ∧ ∃ S3, Sle S3 _ ∧ Q (.str (TL.joinL [] (cs.map fun c => [c]))) S3
    rw [join_nil, ef]
    refine ⟨?_, S, Sle.new hq2, h''.a⟩
    unfold joinOk
    rw [sum_flat, ef, List.length_nil, Nat.mul_zero]
    omega
end LW

set_option Elab.async false
set_option linter.all false
set_option maxRecDepth 100000
set_option maxHeartbeats 4000000
set_option exponentiation.threshold 100
namespace LW
open PySem PySem.Spec L2 DL
local macro_rules | `(tactic| walk_at "dl") => `(tactic| simp -implicitDefEqProofs only [↓dRepl, ↓dLstripC, ↓dRstripC, ↓dFind3, ↓dTabVIn, ↓dTabVIx, ↓dIntB, ↓dStrB, ↓dDisp, ↓dPairs, ↓dDNew, ↓dDGet, ↓dDIn, ↓dDPut, ↓dDGet1, ↓dDGet2, ↓dRepl0, ↓dFalls, ↓toKy, ↓kvsOf, ↓dFmt, ↓dJsE, ↓dJs, ↓dSumL, ↓dAllL, ↓dAnyL, ↓dPartn, ↓dStrip, ↓dStripC, ↓dLower, ↓dUpper, ↓dRfind, ↓dCount, ↓okL, ↓dGunl, ↓dLc2_k, ↓dStarL, ↓dListT, ↓dTupT, ↓dSetK, ↓dSortS, ↓dEqL, ↓dOnL, ↓dStrA, ↓dTabGet, ↓dTabIx, ↓dZipM, ↓dInD, ↓dTupRg, ↓dLstRg, ↓dInT, ↓dSetT, ↓dZipT, ↓dSetAll, ↓dEqO, ↓dMulT, ↓dSeq, ↓dIfS, ↓dTB, ↓dOp, ↓dVar, ↓dC, ↓dLt, ↓dLe, ↓dGt, ↓dGe, ↓rII, ↓rIIc, ↓dCB, ↓dCons, ↓dNil, ↓dLen, ↓dInt, ↓dRet, ↓dRetN, ↓dNext, ↓dIx, ↓dAt, ↓startD, List.map_cons, List.map_nil, List.cons_append, List.nil_append, List.append_nil, List.length_cons, List.length_nil, List.getElem?_cons_zero, List.getElem?_cons_succ, List.length_map, ↓dAsg, ↓dName, ↓dNew_k, ↓dLst, ↓dFor_k, ↓dRng1, ↓dRng2, ↓dCall_k, ↓dAdd, ↓dSub, ↓dMul, ↓dMod, ↓dFdiv, ↓dPow, ↓dEq, ↓dNe, ↓scd, ↓dIsN, ↓dNotN, ↓dIsB, ↓dNotB, ↓dUn, ↓dNeg, ↓dTru, ↓dTruS, ↓dAnd, ↓dOr, ↓dNot, ↓dNotV, ↓dAndV, ↓dOrV, ↓dIfE, ↓dTup, ↓dDrop, ↓dBM, ↓dBM0, ↓tyD, ↓dApp, ↓dSetL, ↓dAsL, ↓dOnL, ↓dOnN_k, ↓dIsi, ↓tyName, isT, ↓dBreak, ↓dCont, ↓dPar, ↓endsD, List.set_cons_zero, List.set_cons_succ, List.replicate_succ, List.replicate_zero, su_same, ↓dLc_k, ↓dWhile_k, ↓dWipe, ↓dYes, ↓dIt, ↓dItN, ↓dSlice, ↓dPart, ↓dNoP, ↓dCut, ↓dSliceE, ↓dIxL, ↓dChain, ↓dIn, ↓dNotIn, ↓dInS, ↓mS0, ↓mS1, ↓dSta, ↓dEnd, ↓dFind, ↓dIsasc, ↓dIsdig, ↓dIsalp, ↓dIsaln, ↓dIslow, ↓dIspri, ↓okT, ↓okU, ↓ok2, ↓dFind4, ↓dSplit, ↓dJoin, ↓dJoinT, ↓dMulS, ↓dCatL, ↓dCatE, ↓dCatR, ↓dCatEE, ↓dStar, ↓dIntS, ↓dStr, ↓dMax, ↓dMin, ↓dII, ↓dFld_m, ↓dSetF_m, ↓dMeth_m, ↓dMake_k, ↓dGtup, ↓dGcons, ↓dGnil, true_and, and_true, Nat.add_zero, reduceCtorEq, ↓reduceIte, Bool.not_true, Bool.not_false, Bool.false_eq_true, if_true, if_false])
local macro_rules | `(tactic| walk_at "dl*") => `(tactic| simp -implicitDefEqProofs only [*, ↓dRepl, ↓dLstripC, ↓dRstripC, ↓dFind3, ↓dTabVIn, ↓dTabVIx, ↓dIntB, ↓dStrB, ↓dDisp, ↓dPairs, ↓dDNew, ↓dDGet, ↓dDIn, ↓dDPut, ↓dDGet1, ↓dDGet2, ↓dRepl0, ↓dFalls, ↓toKy, ↓kvsOf, ↓dFmt, ↓dJsE, ↓dJs, ↓dSumL, ↓dAllL, ↓dAnyL, ↓dPartn, ↓dStrip, ↓dStripC, ↓dLower, ↓dUpper, ↓dRfind, ↓dCount, ↓okL, ↓dGunl, ↓dLc2_k, ↓dStarL, ↓dListT, ↓dTupT, ↓dSetK, ↓dSortS, ↓dEqL, ↓dOnL, ↓dStrA, ↓dTabGet, ↓dTabIx, ↓dZipM, ↓dInD, ↓dTupRg, ↓dLstRg, ↓dInT, ↓dSetT, ↓dZipT, ↓dSetAll, ↓dEqO, ↓dMulT, ↓dSeq, ↓dIfS, ↓dTB, ↓dOp, ↓dVar, ↓dC, ↓dLt, ↓dLe, ↓dGt, ↓dGe, ↓rII, ↓rIIc, ↓dCB, ↓dCons, ↓dNil, ↓dLen, ↓dInt, ↓dRet, ↓dRetN, ↓dNext, ↓dIx, ↓dAt, ↓startD, List.map_cons, List.map_nil, List.cons_append, List.nil_append, List.append_nil, List.length_cons, List.length_nil, List.getElem?_cons_zero, List.getElem?_cons_succ, List.length_map, ↓dAsg, ↓dName, ↓dNew_k, ↓dLst, ↓dFor_k, ↓dRng1, ↓dRng2, ↓dCall_k, ↓dAdd, ↓dSub, ↓dMul, ↓dMod, ↓dFdiv, ↓dPow, ↓dEq, ↓dNe, ↓scd, ↓dIsN, ↓dNotN, ↓dIsB, ↓dNotB, ↓dUn, ↓dNeg, ↓dTru, ↓dTruS, ↓dAnd, ↓dOr, ↓dNot, ↓dNotV, ↓dAndV, ↓dOrV, ↓dIfE, ↓dTup, ↓dDrop, ↓dBM, ↓dBM0, ↓tyD, ↓dApp, ↓dSetL, ↓dAsL, ↓dOnL, ↓dOnN_k, ↓dIsi, ↓tyName, isT, ↓dBreak, ↓dCont, ↓dPar, ↓endsD, List.set_cons_zero, List.set_cons_succ, List.replicate_succ, List.replicate_zero, su_same, ↓dLc_k, ↓dWhile_k, ↓dWipe, ↓dYes, ↓dIt, ↓dItN, ↓dSlice, ↓dPart, ↓dNoP, ↓dCut, ↓dSliceE, ↓dIxL, ↓dChain, ↓dIn, ↓dNotIn, ↓dInS, ↓mS0, ↓mS1, ↓dSta, ↓dEnd, ↓dFind, ↓dIsasc, ↓dIsdig, ↓dIsalp, ↓dIsaln, ↓dIslow, ↓dIspri, ↓okT, ↓okU, ↓ok2, ↓dFind4, ↓dSplit, ↓dJoin, ↓dJoinT, ↓dMulS, ↓dCatL, ↓dCatE, ↓dCatR, ↓dCatEE, ↓dStar, ↓dIntS, ↓dStr, ↓dMax, ↓dMin, ↓dII, ↓dFld_m, ↓dSetF_m, ↓dMeth_m, ↓dMake_k, ↓dGtup, ↓dGcons, ↓dGnil, true_and, and_true, Nat.add_zero, reduceCtorEq, ↓reduceIte, Bool.not_true, Bool.not_false, Bool.false_eq_true, if_true, if_false])
def llaw_coding_fault_b2_1 : SD := (dAsg (dNew (dCatE (dVar 3) (dRepL (dLst (dCons (dOp dAdd (dVar 1) (dVar 4)) dNil)) (dCB dLen (dCons (dOp dIx (dVar 0) (dVar 4)) dNil))))) (dName 3))
def llaw_coding_fault_k5 : SD := (dRet (dC .non))
def llaw_coding_fault_k4 : SD := dSeq (dFor (dRng3 (dCons (dC (.int 0)) (dCons (dCB dLen (dCons (dVar 5) dNil)) (dCons (dC (.int 4)) dNil)))) (dName 6) (dIfS (dTB (dOp dIsN (dCall 1 sp_llaw_decoded [] (dCons (dNew (dLst (dCons (dSlice (dVar 5) (dPart (dVar 6)) (dPart (dOp dAdd (dVar 6) (dC (.int 4))))) dNil))) dNil)) (dC .non))) (dRet (dOp dIx (dVar 3) (dCB dMin (dCons (dOp dAdd (dVar 6) (dC (.int 3))) (dCons (dOp dSub (dCB dLen (dCons (dVar 5) dNil)) (dC (.int 1))) dNil))))) dNext)) (llaw_coding_fault_k5)
def llaw_coding_fault_k3 : SD := dSeq (dAsg (dBM "str" dJoin (dC (.str [])) (dAsL (dVar 0))) (dName 5)) (llaw_coding_fault_k4)
def llaw_coding_fault_k2 : SD := dSeq (dFor (dRng1 (dCons (dCB dLen (dCons (dVar 0) dNil)) dNil)) (dName 4) (dSeq (dIfS (dTB (dEqL true (dLc (dIt (dOp dIx (dVar 0) (dVar 4))) (dName 7) (dTB (dOp dNotIn (dVar 7) (dVar 2))) (dC (.int 1)) [7]) (dLst dNil))) (dRet (dOp dAdd (dVar 1) (dVar 4))) dNext) (llaw_coding_fault_b2_1))) (llaw_coding_fault_k3)
def llaw_coding_fault_k1 : SD := dSeq (dAsg (dNew (dLst dNil)) (dName 3)) (llaw_coding_fault_k2)
theorem cut_llaw_coding_fault : rd_llaw_coding_fault = dSeq (dAsg (dOp dAdd (dOp dAdd (dOp dAdd (dC (.str [48, 49, 50, 51, 52, 53, 54, 55, 56, 57])) (dCall 0 sp_llaw_small [] dNil)) (dBM0 "str" dUpper (dCall 0 sp_llaw_small [] dNil))) (dC (.str [43, 45]))) (dName 2)) (llaw_coding_fault_k1) := rfl

def PL : List (List Nat) → Nat → List Nat
  | [], _ => []
  | l :: ls, n => List.replicate l.length n ++ PL ls (n + 1)
theorem PL_len : ∀ (ls : List (List Nat)) (n : Nat), (PL ls n).length = ls.flatten.length
  | [], n => rfl
  | l :: ls, n => by
    show (List.replicate l.length n ++ PL ls (n + 1)).length = _
    rw [List.length_append, List.length_replicate, PL_len ls, List.flatten_cons, List.length_append]
theorem PL_get : ∀ (ls : List (List Nat)) (p n : Nat), p < ls.flatten.length → (PL ls n)[p]? = some (lineAt ls p n)
  | [], p, n, h => absurd h (Nat.not_lt_zero _)
  | l :: ls, p, n, h => by
    rw [List.flatten_cons, List.length_append] at h
    show (List.replicate l.length n ++ PL ls (n + 1))[p]? = some (if p < l.length then n else lineAt ls (p - l.length) (n + 1))
    by_cases hp : p < l.length
    · rw [if_pos hp, List.getElem?_append_left (by rw [List.length_replicate]; exact hp), List.getElem?_replicate, if_pos hp]
    · rw [if_neg hp, List.getElem?_append_right (by rw [List.length_replicate]; omega), List.length_replicate]
      exact PL_get ls _ _ (by omega)
theorem PL_snoc : ∀ (a : List (List Nat)) (l : List Nat) (n : Nat), PL (a ++ [l]) n = PL a n ++ List.replicate l.length (n + a.length)
  | [], l, n => by show List.replicate l.length n ++ [] = [] ++ List.replicate l.length (n + 0); rw [List.append_nil, List.nil_append]; rfl
  | x :: a, l, n => by
    show List.replicate x.length n ++ PL (a ++ [l]) (n + 1) = (List.replicate x.length n ++ PL a (n + 1)) ++ _
    rw [PL_snoc a l (n + 1), List.append_assoc, List.length_cons, show n + 1 + a.length = n + (a.length + 1) by omega]
def ilst (ns : List Nat) : List D := ns.map fun n => D.int ((n : Nat) : Int)
theorem ilst_app (a b : List Nat) : ilst (a ++ b) = ilst a ++ ilst b := List.map_append
theorem ilst_rep (n m : Nat) : ilst (List.replicate n m) = List.replicate n (D.int ((m : Nat) : Int)) := List.map_replicate
theorem rep_one (n : Nat) (d : D) : (List.replicate n [d]).flatten = List.replicate n d := List.flatten_replicate_singleton
theorem chs_one {g : List Nat} (h1 : 1 ≤ g.length) (h4 : g.length ≤ 4) : chs 4 g = [g] := by
  rw [chs_cons (by decide) (fun z => by rw [z] at h1; exact absurd h1 (by decide)), List.take_of_length_le h4, List.drop_of_length_le h4, chs_nil]
theorem LDc_one {g : List Nat} (hg : ∀ c ∈ g, c ∈ DGS) (h1 : 1 ≤ g.length) (h4 : g.length ≤ 4) : LDc [g] = gS g := by
  unfold LDc
  rw [show [g].flatten = g by simp, if_pos (show okl g = true from List.all_eq_true.mpr fun c hc => decide_eq_true (hg c hc)), chs_one h1 h4, dgo_cons]
  cases gS g with
  | none => rfl
  | some x => show some (x ++ []) = some x; rw [List.append_nil]
theorem ok_llaw_coding_fault : ∀ ds S Q, ds.length = 2 → sp_llaw_coding_fault ds S Q → rd_llaw_coding_fault (endsD Q) (startD N_llaw_coding_fault ds) S := by
  rintro ds S Q - ⟨q, ls, rfl, hq, hz, h⟩
  have sz := sz6
  have h' := Hd.mk h
  clear h
  have hfl := hz.2
  have hll := hz.1
  rw [cut_llaw_coding_fault]
  show dDG [some (.rf q), some (.int 1), none, none, none, none, none, none] S (fun d S1 => llaw_coding_fault_k1 (endsD Q) [some (.rf q), some (.int 1), some d, none, none, none, none, none] S1)
  refine eDG ?_
  unfold llaw_coding_fault_k1
  refine ⟨by show 0 ≤ _; omega, fun p0 hp0 => ?_⟩
  show llaw_coding_fault_k2 (endsD Q) [some (.rf q), some (.int 1), some (.str DGS), some (.rf p0), none, none, none, none] (su S p0 (.lst []))
  unfold llaw_coding_fault_k2
  have le0 : Sle S (su S p0 (.lst [])) := Sle.new hp0
  walk_at "dl"
  rw [le0 q _ hq]
  dsimp only
  rw [tls_len]
  refine ⟨by omega, by omega, ?_⟩
  refine loop_pre (fun pre δ S' => ∃ (pa : Addr) (x4 x7 : Option D), pre.length ≤ ls.length ∧ Sle S S' ∧ S' pa = some (.lst (ilst (PL (ls.take pre.length) 1))) ∧ bad1 (ls.drop pre.length) (1 + pre.length) = bad1 ls 1 ∧ δ = [some (.rf q), some (.int 1), some (.str DGS), some (.rf pa), x4, none, none, x7]) ⟨p0, none, none, Nat.zero_le _, le0, su_same, rfl, rfl⟩ ?_ (fun _ _ _ _ => trivial) ?_
  · rintro pre y post e3 δ S' N ⟨pa, x4, x7, hk, le, hpa, hb, rfl⟩ hN
    obtain ⟨rfl, hlt⟩ := rng_split e3
    have hlt : pre.length < ls.length := by omega
    have hdr : ls.drop pre.length = ls[pre.length] :: ls.drop (pre.length + 1) := List.drop_eq_getElem_cons hlt
    have htk : ls.take (pre.length + 1) = ls.take pre.length ++ [ls[pre.length]] := List.take_succ_eq_append_getElem hlt
    have hlm : ls[pre.length] ∈ ls := List.getElem_mem hlt
    have hat : atI (tls ls) ((0 : Int) + ((pre.length : Nat) : Int)) = some (.str ls[pre.length]) := by
      rw [Int.zero_add]
      exact atI_nat (by unfold tls; rw [List.getElem?_map, List.getElem?_eq_getElem hlt]; rfl)
    have hq' := le q _ hq
    have hll2 := len_flat hlm
    rw [hdr] at hb
    have hb : (if okl ls[pre.length] = true then bad1 (ls.drop (pre.length + 1)) (1 + pre.length + 1) else some (1 + pre.length)) = bad1 ls 1 := hb
    have hpl : (PL (ls.take pre.length) 1).length ≤ ls.flatten.length := by
      rw [PL_len]
      have := congrArg (fun x => (List.flatten x).length) (List.take_append_drop pre.length ls)
      simp only [List.flatten_append, List.length_append] at this
      omega
    have hpl2 : (PL (ls.take pre.length) 1).length + ls[pre.length].length ≤ ls.flatten.length := by
      rw [PL_len]
      have := congrArg (fun x => (List.flatten x).length) (List.take_append_drop pre.length ls)
      rw [hdr] at this
      simp only [List.flatten_append, List.length_append, List.flatten_cons] at this
      omega
    generalize ls[pre.length] = l at *
    have tq : Tq (dTB (dEqL true (dLc (dIt (dOp dIx (dVar 0) (dVar 4))) (dName 7) (dTB (dOp dNotIn (dVar 7) (dVar 2))) (dC (.int 1)) [7]) (dLst dNil))) [some (.rf q), some (.int 1), some (.str DGS), some (.rf pa), some (.int (0 + ((pre.length : Nat) : Int))), none, none, x7] S' (!(okl l)) := fun R hR => by
      walk_at "dl"
      rw [hq']
      dsimp only
      rw [hat]
      dsimp only
      refine comp_filter nd (fun _ => .int 1) (S := S') trivial _ [] (fun x hx Y Z hY hZ => ?_) (by rw [List.length_map, List.length_nil]; omega) ?_
      · obtain ⟨c, hc, rfl⟩ := List.mem_map.mp hx
        change (!decide (c ∈ DGS)) = true → Y (.int 1) S' at hY
        change (!decide (c ∈ DGS)) = false → Z S' at hZ
        show if (!decide (c ∈ DGS)) = true then Y (.int 1) S' else Z S'
        split
        · exact hY ‹_›
        · rename_i z; exact hZ (by simpa using z)
      · rw [List.nil_append]
        refine ⟨by show 0 ≤ _; omega, eqL_ones (fun x hx => ?_) ?_⟩
        · obtain ⟨y, _, rfl⟩ := List.mem_map.mp hx
          rfl
        · rw [if_pos rfl, List.isEmpty_map, okl_filter]
          exact hR
    refine if_b tq (fun z => ?_) fun z => ?_
    · have z : ¬ okl l = true := by simpa using z
      rw [if_neg z] at hb
      have := h'.a
      unfold FL DD at this
      rw [← hb] at this
      refine ⟨S, le, ?_⟩
      rw [show (1 : Int) + (0 + ((pre.length : Nat) : Int)) = ((1 + pre.length : Nat) : Int) by omega]
      exact this
    have z : okl l = true := by simpa using z
    rw [if_pos z] at hb
    delta dNext
    dsimp only
    unfold llaw_coding_fault_b2_1
    walk_at "dl"
    unfold dRepL
    walk_at "dl"
    rw [hq']
    dsimp only
    rw [hat]
    dsimp only
    rw [hpa, Int.toNat_natCast, rep_one]
    refine ⟨by omega, by omega, by omega, by omega, by omega, by unfold ilst; rw [List.length_map, List.length_replicate]; omega, fun p hp => hN _ _ ⟨p, _, _, by rw [List.length_append, List.length_singleton]; omega, le.trans (Sle.new hp), ?_, ?_, rfl⟩⟩
    · rw [su_same, List.length_append, List.length_singleton, htk, PL_snoc, ilst_app, ilst_rep, List.length_take, Nat.min_eq_left (by omega)]
      rw [show (1 : Int) + (0 + ((pre.length : Nat) : Int)) = ((1 + pre.length : Nat) : Int) by omega]
    · rw [List.length_append, List.length_singleton]
      exact hb
  · rintro δ S' ⟨pa, x4, x7, hk, le, hpa, hb, rfl⟩
    rw [rng_len, Int.toNat_natCast] at hpa hb
    rw [List.take_length] at hpa
    rw [List.drop_length] at hb
    have hb : none = bad1 ls 1 := hb
    have hd := bad1_ok ls 1 hb.symm
    have hP := fun p hp => PL_get ls p 1 hp
    have hFL : FL ls = match dgo 0 (chs 4 ls.flatten) with | .inl p => .int ((lineAt ls p 1 : Nat) : Int) | .inr _ => .non := by
      unfold FL DD
      rw [← hb]
      dsimp only
      cases dgo 0 (chs 4 ls.flatten) <;> rfl
    have h'' : Hd (Q (FL ls) S) := h'
    rw [hFL] at h''
    have hj : joinOk [] ls := by
      unfold joinOk
      rw [sum_flat, List.length_nil, Nat.mul_zero]
      omega
    have hpll := PL_len ls 1
    have hjn := join_nil ls
    clear h' hb hFL
    show llaw_coding_fault_k3 (endsD Q) [some (.rf q), some (.int 1), some (.str DGS), some (.rf pa), x4, none, none, x7] S'
    unfold llaw_coding_fault_k3
    walk_at "dl"
    rw [le q _ hq]
    dsimp only
    rw [show tls ls = ls.map D.str from rfl, strsOf_map]
    show joinOk [] ls ∧ llaw_coding_fault_k4 (endsD Q) [some (.rf q), some (.int 1), some (.str DGS), some (.rf pa), x4, some (.str (TL.joinL [] ls)), none, x7] S'
    rw [hjn]
    refine ⟨hj, ?_⟩
    generalize hrow : ls.flatten = row at *
    unfold llaw_coding_fault_k4
    walk_at "dl"
    refine ⟨by omega, ⟨by decide, by decide, by decide, by omega, by decide, by omega⟩, ?_⟩
    refine loop_inv (fun rest δ S2 => ∃ (p s : List Nat) (x6 : Option D), Ac 4 row rest p s ∧ Sle S S2 ∧ S2 pa = some (.lst (ilst (PL ls 1))) ∧ (match dgo p.length (chs 4 s) with | .inl k => dgo 0 (chs 4 row) = .inl k | .inr t => ∃ t', dgo 0 (chs 4 row) = .inr t') ∧ δ = [some (.rf q), some (.int 1), some (.str DGS), some (.rf pa), x4, some (.str row), x6, x7]) ?_ (fun _ _ _ _ => trivial) ?_ _ _ _ ⟨[], row, none, Ac.start (n := 4) (by decide) row, le, hpa, by
      show match dgo 0 (chs 4 row) with | .inl k => dgo 0 (chs 4 row) = .inl k | .inr t => ∃ t', dgo 0 (chs 4 row) = .inr t'
      cases dgo 0 (chs 4 row) with
      | inl k => rfl
      | inr t => exact ⟨t, rfl⟩, rfl⟩
    · rintro x xs' δ S2 N ⟨p, s, x6, hA, le2, hpa2, hgo, rfl⟩ hN
      obtain ⟨hs, rfl, hA', hcc⟩ := hA.cons (by decide)
      have hrow2 := hA.1
      have hps := congrArg List.length hrow2
      rw [List.length_append] at hps
      have hsl : 1 ≤ s.length := by cases s with | nil => exact absurd rfl hs | cons c r => simp
      have hc := sl_chs hrow2 4 (b := ((p.length : Nat) : Int) + 4) rfl
      have hg : ∀ c ∈ s.take 4, c ∈ DGS := fun c hc => hd c (by rw [hrow2]; exact List.mem_append_right _ (List.mem_of_mem_take hc))
      have hgl : (s.take 4).length = min 4 s.length := List.length_take
      rw [hcc, dgo_cons] at hgo
      have hg4 : p.length + 4 = (p ++ s.take 4).length ∨ s.drop 4 = [] := by
        by_cases h4 : 4 ≤ s.length
        · left; rw [List.length_append]; omega
        · right; exact List.drop_of_length_le (by omega)
      generalize hgg : s.take 4 = g at *
      have hc' : DL.cutD row (some ((p.length : Nat) : Int)) (some (((p.length : Nat) : Int) + 4)) = g := hc
      have dec : ∀ R : QD, (∀ q3, S2 q3 = none → R (opt (gS g)) (su S2 q3 (.lst [.str g]))) → dCall 1 sp_llaw_decoded [] (dCons (dNew (dLst (dCons (dSlice (dVar 5) (dPart (dVar 6)) (dPart (dOp dAdd (dVar 6) (dC (.int 4))))) dNil))) dNil) [some (.rf q), some (.int 1), some (.str DGS), some (.rf pa), x4, some (.str row), some (.int ((p.length : Nat) : Int)), x7] S2 R := fun R hR => by
        show row.length ≤ sizeLine ∧ 1 ≤ sizeLine ∧ ∀ q3, S2 q3 = none → 1 = 1 ∧ sp_llaw_decoded [.rf q3] (su S2 q3 (.lst [.str (DL.cutD row (some ((p.length : Nat) : Int)) (some (((p.length : Nat) : Int) + 4)))])) R
        rw [hc']
        refine ⟨by omega, by omega, fun q3 hq3 => ⟨rfl, q3, [g], rfl, su_same, ⟨by show 1 ≤ 1000; decide, by rw [show [g].flatten = g by simp]; omega⟩, ?_⟩⟩
        rw [LDc_one hg (by omega) (by omega)]
        exact hR q3 hq3
      refine dec _ fun q3 hq3 => ?_
      have le3 : Sle S (su S2 q3 (.lst [.str g])) := le2.trans (Sle.new hq3)
      have hpa3 : (su S2 q3 (.lst [.str g])) pa = some (.lst (ilst (PL ls 1))) := Sle.new hq3 pa _ hpa2
      generalize su S2 q3 (.lst [.str g]) = S3 at *
      cases eg : gS g with
      | none =>
        rw [eg] at hgo
        dsimp only at hgo
        rw [hgo] at h''
        have hat : atI (ilst (PL ls 1)) ((p.length + g.length - 1 : Nat) : Int) = some (.int ((lineAt ls (p.length + g.length - 1) 1 : Nat) : Int)) := atI_nat (by unfold ilst; rw [List.getElem?_map, hP _ (by omega)]; rfl)
        show row.length ≤ sizeLine ∧ (match S3 pa with | some (.lst xs) => (match atI xs (if ((row.length : Nat) : Int) - 1 < ((p.length : Nat) : Int) + 3 then ((row.length : Nat) : Int) - 1 else ((p.length : Nat) : Int) + 3) with | some d => (endsD Q).rt d S3 | none => False) | _ => False)
        rw [hpa3]
        have em : (if ((row.length : Nat) : Int) - 1 < ((p.length : Nat) : Int) + 3 then ((row.length : Nat) : Int) - 1 else ((p.length : Nat) : Int) + 3) = ((p.length + g.length - 1 : Nat) : Int) := by split <;> omega
        dsimp only
        rw [em, hat]
        exact ⟨by omega, S, le3, h''.a⟩
      | some y =>
        rw [eg] at hgo
        dsimp only at hgo
        show N [some (.rf q), some (.int 1), some (.str DGS), some (.rf pa), x4, some (.str row), some (.int ((p.length : Nat) : Int)), x7] S3
        refine hN _ _ ⟨p ++ g, s.drop 4, _, hA', le3, hpa3, ?_, rfl⟩
        have e1 : dgo (p ++ g).length (chs 4 (s.drop 4)) = dgo (p.length + 4) (chs 4 (s.drop 4)) := by
          rcases hg4 with z | z
          · rw [z]
          · rw [z]; rfl
        rw [e1]
        cases e2 : dgo (p.length + 4) (chs 4 (s.drop 4)) with
        | inl k => rw [e2] at hgo; exact hgo
        | inr t => rw [e2] at hgo; exact hgo
    · rintro δ S2 ⟨p, s, x6, hA, le2, hpa2, hgo, rfl⟩
      have s0 := hA.nil (by decide)
      subst s0
      obtain ⟨t', hgo⟩ : ∃ t', dgo 0 (chs 4 row) = .inr t' := hgo
      rw [hgo] at h''
      exact ⟨S, le2, h''.a⟩
end LW

set_option Elab.async false
set_option linter.all false
set_option maxRecDepth 100000
set_option maxHeartbeats 4000000
set_option exponentiation.threshold 100
namespace LW
open PySem PySem.Spec L2 DL
local macro_rules | `(tactic| walk_at "dl") => `(tactic| simp -implicitDefEqProofs only [↓dRepl, ↓dLstripC, ↓dRstripC, ↓dFind3, ↓dTabVIn, ↓dTabVIx, ↓dIntB, ↓dStrB, ↓dDisp, ↓dPairs, ↓dDNew, ↓dDGet, ↓dDIn, ↓dDPut, ↓dDGet1, ↓dDGet2, ↓dRepl0, ↓dFalls, ↓toKy, ↓kvsOf, ↓dFmt, ↓dJsE, ↓dJs, ↓dSumL, ↓dAllL, ↓dAnyL, ↓dPartn, ↓dStrip, ↓dStripC, ↓dLower, ↓dUpper, ↓dRfind, ↓dCount, ↓okL, ↓dGunl, ↓dLc2_k, ↓dStarL, ↓dListT, ↓dTupT, ↓dSetK, ↓dSortS, ↓dEqL, ↓dOnL, ↓dStrA, ↓dTabGet, ↓dTabIx, ↓dZipM, ↓dInD, ↓dTupRg, ↓dLstRg, ↓dInT, ↓dSetT, ↓dZipT, ↓dSetAll, ↓dEqO, ↓dMulT, ↓dSeq, ↓dIfS, ↓dTB, ↓dOp, ↓dVar, ↓dC, ↓dLt, ↓dLe, ↓dGt, ↓dGe, ↓rII, ↓rIIc, ↓dCB, ↓dCons, ↓dNil, ↓dLen, ↓dInt, ↓dRet, ↓dRetN, ↓dNext, ↓dIx, ↓dAt, ↓startD, List.map_cons, List.map_nil, List.cons_append, List.nil_append, List.append_nil, List.length_cons, List.length_nil, List.getElem?_cons_zero, List.getElem?_cons_succ, List.length_map, ↓dAsg, ↓dName, ↓dNew_k, ↓dLst, ↓dFor_k, ↓dRng1, ↓dRng2, ↓dCall_k, ↓dAdd, ↓dSub, ↓dMul, ↓dMod, ↓dFdiv, ↓dPow, ↓dEq, ↓dNe, ↓scd, ↓dIsN, ↓dNotN, ↓dIsB, ↓dNotB, ↓dUn, ↓dNeg, ↓dTru, ↓dTruS, ↓dAnd, ↓dOr, ↓dNot, ↓dNotV, ↓dAndV, ↓dOrV, ↓dIfE, ↓dTup, ↓dDrop, ↓dBM, ↓dBM0, ↓tyD, ↓dApp, ↓dSetL, ↓dAsL, ↓dOnL, ↓dOnN_k, ↓dIsi, ↓tyName, isT, ↓dBreak, ↓dCont, ↓dPar, ↓endsD, List.set_cons_zero, List.set_cons_succ, List.replicate_succ, List.replicate_zero, su_same, ↓dLc_k, ↓dWhile_k, ↓dWipe, ↓dYes, ↓dIt, ↓dItN, ↓dSlice, ↓dPart, ↓dNoP, ↓dCut, ↓dSliceE, ↓dIxL, ↓dChain, ↓dIn, ↓dNotIn, ↓dInS, ↓mS0, ↓mS1, ↓dSta, ↓dEnd, ↓dFind, ↓dIsasc, ↓dIsdig, ↓dIsalp, ↓dIsaln, ↓dIslow, ↓dIspri, ↓okT, ↓okU, ↓ok2, ↓dFind4, ↓dSplit, ↓dJoin, ↓dJoinT, ↓dMulS, ↓dCatL, ↓dCatE, ↓dCatR, ↓dCatEE, ↓dStar, ↓dIntS, ↓dStr, ↓dMax, ↓dMin, ↓dII, ↓dFld_m, ↓dSetF_m, ↓dMeth_m, ↓dMake_k, ↓dGtup, ↓dGcons, ↓dGnil, true_and, and_true, Nat.add_zero, reduceCtorEq, ↓reduceIte, Bool.not_true, Bool.not_false, Bool.false_eq_true, if_true, if_false])
local macro_rules | `(tactic| walk_at "dl*") => `(tactic| simp -implicitDefEqProofs only [*, ↓dRepl, ↓dLstripC, ↓dRstripC, ↓dFind3, ↓dTabVIn, ↓dTabVIx, ↓dIntB, ↓dStrB, ↓dDisp, ↓dPairs, ↓dDNew, ↓dDGet, ↓dDIn, ↓dDPut, ↓dDGet1, ↓dDGet2, ↓dRepl0, ↓dFalls, ↓toKy, ↓kvsOf, ↓dFmt, ↓dJsE, ↓dJs, ↓dSumL, ↓dAllL, ↓dAnyL, ↓dPartn, ↓dStrip, ↓dStripC, ↓dLower, ↓dUpper, ↓dRfind, ↓dCount, ↓okL, ↓dGunl, ↓dLc2_k, ↓dStarL, ↓dListT, ↓dTupT, ↓dSetK, ↓dSortS, ↓dEqL, ↓dOnL, ↓dStrA, ↓dTabGet, ↓dTabIx, ↓dZipM, ↓dInD, ↓dTupRg, ↓dLstRg, ↓dInT, ↓dSetT, ↓dZipT, ↓dSetAll, ↓dEqO, ↓dMulT, ↓dSeq, ↓dIfS, ↓dTB, ↓dOp, ↓dVar, ↓dC, ↓dLt, ↓dLe, ↓dGt, ↓dGe, ↓rII, ↓rIIc, ↓dCB, ↓dCons, ↓dNil, ↓dLen, ↓dInt, ↓dRet, ↓dRetN, ↓dNext, ↓dIx, ↓dAt, ↓startD, List.map_cons, List.map_nil, List.cons_append, List.nil_append, List.append_nil, List.length_cons, List.length_nil, List.getElem?_cons_zero, List.getElem?_cons_succ, List.length_map, ↓dAsg, ↓dName, ↓dNew_k, ↓dLst, ↓dFor_k, ↓dRng1, ↓dRng2, ↓dCall_k, ↓dAdd, ↓dSub, ↓dMul, ↓dMod, ↓dFdiv, ↓dPow, ↓dEq, ↓dNe, ↓scd, ↓dIsN, ↓dNotN, ↓dIsB, ↓dNotB, ↓dUn, ↓dNeg, ↓dTru, ↓dTruS, ↓dAnd, ↓dOr, ↓dNot, ↓dNotV, ↓dAndV, ↓dOrV, ↓dIfE, ↓dTup, ↓dDrop, ↓dBM, ↓dBM0, ↓tyD, ↓dApp, ↓dSetL, ↓dAsL, ↓dOnL, ↓dOnN_k, ↓dIsi, ↓tyName, isT, ↓dBreak, ↓dCont, ↓dPar, ↓endsD, List.set_cons_zero, List.set_cons_succ, List.replicate_succ, List.replicate_zero, su_same, ↓dLc_k, ↓dWhile_k, ↓dWipe, ↓dYes, ↓dIt, ↓dItN, ↓dSlice, ↓dPart, ↓dNoP, ↓dCut, ↓dSliceE, ↓dIxL, ↓dChain, ↓dIn, ↓dNotIn, ↓dInS, ↓mS0, ↓mS1, ↓dSta, ↓dEnd, ↓dFind, ↓dIsasc, ↓dIsdig, ↓dIsalp, ↓dIsaln, ↓dIslow, ↓dIspri, ↓okT, ↓okU, ↓ok2, ↓dFind4, ↓dSplit, ↓dJoin, ↓dJoinT, ↓dMulS, ↓dCatL, ↓dCatE, ↓dCatR, ↓dCatEE, ↓dStar, ↓dIntS, ↓dStr, ↓dMax, ↓dMin, ↓dII, ↓dFld_m, ↓dSetF_m, ↓dMeth_m, ↓dMake_k, ↓dGtup, ↓dGcons, ↓dGnil, true_and, and_true, Nat.add_zero, reduceCtorEq, ↓reduceIte, Bool.not_true, Bool.not_false, Bool.false_eq_true, if_true, if_false])
def spE : ED := (dOp dAdd (dOp dAdd (dSlice (dOp dIx (dVar 6) (dVar 9)) dNoP (dPart (dVar 10))) (dVar 11)) (dSlice (dOp dIx (dVar 6) (dVar 9)) (dPart (dOp dAdd (dVar 10) (dCall 2 sp_llaw_draw [] (dCons (dVar 1) (dCons (dC (.int 2)) dNil))))) dNoP))
def law_w8 : SD := (dIfS (dAnd (dTB (dOp dIsN (dVar 13) (dC .non))) (dOr (dTB (dOp dNe (dCB dLen (dCons (dVar 5) dNil)) (dC (.int 1)))) (dNot (dTru (dCall 2 (sp_like 64) [] (dCons (dOp dIx (dVar 5) (dC (.int 0))) (dCons (dCall 1 sp_llaw_decoded [] (dCons (dVar 12) dNil)) dNil))))))) (dRet (dC (.bl false))) dNext)
def law_w7 : SD := dSeq (dIfS (dAnd (dTB (dOp dNotN (dVar 13) (dC .non))) (dTB (dEqO true (dVar 5) (dLst (dCons (dVar 13) (dCons (dC (.str [98, 97, 100, 32, 99, 111, 100, 105, 110, 103])) dNil)))))) (dRet (dC (.bl false))) dNext) law_w8
def law_w6 : SD := dSeq (dAsg (dCall 1 sp_llaw_told [] (dCons (dOnL (fun ds S Q => Q (.tup ds) S) (dAsL (dVar 12))) dNil)) (dName 5)) law_w7
def law_w5 : SD := dSeq (dAsg (dCall 2 sp_llaw_coding_fault [] (dCons (dVar 12) (dCons (dC (.int 1)) dNil))) (dName 13)) law_w6
def law_w4 : SD := dSeq (dAsg (dNew (dCatL (dCatL (dSliceE (dVar 6) dNoP (dPart (dVar 9))) (dLst (dCons spE dNil))) (dSliceE (dVar 6) (dPart (dOp dAdd (dVar 9) (dC (.int 1)))) dNoP))) (dName 12)) law_w5
def law_w3 : SD := dSeq (dAsg (dCall 2 sp_llaw_pick [] (dCons (dVar 1) (dCons (dNew (dLst (dCons (dC (.str [45])) (dCons (dC (.str [43])) (dCons (dC (.str [90])) (dCons (dC (.str [48])) (dCons (dC (.str [])) (dCons (dC (.str [32])) (dCons (dC (.str [61])) (dCons (dC (.str [95])) dNil)))))))))) dNil))) (dName 11)) law_w4
def law_w2 : SD := dSeq (dAsg (dCall 2 sp_llaw_draw [] (dCons (dVar 1) (dCons (dOp dAdd (dCB dLen (dCons (dOp dIx (dVar 6) (dVar 9)) dNil)) (dC (.int 1))) dNil))) (dName 10)) law_w3
def law_w1 : SD := dSeq (dAsg (dCall 2 sp_llaw_draw [] (dCons (dVar 1) (dCons (dCB dLen (dCons (dVar 6) dNil)) dNil))) (dName 9)) law_w2
def law_b1_8 : SD := (dFor (dRng1 (dCons (dC (.int 2)) dNil)) (dName 8) law_w1)
def law_b1_7 : SD := dSeq (dIfS (dOr (dTB (dOp dNe (dCB dLen (dCons (dVar 7) dNil)) (dC (.int 1)))) (dOr (dNot (dTru (dCall 2 (sp_like 64) [] (dCons (dOp dIx (dVar 7) (dC (.int 0))) (dCons (dVar 3) dNil))))) (dNot (dTru (dCall 2 (sp_like 64) [] (dCons (dOp dIx (dCall 1 sp_llaw_told [] (dCons (dVar 4) dNil)) (dC (.int 0))) (dCons (dVar 3) dNil))))))) (dRet (dC (.bl false))) dNext) (law_b1_8)
def law_b1_6 : SD := dSeq (dAsg (dCall 1 sp_llaw_told [] (dCons (dOnL (fun ds S Q => Q (.tup ds) S) (dAsL (dVar 6))) dNil)) (dName 7)) (law_b1_7)
def law_b1_5 : SD := dSeq (dAsg (dCall 2 sp_llaw_cut [] (dCons (dVar 1) (dCons (dBM "str" dJoinT (dC (.str [])) (dCons (dVar 4) dNil)) dNil))) (dName 6)) (law_b1_6)
def law_b1_4 : SD := dSeq (dIfS (dNot (dTru (dCall 2 sp_llaw_named [] (dCons (dVar 5) (dCons (dVar 4) dNil))))) (dRet (dC (.bl false))) dNext) (law_b1_5)
def law_b1_3 : SD := dSeq (dAsg (dCall 1 sp_write_coding [] (dCons (dVar 3) dNil)) (dName 5)) (law_b1_4)
def law_b1_2 : SD := dSeq (dAsg (dCall 1 sp_llaw_code [] (dCons (dVar 3) dNil)) (dName 4)) (law_b1_3)
def law_b1_1 : SD := dSeq (dIfS (dTB (dOp dEq (dCall 2 sp_llaw_draw [] (dCons (dVar 1) (dCons (dC (.int 4)) dNil))) (dC (.int 0)))) (dAsg (dOp dMulS (dVar 3) (dOp dAdd (dC (.int 1)) (dCall 2 sp_llaw_draw [] (dCons (dVar 1) (dCons (dC (.int 4)) dNil))))) (dName 3)) dNext) (law_b1_2)
def law_k2 : SD := (dRet (dC (.bl true)))
def law_k1 : SD := dSeq (dFor (dRng1 (dCons (dC (.int 3)) dNil)) (dName 2) (dSeq (dAsg (dCall 2 sp_llaw_free [] (dCons (dVar 1) (dCons (dCall 2 sp_llaw_draw [] (dCons (dVar 1) (dCons (dC (.int 60)) dNil))) dNil))) (dName 3)) (law_b1_1))) (law_k2)
theorem cut_law : rd_law = dSeq (dAsg (dNew (dLst (dCons (dCall 3 sp_llaw_digits [] (dCons (dVar 0) (dCons (dC (.int 0)) (dCons (dC (.int 63)) dNil)))) (dCons (dC (.int 0)) dNil)))) (dName 1)) (law_k1) := rfl

theorem LDc_DD {ls : List (List Nat)} {t : List Nat} (h : DD ls = .inr t) : LDc ls = some t := by
  unfold DD at h
  cases e : bad1 ls 1 with
  | some m => rw [e] at h; cases h
  | none =>
    rw [e] at h
    dsimp only at h
    unfold LDc
    rw [if_pos (show okl ls.flatten = true from List.all_eq_true.mpr fun c hc => decide_eq_true (bad1_ok ls 1 e c hc))]
    cases e2 : dgo 0 (chs 4 ls.flatten) with
    | inl p => rw [e2] at h; cases h
    | inr t' => rw [e2] at h; cases h; rfl
theorem told_eq (n : Nat) : ∃ z, toPys [.int ((n : Nat) : Int), .str badc] = some z ∧ SeqAt.shaped (.list z) = true ∧ PyData.eqv (.list z) (.list z) = true := by
  refine ⟨_, rfl, ?_, ?_⟩
  · have h : PyData.canLay0 (.str ⟨badc.toArray⟩) = true := by decide +kernel
    show (true && (PyData.canLay0 (.str ⟨badc.toArray⟩) && true) && decide (max 0 (max 0 0) + 1 ≤ 64)) = true
    rw [h]
    rfl
  · simp [PyData.eqv, PyData.eqvAll]
section
variable {F : EndsD} {b ql : Addr} {x0 x2 x4 x5 x7 x8 x9 x10 x11 x12 x13 : Option D} {S : Sh} {t : List Nat} {ls : List (List Nat)}
theorem eSp {k at' : Nat} {l sg : List Nat} {R : QD} (hb : Box S b) (hq : S ql = some (.lst (tls ls))) (hk : ls[k]? = some l) (hl : l.length ≤ 9000) (hsg : sg.length ≤ 10) (h : ∀ l' S1, l'.length ≤ l.length + 10 → Bx b S S1 → R (.str l') S1) :
    spE [x0, some (.rf b), x2, some (.str t), x4, x5, some (.rf ql), x7, x8, some (.int ((k : Nat) : Int)), some (.int ((at' : Nat) : Int)), some (.str sg), x12, x13] S R := by
  have sz := sz6
  have h' := Hd.mk h
  clear h
  have hat : atI (tls ls) ((k : Nat) : Int) = some (.str l) := atI_nat (by unfold tls; rw [List.getElem?_map, hk]; rfl)
  unfold spE
  walk_at "dl"
  rw [hq]
  dsimp only
  rw [hat]
  dsimp only
  rw [cut_no]
  have l1 : (l.take at').length ≤ l.length := by rw [List.length_take]; omega
  refine ⟨by omega, by omega, b, 2, rfl, by decide, hb, fun y S2 y0 y1 bx => ?_⟩
  obtain ⟨m, rfl⟩ := Int.eq_ofNat_of_zero_le y0
  have e : ((at' : Nat) : Int) + ((m : Nat) : Int) = ((at' + m : Nat) : Int) := by omega
  show l.length ≤ sizeLine ∧ (l.take at' ++ sg).length + (DL.cutD l (some (((at' : Nat) : Int) + ((m : Nat) : Int))) none).length ≤ sizeLine ∧ R (.str (l.take at' ++ sg ++ DL.cutD l (some (((at' : Nat) : Int) + ((m : Nat) : Int))) none)) S2
  rw [e, cut_on]
  have l2 : (l.take at').length + (l.drop (at' + m)).length ≤ l.length := by rw [List.length_take, List.length_drop]; omega
  exact ⟨by omega, by rw [List.length_append]; omega, h'.a _ S2 (by rw [List.length_append, List.length_append]; omega) bx⟩
theorem dgo_len : ∀ (gs : List (List Nat)) (a : Nat) (x : List Nat), dgo a gs = .inr x → x.length ≤ gs.flatten.length
  | [], a, x, h => by cases h; exact Nat.le_refl _
  | g :: gs, a, x, h => by
    rw [dgo_cons] at h
    cases e : gS g with
    | none => rw [e] at h; cases h
    | some y =>
      rw [e] at h
      dsimp only at h
      cases e2 : dgo (a + 4) gs with
      | inl p => rw [e2] at h; cases h
      | inr t =>
        rw [e2] at h
        cases h
        have := dgo_len gs _ _ e2
        have := gS_len e
        rw [List.flatten_cons, List.length_append, List.length_append]
        omega
theorem DD_len {sp : List (List Nat)} {x : List Nat} (h : DD sp = .inr x) : x.length ≤ sp.flatten.length := by
  unfold DD at h
  cases e : bad1 sp 1 with
  | some m => rw [e] at h; cases h
  | none =>
    rw [e] at h
    dsimp only at h
    cases e2 : dgo 0 (chs 4 sp.flatten) with
    | inl p => rw [e2] at h; cases h
    | inr t =>
      rw [e2] at h
      cases h
      have := dgo_len _ _ _ e2
      rw [chs_flat (by decide) sp.flatten.length sp.flatten (Nat.le_refl _)] at this
      exact this
theorem sz_str {x : List Nat} (h : x.length ≤ 10000) : szd (.str x) = true := by
  show decide (x.length ≤ 1000000) = true
  exact decide_eq_true (by omega)
variable {sp : List (List Nat)} {q5 q12 : Addr}
theorem w8 (h12 : S q12 = some (.lst (tls sp))) (h5 : S q5 = some (.lst (toldL sp))) (hz : Sz sp) (hN : F.nx [x0, some (.rf b), x2, some (.str t), x4, some (.rf q5), some (.rf ql), x7, x8, x9, x10, x11, some (.rf q12), some (FL sp)] S) :
    law_w8 F [x0, some (.rf b), x2, some (.str t), x4, some (.rf q5), some (.rf ql), x7, x8, x9, x10, x11, some (.rf q12), some (FL sp)] S := by
  have sz := sz6
  unfold law_w8
  unfold FL toldL at *
  cases e : DD sp with
  | inl n =>
    rw [e] at hN
    exact if_no (tq_iff (tq_and (a := false) (b := false) (fun Q hQ => hQ) fun z => by cases z) rfl) hN
  | inr x =>
    rw [e] at hN h5
    have hx := DD_len e
    have hl := LDc_DD e
    have hx2 : x.length ≤ 10000 := Nat.le_trans hx hz.2
    refine if_no (tq_iff (tq_and (a := true) (b := false) (fun Q hQ => hQ) fun _ => tq_iff (tq_or (a := false) (b := false) (fun Q hQ => ?_) fun _ => fun Q hQ => ?_) rfl) rfl) hN
    · show match S q5 with | some (.lst xs) => Q (!decide (((xs.length : Nat) : Int) = 1)) S | _ => False
      rw [h5]
      exact hQ
    · show match S q5 with | some (.lst xs) => (match atI xs 0 with | some d => 1 = 1 ∧ sp_llaw_decoded [.rf q12] S (fun d2 S1 => 2 = 2 ∧ sp_like 64 [d, d2] S1 (fun x S2 => match dTruS S2 x with | some b => Q (!b) S2 | none => False)) | none => False) | _ => False
      rw [h5]
      show 1 = 1 ∧ sp_llaw_decoded [.rf q12] S (fun d2 S1 => 2 = 2 ∧ sp_like 64 [.str x, d2] S1 (fun x S2 => match dTruS S2 x with | some b => Q (!b) S2 | none => False))
      refine ⟨rfl, q12, sp, rfl, h12, hz, rfl, .str x, .str x, ?_, rfl, rfl, sz_str hx2, sz_str hx2, by show 0 < 64; decide, ?_⟩
      · rw [hl]; rfl
      · rw [deq_ss, decide_eq_true rfl]
        exact hQ
theorem w7 (h12 : S q12 = some (.lst (tls sp))) (h5 : S q5 = some (.lst (toldL sp))) (hz : Sz sp) (hN : F.nx [x0, some (.rf b), x2, some (.str t), x4, some (.rf q5), some (.rf ql), x7, x8, x9, x10, x11, some (.rf q12), some (FL sp)] S) :
    law_w7 F [x0, some (.rf b), x2, some (.str t), x4, some (.rf q5), some (.rf ql), x7, x8, x9, x10, x11, some (.rf q12), some (FL sp)] S := by
  have sz := sz6
  unfold law_w7
  refine if_no ?_ (w8 h12 h5 hz hN)
  unfold FL toldL at *
  cases e : DD sp with
  | inl n =>
    rw [e] at h5
    refine tq_iff (tq_and (a := true) (b := false) (fun Q hQ => hQ) fun _ => fun Q hQ => ?_) rfl
    show 2 ≤ sizeLine ∧ (match S q5 with | some (.lst xs) => dEqP true ((toPys xs).map .list) ((toPys [.int ((n : Nat) : Int), .str badc]).map .list) S (fun d S1 => match d with | .bl b => Q b S1 | _ => False) | _ => False)
    rw [h5]
    obtain ⟨z, z1, z2, z3⟩ := told_eq n
    dsimp only
    rw [z1]
    refine ⟨by omega, z2, z2, ?_⟩
    rw [z3]
    exact hQ
  | inr x => exact tq_iff (tq_and (a := false) (b := false) (fun Q hQ => hQ) fun z => by cases z) rfl
theorem w5 (hb : Box S b) (hq : S ql = some (.lst (tls ls))) (h12 : S q12 = some (.lst (tls sp))) (hz : Sz sp) (hN : ∀ x5 x12 x13 S', Box S' b → S' ql = some (.lst (tls ls)) → F.nx [x0, some (.rf b), x2, some (.str t), x4, x5, some (.rf ql), x7, x8, x9, x10, x11, x12, x13] S') :
    law_w5 F [x0, some (.rf b), x2, some (.str t), x4, x5, some (.rf ql), x7, x8, x9, x10, x11, some (.rf q12), x13] S := by
  have sz := sz6
  unfold law_w5
  refine ⟨rfl, q12, sp, rfl, h12, hz, ?_⟩
  show law_w6 F [x0, some (.rf b), x2, some (.str t), x4, x5, some (.rf ql), x7, x8, x9, x10, x11, some (.rf q12), some (FL sp)] S
  unfold law_w6
  show match S q12 with | some (.lst xs) => 1 = 1 ∧ sp_llaw_told [.tup xs] S (fun d S1 => law_w7 F [x0, some (.rf b), x2, some (.str t), x4, some d, some (.rf ql), x7, x8, x9, x10, x11, some (.rf q12), some (FL sp)] S1) | _ => False
  rw [h12]
  refine ⟨rfl, sp, rfl, hz, fun q hq0 => ?_⟩
  exact w7 (Sle.new hq0 _ _ h12) su_same hz (hN _ _ _ _ (hb.new hq0) (Sle.new hq0 _ _ hq))
theorem w4 {k at' : Nat} {sg : List Nat} (hb : Box S b) (hqb : ql ≠ b) (hq : S ql = some (.lst (tls ls))) (hk : k < ls.length) (hll : ls.length ≤ 100) (hfl : ls.flatten.length ≤ 9000) (hsg : sg.length ≤ 10) (hN : ∀ x5 x12 x13 S', Box S' b → S' ql = some (.lst (tls ls)) → F.nx [x0, some (.rf b), x2, some (.str t), x4, x5, some (.rf ql), x7, x8, some (.int ((k : Nat) : Int)), some (.int ((at' : Nat) : Int)), some (.str sg), x12, x13] S') :
    law_w4 F [x0, some (.rf b), x2, some (.str t), x4, x5, some (.rf ql), x7, x8, some (.int ((k : Nat) : Int)), some (.int ((at' : Nat) : Int)), some (.str sg), x12, x13] S := by
  have sz := sz6
  have hmem : ls[k] ∈ ls := List.getElem_mem hk
  have hll2 := len_flat hmem
  have hdr : ls.drop k = ls[k] :: ls.drop (k + 1) := List.drop_eq_getElem_cons hk
  have hsum : (ls.take k).flatten.length + (ls[k].length + (ls.drop (k + 1)).flatten.length) = ls.flatten.length := by
    have := congrArg (fun x => (List.flatten x).length) (List.take_append_drop k ls)
    rw [hdr] at this
    simp only [List.flatten_append, List.length_append, List.flatten_cons] at this
    omega
  unfold law_w4
  show match S ql with | some (.lst ds) => spE [x0, some (.rf b), x2, some (.str t), x4, x5, some (.rf ql), x7, x8, some (.int ((k : Nat) : Int)), some (.int ((at' : Nat) : Int)), some (.str sg), x12, x13] S (fun d S1 => 1 ≤ sizeLine ∧ (DL.cutD ds none (some ((k : Nat) : Int))).length + 1 ≤ sizeLine ∧ (match S1 ql with | some (.lst es) => (DL.cutD ds none (some ((k : Nat) : Int)) ++ [d]).length + (DL.cutD es (some (((k : Nat) : Int) + 1)) none).length ≤ sizeLine ∧ ∀ p, S1 p = none → law_w5 F [x0, some (.rf b), x2, some (.str t), x4, x5, some (.rf ql), x7, x8, some (.int ((k : Nat) : Int)), some (.int ((at' : Nat) : Int)), some (.str sg), some (.rf p), x13] (su S1 p (.lst ((DL.cutD ds none (some ((k : Nat) : Int)) ++ [d]) ++ DL.cutD es (some (((k : Nat) : Int) + 1)) none))) | _ => False)) | _ => False
  rw [hq]
  refine eSp hb hq (List.getElem?_eq_getElem hk) (by omega) hsg fun l' S1 hl' bx => ?_
  have hq1 : S1 ql = some (.lst (tls ls)) := bx.kb.2 ql _ hqb hq
  rw [hq1]
  dsimp only
  rw [cut_no, show ((k : Nat) : Int) + 1 = ((k + 1 : Nat) : Int) by omega, cut_on]
  have e : (tls ls).take k ++ [D.str l'] ++ (tls ls).drop (k + 1) = tls (ls.take k ++ [l'] ++ ls.drop (k + 1)) := by
    unfold tls
    rw [List.map_append, List.map_append, List.map_take, List.map_drop]
    rfl
  have tl := tls_len ls
  refine ⟨by omega, by rw [List.length_take]; omega, by rw [List.length_append, List.length_take, List.length_drop]; show _ + 1 + _ ≤ _; omega, fun p hp => ?_⟩
  rw [e]
  refine w5 (bx.1.new hp) (Sle.new hp _ _ hq1) su_same ⟨?_, ?_⟩ fun x5 x12 x13 S' h1 h2 => hN x5 x12 x13 S' h1 h2
  · rw [List.length_append, List.length_append, List.length_take, List.length_drop]
    show _ + 1 + _ ≤ 1000
    omega
  · simp only [List.flatten_append, List.length_append]
    rw [show [l'].flatten = l' by simp]
    omega
theorem w1 (hb : Box S b) (hqb : ql ≠ b) (hq : S ql = some (.lst (tls ls))) (hl1 : ls.length = 13) (hfl : ls.flatten.length ≤ 9000) (hN : ∀ x5 x9 x10 x11 x12 x13 S', Box S' b → S' ql = some (.lst (tls ls)) → F.nx [x0, some (.rf b), x2, some (.str t), x4, x5, some (.rf ql), x7, x8, x9, x10, x11, x12, x13] S') :
    law_w1 F [x0, some (.rf b), x2, some (.str t), x4, x5, some (.rf ql), x7, x8, x9, x10, x11, x12, x13] S := by
  have sz := sz6
  have tl := tls_len ls
  unfold law_w1
  show match S ql with | some (.lst xs) => 2 = 2 ∧ sp_llaw_draw [.rf b, .int ((xs.length : Nat) : Int)] S (fun d S1 => law_w2 F [x0, some (.rf b), x2, some (.str t), x4, x5, some (.rf ql), x7, x8, some d, x10, x11, x12, x13] S1) | _ => False
  rw [hq]
  refine ⟨rfl, b, _, rfl, by omega, hb, fun r S1 r0 r1 bx => ?_⟩
  obtain ⟨k, rfl⟩ := Int.eq_ofNat_of_zero_le r0
  have hk : k < ls.length := by omega
  have hq1 : S1 ql = some (.lst (tls ls)) := bx.kb.2 ql _ hqb hq
  have hat : atI (tls ls) ((k : Nat) : Int) = some (.str ls[k]) := atI_nat (by unfold tls; rw [List.getElem?_map, List.getElem?_eq_getElem hk]; rfl)
  have hll2 := len_flat (List.getElem_mem hk)
  unfold law_w2
  walk_at "dl"
  rw [hq1]
  dsimp only
  rw [hat]
  dsimp only
  refine ⟨by omega, b, _, rfl, by omega, bx.1, fun r2 S2 r20 r21 bx2 => ?_⟩
  obtain ⟨a, rfl⟩ := Int.eq_ofNat_of_zero_le r20
  have hq2 : S2 ql = some (.lst (tls ls)) := bx2.kb.2 ql _ hqb hq1
  unfold law_w3
  refine ⟨by show 8 ≤ _; omega, fun p hp => ⟨rfl, b, p, _, rfl, bx2.1.new hp, su_same, ?_, by decide, by decide, fun x hx S3 kb => ?_⟩⟩
  · intro z
    obtain ⟨dg, gs, a', h1, _⟩ := bx2.1
    rw [← z, hp] at h1; cases h1
  · have hq3 : S3 ql = some (.lst (tls ls)) := kb.2 ql _ hqb (Sle.new hp _ _ hq2)
    obtain ⟨sg, rfl, hs⟩ : ∃ sg, x = .str sg ∧ sg.length ≤ 10 := by
      simp only [List.mem_cons, List.not_mem_nil, or_false] at hx
      rcases hx with rfl | rfl | rfl | rfl | rfl | rfl | rfl | rfl <;> exact ⟨_, rfl, by decide⟩
    exact w4 kb.1 hqb hq3 hk (by omega) hfl hs fun x5 x12 x13 S' h1 h2 => hN x5 _ _ _ x12 x13 S' h1 h2
def Nl (F : EndsD) (b : Addr) (x0 : Option D) : Prop := ∀ x2 x3 x4 x5 x6 x7 x8 x9 x10 x11 x12 x13 S', Box S' b → F.nx [x0, some (.rf b), x2, x3, x4, x5, x6, x7, x8, x9, x10, x11, x12, x13] S'
mutual
theorem deq_self : ∀ d : D, pln d = true → deq d d = true
  | .non, _ => rfl
  | .bl b, _ => by unfold deq; exact beq_self_eq_true b
  | .int b, _ => by unfold deq; exact beq_self_eq_true b
  | .str b, _ => by unfold deq; exact beq_self_eq_true b
  | .tup xs, h => by unfold deq; exact deqs_self xs h
  | .ty _, h => by cases h
  | .frz _, h => by cases h
  | .rf _, h => by cases h
  | .kst _ _, h => by cases h
theorem deqs_self : ∀ ds : List D, plns ds = true → deqs ds ds = true
  | [], _ => rfl
  | x :: xs, h => by
    have h' : (pln x && plns xs) = true := h
    rw [Bool.and_eq_true] at h'
    unfold deqs
    rw [deq_self x h'.1, deqs_self xs h'.2]; rfl
end
theorem tls_pl : ∀ ls : List (List Nat), (∀ l ∈ ls, l.length ≤ 100000) → plns (tls ls) = true ∧ szds (tls ls) = true ∧ deps (tls ls) = 0
  | [], _ => ⟨rfl, rfl, rfl⟩
  | l :: ls, h => by
    obtain ⟨h1, h2, h3⟩ := tls_pl ls fun x hx => h x (List.mem_cons_of_mem _ hx)
    have := h l List.mem_cons_self
    refine ⟨?_, ?_, ?_⟩
    · show (true && plns (tls ls)) = true; rw [h1]; rfl
    · show (decide (l.length ≤ 1000000) && szds (tls ls)) = true; rw [h2, decide_eq_true (by omega)]; rfl
    · show max 0 (deps (tls ls)) = 0; rw [h3]; rfl
theorem tls_pln {ls : List (List Nat)} (hn : ls.length ≤ 100000) (h : ∀ l ∈ ls, l.length ≤ 100000) : plns (tls ls) = true ∧ szd (.tup (tls ls)) = true ∧ dep (.tup (tls ls)) ≤ 1 := by
  obtain ⟨h1, h2, h3⟩ := tls_pl ls h
  refine ⟨h1, ?_, ?_⟩
  · show (decide ((tls ls).length ≤ 100000) && szds (tls ls)) = true
    rw [h2, tls_len, decide_eq_true hn]; rfl
  · show deps (tls ls) + 1 ≤ 1
    rw [h3]; omega
theorem law_8 (hb : Box S b) (hqb : ql ≠ b) (hq : S ql = some (.lst (tls ls))) (hl1 : ls.length = 13) (hfl : ls.flatten.length ≤ 9000) (hN : Nl F b x0) : law_b1_8 F [x0, some (.rf b), x2, some (.str t), x4, x5, some (.rf ql), x7, x8, x9, x10, x11, x12, x13] S := by
  have h' := Hd.mk hN
  clear hN
  unfold law_b1_8
  walk_at "dl"
  refine ⟨by decide, by decide, ?_⟩
  refine loop_inv (fun rest δ S' => ∃ x5 x8 x9 x10 x11 x12 x13, Box S' b ∧ S' ql = some (.lst (tls ls)) ∧ δ = [x0, some (.rf b), x2, some (.str t), x4, x5, some (.rf ql), x7, x8, x9, x10, x11, x12, x13]) ?_ (fun _ _ _ _ => trivial) ?_ _ _ _ ⟨_, _, _, _, _, _, _, hb, hq, rfl⟩
  · rintro x xs δ S' N ⟨x5, x8, x9, x10, x11, x12, x13, hb', hq', rfl⟩ hN
    show law_w1 _ [x0, some (.rf b), x2, some (.str t), x4, x5, some (.rf ql), x7, some x, x9, x10, x11, x12, x13] S'
    exact w1 hb' hqb hq' hl1 hfl fun x5 x9 x10 x11 x12 x13 S2 h1 h2 => hN _ _ ⟨x5, some x, x9, x10, x11, x12, x13, h1, h2, rfl⟩
  · rintro δ S' ⟨x5, x8, x9, x10, x11, x12, x13, hb', hq', rfl⟩
    exact h'.a _ _ _ _ _ _ _ _ _ _ _ _ S' hb'
variable {x6 : Option D}
theorem law_2 (hb : Box S b) (ht : ∀ c ∈ t, c ∈ SG) (hl : t.length ≤ 1000) (hN : Nl F b x0) : law_b1_2 F [x0, some (.rf b), x2, some (.str t), x4, x5, x6, x7, x8, x9, x10, x11, x12, x13] S := by
  have sz := sz6
  unfold law_b1_2
  refine ⟨rfl, t, rfl, ht, hl, ?_⟩
  show law_b1_3 F [x0, some (.rf b), x2, some (.str t), some (.tup (tls (code t))), x5, x6, x7, x8, x9, x10, x11, x12, x13] S
  unfold law_b1_3
  refine ⟨rfl, t, rfl, ht, hl, ?_⟩
  show law_b1_4 F [x0, some (.rf b), x2, some (.str t), some (.tup (tls (code t))), some (.tup (tls (code t))), x6, x7, x8, x9, x10, x11, x12, x13] S
  obtain ⟨r1, r2⟩ := row_len ht
  have hcf := code_flat t
  have r3 : (code t).flatten.length ≤ 4000 := by rw [hcf]; exact r2
  have hcl0 : (code t).length = if ((chs 3 t).flatMap gD).length = 0 then 0 else (((chs 3 t).flatMap gD).length - 1) / 76 + 1 := chs_num (n := 76) (by decide) _ ((chs 3 t).flatMap gD) (Nat.le_refl _)
  have hcl : (code t).length ≤ 1000 := by
    rw [hcl0]
    split <;> omega
  obtain ⟨p1, p2, p3⟩ := tls_pln (ls := code t) (by omega) fun l hl => by have := len_flat hl; omega
  unfold law_b1_4
  refine if_no (fun Q hQ => ?_) ?_
  · refine ⟨rfl, _, _, rfl, p1, p1, p2, p2, by omega, ?_⟩
    rw [deq_self (.tup (tls (code t))) p1]
    exact hQ
  show law_b1_5 F [x0, some (.rf b), x2, some (.str t), some (.tup (tls (code t))), some (.tup (tls (code t))), x6, x7, x8, x9, x10, x11, x12, x13] S
  unfold law_b1_5
  have hj : joinOk [] (code t) := by
    unfold joinOk
    rw [sum_flat, List.length_nil, Nat.mul_zero]
    omega
  walk_at "dl"
  rw [show tls (code t) = (code t).map D.str from rfl, strsOf_map]
  show joinOk [] (code t) ∧ sp_llaw_cut [.rf b, .str (TL.joinL [] (code t))] S (fun d S1 => law_b1_6 F [x0, some (.rf b), x2, some (.str t), some (.tup (tls (code t))), some (.tup (tls (code t))), some d, x7, x8, x9, x10, x11, x12, x13] S1)
  rw [join_nil]
  refine ⟨hj, b, _, rfl, hb, by omega, fun ls S1 e1 e2 kb q hq => ?_⟩
  have hqb : q ≠ b := fun z => by
    obtain ⟨dg, gs, a', h1, _⟩ := kb.1
    rw [← z, hq] at h1; cases h1
  have hdd : DD ls = .inr t := DD_code ht (by rw [e1, hcf])
  have hdd2 : DD (code t) = .inr t := DD_code ht hcf
  have hzl : Sz ls := ⟨by omega, by rw [e1]; omega⟩
  have hzc : Sz (code t) := ⟨hcl, by omega⟩
  unfold law_b1_6
  show match (su S1 q (.lst (tls ls))) q with | some (.lst xs) => 1 = 1 ∧ sp_llaw_told [.tup xs] (su S1 q (.lst (tls ls))) (fun d S2 => law_b1_7 F [x0, some (.rf b), x2, some (.str t), some (.tup (tls (code t))), some (.tup (tls (code t))), some (.rf q), some d, x8, x9, x10, x11, x12, x13] S2) | _ => False
  rw [su_same]
  refine ⟨rfl, ls, rfl, hzl, fun q7 hq7 => ?_⟩
  have htold : ∀ l : List (List Nat), DD l = .inr t → toldL l = [.str t] := fun l e => by unfold toldL; rw [e]
  rw [htold ls hdd]
  have hst : szd (.str t) = true := sz_str (by omega)
  have hq2 : (su (su S1 q (.lst (tls ls))) q7 (.lst [.str t])) q = some (.lst (tls ls)) := Sle.new hq7 _ _ su_same
  have hb2 : Box (su (su S1 q (.lst (tls ls))) q7 (.lst [.str t])) b := (kb.1.new hq).new hq7
  have h7 : (su (su S1 q (.lst (tls ls))) q7 (.lst [.str t])) q7 = some (.lst [.str t]) := su_same
  generalize su (su S1 q (.lst (tls ls))) q7 (.lst [.str t]) = S7 at *
  unfold law_b1_7
  have d1 : deq (.str t) (.str t) = true := by rw [deq_ss, decide_eq_true rfl]
  have d64 : dep (.str t) < 64 := by show 0 < 64; decide
  have ft : ∀ {α : Prop} {β : Prop}, β → (if (false : Bool) = true then α else β) := fun h => by rw [if_neg Bool.false_ne_true]; exact h
  show match S7 q7 with | some (.lst xs) => (if (!decide (((xs.length : Nat) : Int) = 1)) = true then _ else _) | _ => False
  rw [h7]
  refine ft ?_
  show match S7 q7 with | some (.lst xs) => (match atI xs 0 with | some d => 2 = 2 ∧ sp_like 64 [d, .str t] S7 (fun x S2 => match dTruS S2 x with | some c => (if (!c) = true then _ else _) | none => False) | none => False) | _ => False
  rw [h7]
  refine ⟨rfl, .str t, .str t, rfl, rfl, rfl, hst, hst, d64, ?_⟩
  rw [d1]
  refine ft ?_
  refine ⟨rfl, code t, rfl, hzc, fun q8 hq8 => ?_⟩
  rw [htold (code t) hdd2]
  show match (su S7 q8 (.lst [.str t])) q8 with | some (.lst xs) => (match atI xs 0 with | some e => 2 = 2 ∧ sp_like 64 [e, .str t] (su S7 q8 (.lst [.str t])) (fun x S5 => match dTruS S5 x with | some c => (if (!c) = true then _ else _) | none => False) | none => False) | _ => False
  rw [su_same]
  refine ⟨rfl, .str t, .str t, rfl, rfl, rfl, hst, hst, d64, ?_⟩
  rw [d1]
  refine ft ?_
  exact law_8 (hb2.new hq8) hqb (Sle.new hq8 _ _ hq2) e2 (by rw [e1]; omega) hN
variable {x3 : Option D}
theorem law_1 (hb : Box S b) (ht : ∀ c ∈ t, c ∈ SG) (hl : t.length ≤ 60) (hN : Nl F b x0) : law_b1_1 F [x0, some (.rf b), x2, some (.str t), x4, x5, x6, x7, x8, x9, x10, x11, x12, x13] S := by
  have sz := sz6
  unfold law_b1_1
  refine ⟨rfl, b, 4, rfl, by decide, hb, fun r S1 r0 r1 bx => ?_⟩
  show if decide (r = 0) = true then 2 = 2 ∧ sp_llaw_draw [.rf b, .int 4] S1 (fun d S2 => dOp dAdd (dC (.int 1)) (dC d) [] S2 (fun y S3 => dMulS (.str t) y S3 fun v S4 => law_b1_2 F [x0, some (.rf b), x2, some v, x4, x5, x6, x7, x8, x9, x10, x11, x12, x13] S4)) else law_b1_2 F [x0, some (.rf b), x2, some (.str t), x4, x5, x6, x7, x8, x9, x10, x11, x12, x13] S1
  split
  · refine ⟨rfl, b, 4, rfl, by decide, bx.1, fun y S2 y0 y1 bx2 => ?_⟩
    show dMulS (.str t) (.int (1 + y)) S2 fun v S4 => law_b1_2 F [x0, some (.rf b), x2, some v, x4, x5, x6, x7, x8, x9, x10, x11, x12, x13] S4
    have hrl : (repS t (1 + y)).length = (1 + y).toNat * t.length := by
      unfold repS
      rw [List.length_flatten]
      simp
    have hn : (1 + y).toNat ≤ 4 := by omega
    have hm : (1 + y).toNat * t.length ≤ 4 * 60 := Nat.mul_le_mul hn hl
    refine ⟨by omega, by omega, by rw [Nat.mul_comm]; omega, ?_⟩
    refine law_2 bx2.1 (fun c hc => ?_) (by omega) hN
    unfold repS at hc
    obtain ⟨l, h1, h2⟩ := List.mem_flatten.mp hc
    rw [(List.mem_replicate.mp h1).2] at h2
    exact ht c h2
  · exact law_2 bx.1 ht (by omega) hN
end
theorem ok_law : ∀ ds S Q, ds.length = 1 → sp_law ds S Q → rd_law (endsD Q) (startD N_law ds) S := by
  rintro ds S Q - ⟨⟨ns, rfl, hn⟩, h⟩
  have sz := sz6
  have h' := Hd.mk h
  clear h
  rw [cut_law]
  walk_at "dl"
  refine ⟨ns, rfl, fun gs pd hg hpd => ⟨by omega, fun pb hpb => ?_⟩⟩
  have nd : pd ≠ pb := fun z => by rw [← z, su_same] at hpb; cases hpb
  have bx0 : Box (su (su S pd (.lst (gs.map D.int))) pb (.lst [.rf pd, .int 0])) pb := ⟨pd, gs, 0, su_same, by rw [su_ne nd, su_same], hg, by decide, nd⟩
  unfold law_k1
  walk_at "dl"
  refine ⟨by decide, by decide, ?_⟩
  refine loop_inv (fun rest δ S => ∃ x2 x3 x4 x5 x6 x7 x8 x9 x10 x11 x12 x13, δ = [some (.frz (ns.map D.int)), some (.rf pb), x2, x3, x4, x5, x6, x7, x8, x9, x10, x11, x12, x13] ∧ Box S pb) ?_ (fun _ _ _ _ => trivial) ?_ _ _ _
    ⟨none, none, none, none, none, none, none, none, none, none, none, none, rfl, bx0⟩
  · rintro x xs δ S N ⟨x2, x3, x4, x5, x6, x7, x8, x9, x10, x11, x12, x13, rfl, hb⟩ hN
    show 2 = 2 ∧ sp_llaw_draw [.rf pb, .int 60] S (fun d S1 => 2 = 2 ∧ sp_llaw_free [.rf pb, d] S1 (fun d S1 => law_b1_1 _ [some (.frz (ns.map D.int)), some (.rf pb), some x, some d, x4, x5, x6, x7, x8, x9, x10, x11, x12, x13] S1))
    refine ⟨rfl, pb, 60, rfl, by decide, hb, fun r S1 r0 r1 bx => ⟨rfl, pb, r, rfl, r0, by omega, bx.1, fun t S' ht htl kb => ?_⟩⟩
    exact law_1 kb.1 ht (by omega) fun y2 y3 y4 y5 y6 y7 y8 y9 y10 y11 y12 y13 S2 hb2 => hN _ _ ⟨y2, y3, y4, y5, y6, y7, y8, y9, y10, y11, y12, y13, rfl, hb2⟩
  · rintro δ S ⟨x2, x3, x4, x5, x6, x7, x8, x9, x10, x11, x12, x13, rfl, hb⟩
    unfold law_k2
    walk_at "dl"
    exact ⟨fun _ => none, fun p o e => (by cases e), h'.a⟩
end LW

set_option Elab.async false
set_option linter.all false
set_option maxRecDepth 100000
set_option maxHeartbeats 4000000

namespace LW
open PySem PySem.Spec L2 DL PyProof.Rows

section
variable {P : Program} {w : World} {K : PySem.W.Frag} {mg : Str → Option Value} {base : Heap} {F : Nat → Addr} {D : Nat → FuncData} {C : Nat → Addr}
theorem fn_group_digits (T : Tx P K mg F D C) : DL.FnOk P w K mg base CX0 1 (F 1) (D 1) P_group_digits (lift K 1 sp_group_digits) :=
  fn_lift T.d_group_digits.fn sc_group_digits (fun _ _ _ _ _ _ hr => dv_group_digits T  hr) ok_group_digits
theorem fn_group_signs (T : Tx P K mg F D C) : DL.FnOk P w K mg base CX0 1 (F 2) (D 2) P_group_signs (lift K 1 sp_group_signs) :=
  fn_lift T.d_group_signs.fn sc_group_signs (fun _ _ _ _ _ _ hr => dv_group_signs T  hr) ok_group_signs
theorem fn_line_at (T : Tx P K mg F D C) : DL.FnOk P w K mg base CX0 1 (F 3) (D 3) P_line_at (lift K 2 sp_line_at) :=
  fn_lift T.d_line_at.fn sc_line_at (fun _ _ _ _ _ _ hr => dv_line_at T  hr) ok_line_at
theorem fn_decoded (T : Tx P K mg F D C) (G_group_signs : DL.FnOk P w K mg base CX0 1 (F 2) (D 2) P_group_signs (lift K 1 sp_group_signs)) (G_line_at : DL.FnOk P w K mg base CX0 1 (F 3) (D 3) P_line_at (lift K 2 sp_line_at)) : DL.FnOk P w K mg base CX0 2 (F 4) (D 4) P_decoded (lift K 1 sp_decoded) :=
  fn_lift T.d_decoded.fn sc_decoded (fun _ _ _ _ _ _ hr => dv_decoded T G_group_signs G_line_at hr) ok_decoded
theorem fn_write_coding (T : Tx P K mg F D C) (G_group_digits : DL.FnOk P w K mg base CX0 1 (F 1) (D 1) P_group_digits (lift K 1 sp_group_digits)) : DL.FnOk P w K mg base CX0 2 (F 5) (D 5) P_write_coding (lift K 1 sp_write_coding) :=
  fn_lift T.d_write_coding.fn sc_write_coding (fun _ _ _ _ _ _ hr => dv_write_coding T G_group_digits hr) ok_write_coding
theorem fn_read_coding (T : Tx P K mg F D C) (G_decoded : DL.FnOk P w K mg base CX0 2 (F 4) (D 4) P_decoded (lift K 1 sp_decoded)) : DL.FnOk P w K mg base (L2N.CX P w) 3 (F 6) (D 6) P_read_coding (liftX K 1 (sp_read_coding C)) :=
  fn_liftX T.d_read_coding.fn sc_read_coding (fun _ _ _ _ _ _ hr => dv_read_coding T G_decoded hr) ok_read_coding
theorem fn_llaw_cell (T : Tx P K mg F D C) : DL.FnOk P w K mg base CX0 1 (F 7) (D 7) P_llaw_cell (lift K 2 sp_llaw_cell) :=
  fn_lift T.d_llaw_cell.fn sc_llaw_cell (fun _ _ _ _ _ _ hr => dv_llaw_cell T  hr) ok_llaw_cell
theorem fn_llaw_digits (T : Tx P K mg F D C) (G_llaw_cell : DL.FnOk P w K mg base CX0 1 (F 7) (D 7) P_llaw_cell (lift K 2 sp_llaw_cell)) : DL.FnOk P w K mg base CX0 2 (F 8) (D 8) P_llaw_digits (lift K 3 sp_llaw_digits) :=
  fn_lift T.d_llaw_digits.fn sc_llaw_digits (fun _ _ _ _ _ _ hr => dv_llaw_digits T G_llaw_cell hr) ok_llaw_digits
theorem fn_llaw_draw (T : Tx P K mg F D C) : DL.FnOk P w K mg base CX0 1 (F 9) (D 9) P_llaw_draw (lift K 2 sp_llaw_draw) :=
  fn_lift T.d_llaw_draw.fn sc_llaw_draw (fun _ _ _ _ _ _ hr => dv_llaw_draw T  hr) ok_llaw_draw
theorem fn_llaw_pick (T : Tx P K mg F D C) (G_llaw_draw : DL.FnOk P w K mg base CX0 1 (F 9) (D 9) P_llaw_draw (lift K 2 sp_llaw_draw)) : DL.FnOk P w K mg base CX0 2 (F 10) (D 10) P_llaw_pick (lift K 2 sp_llaw_pick) :=
  fn_lift T.d_llaw_pick.fn sc_llaw_pick (fun _ _ _ _ _ _ hr => dv_llaw_pick T G_llaw_draw hr) ok_llaw_pick
theorem fn_llaw_small (T : Tx P K mg F D C) : DL.FnOk P w K mg base CX0 1 (F 11) (D 11) P_llaw_small (lift K 0 sp_llaw_small) :=
  fn_lift T.d_llaw_small.fn sc_llaw_small (fun _ _ _ _ _ _ hr => dv_llaw_small T  hr) ok_llaw_small
theorem fn_llaw_number (T : Tx P K mg F D C) : FnTH P w K mg base CX0 1 (F 12) (D 12) P_llaw_number (lift K 3 sp_llaw_number) :=
  fn_liftH T.d_llaw_number.fn sc_llaw_number (fun _ _ _ _ _ _ _ hot hr => dv_llaw_number T  hot hr) ok_llaw_number
theorem fn_llaw_decoded (T : Tx P K mg F D C) (G_llaw_small : DL.FnOk P w K mg base CX0 1 (F 11) (D 11) P_llaw_small (lift K 0 sp_llaw_small)) : DL.FnOk P w K mg base CX0 2 (F 13) (D 13) P_llaw_decoded (lift K 1 sp_llaw_decoded) :=
  fn_lift T.d_llaw_decoded.fn sc_llaw_decoded (fun _ _ _ _ _ _ hr => dv_llaw_decoded T G_llaw_small hr) ok_llaw_decoded
theorem fn_llaw_code (T : Tx P K mg F D C) (G_llaw_small : DL.FnOk P w K mg base CX0 1 (F 11) (D 11) P_llaw_small (lift K 0 sp_llaw_small)) : DL.FnOk P w K mg base CX0 2 (F 14) (D 14) P_llaw_code (lift K 1 sp_llaw_code) :=
  fn_lift T.d_llaw_code.fn sc_llaw_code (fun _ _ _ _ _ _ hr => dv_llaw_code T G_llaw_small hr) ok_llaw_code
theorem fn_llaw_named (T : Tx P K mg F D C) (G_llaw_like : DL.FnOk P w K mg base CX0 64 (F 16) (D 16) P_llaw_like (lift K 2 (sp_like 64))) : DL.FnOk P w K mg base CX0 65 (F 15) (D 15) P_llaw_named (lift K 2 sp_llaw_named) :=
  fn_lift T.d_llaw_named.fn sc_llaw_named (fun _ _ _ _ _ _ hr => dv_llaw_named T G_llaw_like hr) ok_llaw_named
theorem fn_llaw_coding_fault (T : Tx P K mg F D C) (G_llaw_small : DL.FnOk P w K mg base CX0 1 (F 11) (D 11) P_llaw_small (lift K 0 sp_llaw_small)) (G_llaw_decoded : DL.FnOk P w K mg base CX0 2 (F 13) (D 13) P_llaw_decoded (lift K 1 sp_llaw_decoded)) : DL.FnOk P w K mg base CX0 3 (F 17) (D 17) P_llaw_coding_fault (lift K 2 sp_llaw_coding_fault) :=
  fn_lift T.d_llaw_coding_fault.fn sc_llaw_coding_fault (fun _ _ _ _ _ _ hr => dv_llaw_coding_fault T G_llaw_small G_llaw_decoded hr) ok_llaw_coding_fault
theorem fn_llaw_free (T : Tx P K mg F D C) (G_llaw_draw : DL.FnOk P w K mg base CX0 1 (F 9) (D 9) P_llaw_draw (lift K 2 sp_llaw_draw)) (G_llaw_small : DL.FnOk P w K mg base CX0 1 (F 11) (D 11) P_llaw_small (lift K 0 sp_llaw_small)) : DL.FnOk P w K mg base CX0 2 (F 18) (D 18) P_llaw_free (lift K 2 sp_llaw_free) :=
  fn_lift T.d_llaw_free.fn sc_llaw_free (fun _ _ _ _ _ _ hr => dv_llaw_free T G_llaw_draw G_llaw_small hr) ok_llaw_free
theorem fn_llaw_refusal (T : Tx P K mg F D C) (G_llaw_number : FnTH P w K mg base CX0 1 (F 12) (D 12) P_llaw_number (lift K 3 sp_llaw_number)) : FnTH P w K mg base CX0 2 (F 19) (D 19) P_llaw_refusal (lift K 2 sp_llaw_refusal) :=
  fn_liftH T.d_llaw_refusal.fn sc_llaw_refusal (fun _ _ _ _ _ _ _ hot hr => dv_llaw_refusal T G_llaw_number hot hr) ok_llaw_refusal
theorem fn_llaw_told (T : Tx P K mg F D C) (G_read_coding : DL.FnOk P w K mg base (L2N.CX P w) 3 (F 6) (D 6) P_read_coding (liftX K 1 (sp_read_coding C))) (G_llaw_refusal : FnTH P w K mg base CX0 2 (F 19) (D 19) P_llaw_refusal (lift K 2 sp_llaw_refusal)) : DL.FnOk P w K mg base CX0 4 (F 20) (D 20) P_llaw_told (lift K 1 sp_llaw_told) :=
  fn_lift T.d_llaw_told.fn sc_llaw_told (fun _ _ _ _ _ _ hr => dv_llaw_told T G_read_coding G_llaw_refusal hr) ok_llaw_told
theorem fn_llaw_cut (T : Tx P K mg F D C) (G_llaw_draw : DL.FnOk P w K mg base CX0 1 (F 9) (D 9) P_llaw_draw (lift K 2 sp_llaw_draw)) : DL.FnOk P w K mg base CX0 2 (F 21) (D 21) P_llaw_cut (lift K 2 sp_llaw_cut) :=
  fn_lift T.d_llaw_cut.fn sc_llaw_cut (fun _ _ _ _ _ _ hr => dv_llaw_cut T G_llaw_draw hr) ok_llaw_cut
theorem fn_law (T : Tx P K mg F D C) (G_write_coding : DL.FnOk P w K mg base CX0 2 (F 5) (D 5) P_write_coding (lift K 1 sp_write_coding)) (G_llaw_digits : DL.FnOk P w K mg base CX0 2 (F 8) (D 8) P_llaw_digits (lift K 3 sp_llaw_digits)) (G_llaw_draw : DL.FnOk P w K mg base CX0 1 (F 9) (D 9) P_llaw_draw (lift K 2 sp_llaw_draw)) (G_llaw_pick : DL.FnOk P w K mg base CX0 2 (F 10) (D 10) P_llaw_pick (lift K 2 sp_llaw_pick)) (G_llaw_decoded : DL.FnOk P w K mg base CX0 2 (F 13) (D 13) P_llaw_decoded (lift K 1 sp_llaw_decoded)) (G_llaw_code : DL.FnOk P w K mg base CX0 2 (F 14) (D 14) P_llaw_code (lift K 1 sp_llaw_code)) (G_llaw_named : DL.FnOk P w K mg base CX0 65 (F 15) (D 15) P_llaw_named (lift K 2 sp_llaw_named)) (G_llaw_like : DL.FnOk P w K mg base CX0 64 (F 16) (D 16) P_llaw_like (lift K 2 (sp_like 64))) (G_llaw_coding_fault : DL.FnOk P w K mg base CX0 3 (F 17) (D 17) P_llaw_coding_fault (lift K 2 sp_llaw_coding_fault)) (G_llaw_free : DL.FnOk P w K mg base CX0 2 (F 18) (D 18) P_llaw_free (lift K 2 sp_llaw_free)) (G_llaw_told : DL.FnOk P w K mg base CX0 4 (F 20) (D 20) P_llaw_told (lift K 1 sp_llaw_told)) (G_llaw_cut : DL.FnOk P w K mg base CX0 2 (F 21) (D 21) P_llaw_cut (lift K 2 sp_llaw_cut)) : L2.FnOk P w K mg base CX0 66 (F 22) (D 22) P_law (lift K 1 sp_law) :=
  fn0_lift T.d_law.fn sc_law (fun _ _ _ _ _ _ hr => dv_law T G_write_coding G_llaw_digits G_llaw_draw G_llaw_pick G_llaw_decoded G_llaw_code G_llaw_named G_llaw_like G_llaw_coding_fault G_llaw_free G_llaw_told G_llaw_cut hr) ok_law
theorem fn_like (T : Tx P K mg F D C) : ∀ n, DL.FnOk P w K mg base CX0 n (F 16) (D 16) P_llaw_like (lift K 2 (sp_like n))
  | 0 => fn_none (sp_like 0) fun ds S Q q => by
    obtain ⟨a, d, _, _, _, _, _, h, _⟩ := q
    exact absurd h (Nat.not_lt_zero _)
  | n + 1 => fn_lift T.d_llaw_like.fn sc_llaw_like (fun _ _ _ _ _ _ hr => dv_llaw_like n T (fn_like T n) hr) (ok_like n)

theorem all_fn (T : Tx P K mg F D C) : L2.FnOk P w K mg base CX0 66 (F 22) (D 22) P_law (lift K 1 sp_law) := by
  have G_group_digits := fn_group_digits (P := P) (w := w) (base := base) T 
  have G_write_coding := fn_write_coding (P := P) (w := w) (base := base) T G_group_digits
  have G_llaw_cell := fn_llaw_cell (P := P) (w := w) (base := base) T 
  have G_llaw_digits := fn_llaw_digits (P := P) (w := w) (base := base) T G_llaw_cell
  have G_llaw_draw := fn_llaw_draw (P := P) (w := w) (base := base) T 
  have G_llaw_pick := fn_llaw_pick (P := P) (w := w) (base := base) T G_llaw_draw
  have G_llaw_small := fn_llaw_small (P := P) (w := w) (base := base) T 
  have G_llaw_decoded := fn_llaw_decoded (P := P) (w := w) (base := base) T G_llaw_small
  have G_llaw_code := fn_llaw_code (P := P) (w := w) (base := base) T G_llaw_small
  have G_llaw_like := fn_like (P := P) (w := w) (base := base) T 64
  have G_llaw_named := fn_llaw_named (P := P) (w := w) (base := base) T G_llaw_like
  have G_llaw_coding_fault := fn_llaw_coding_fault (P := P) (w := w) (base := base) T G_llaw_small G_llaw_decoded
  have G_llaw_free := fn_llaw_free (P := P) (w := w) (base := base) T G_llaw_draw G_llaw_small
  have G_group_signs := fn_group_signs (P := P) (w := w) (base := base) T 
  have G_line_at := fn_line_at (P := P) (w := w) (base := base) T 
  have G_decoded := fn_decoded (P := P) (w := w) (base := base) T G_group_signs G_line_at
  have G_read_coding := fn_read_coding (P := P) (w := w) (base := base) T G_decoded
  have G_llaw_number := fn_llaw_number (P := P) (w := w) (base := base) T 
  have G_llaw_refusal := fn_llaw_refusal (P := P) (w := w) (base := base) T G_llaw_number
  have G_llaw_told := fn_llaw_told (P := P) (w := w) (base := base) T G_read_coding G_llaw_refusal
  have G_llaw_cut := fn_llaw_cut (P := P) (w := w) (base := base) T G_llaw_draw
  have G_law := fn_law (P := P) (w := w) (base := base) T G_write_coding G_llaw_digits G_llaw_draw G_llaw_pick G_llaw_decoded G_llaw_code G_llaw_named G_llaw_like G_llaw_coding_fault G_llaw_free G_llaw_told G_llaw_cut
  exact G_law
end
theorem all_mk {l : PySem.W.OpenLaw} {w : World} {K : PySem.W.Frag} {h : Heap} {mg : Str → Option Value} {fa : Addr} (X : K.In h) (G : h.Ns mainGlobals mg) (hfa : mg "law" = some (.ref fa))
    {f0 : Addr} {od0 an0 : Option Addr} {sl0 : Array (Option Value)} {oc0 kV0 dc0 pm0 ct0 : Value}
    {f1 : Addr} {od1 an1 : Option Addr} {sl1 : Array (Option Value)} {oc1 kV1 dc1 pm1 ct1 cd1 : Value}
    {f2 : Addr} {od2 an2 : Option Addr} {sl2 : Array (Option Value)} {oc2 kV2 dc2 pm2 ct2 cd2 : Value}
    {f3 : Addr} {od3 an3 : Option Addr} {sl3 : Array (Option Value)} {oc3 kV3 dc3 pm3 ct3 cd3 : Value}
    {f4 : Addr} {od4 an4 : Option Addr} {sl4 : Array (Option Value)} {oc4 kV4 dc4 pm4 ct4 cd4 : Value}
    {f5 : Addr} {od5 an5 : Option Addr} {sl5 : Array (Option Value)} {oc5 kV5 dc5 pm5 ct5 cd5 : Value}
    {f6 : Addr} {od6 an6 : Option Addr} {sl6 : Array (Option Value)} {oc6 kV6 dc6 pm6 ct6 cd6 : Value}
    {f7 : Addr} {od7 an7 : Option Addr} {sl7 : Array (Option Value)} {oc7 kV7 dc7 pm7 ct7 cd7 : Value}
    {f8 : Addr} {od8 an8 : Option Addr} {sl8 : Array (Option Value)} {oc8 kV8 dc8 pm8 ct8 cd8 : Value}
    {f9 : Addr} {od9 an9 : Option Addr} {sl9 : Array (Option Value)} {oc9 kV9 dc9 pm9 ct9 cd9 : Value}
    {f10 : Addr} {od10 an10 : Option Addr} {sl10 : Array (Option Value)} {oc10 kV10 dc10 pm10 ct10 cd10 : Value}
    {f11 : Addr} {od11 an11 : Option Addr} {sl11 : Array (Option Value)} {oc11 kV11 dc11 pm11 ct11 cd11 : Value}
    {f12 : Addr} {od12 an12 : Option Addr} {sl12 : Array (Option Value)} {oc12 kV12 dc12 pm12 ct12 cd12 : Value}
    {f13 : Addr} {od13 an13 : Option Addr} {sl13 : Array (Option Value)} {oc13 kV13 dc13 pm13 ct13 cd13 : Value}
    {f14 : Addr} {od14 an14 : Option Addr} {sl14 : Array (Option Value)} {oc14 kV14 dc14 pm14 ct14 cd14 : Value}
    {f15 : Addr} {od15 an15 : Option Addr} {sl15 : Array (Option Value)} {oc15 kV15 dc15 pm15 ct15 cd15 : Value}
    {f16 : Addr} {od16 an16 : Option Addr} {sl16 : Array (Option Value)} {oc16 kV16 dc16 pm16 ct16 cd16 : Value}
    {f17 : Addr} {od17 an17 : Option Addr} {sl17 : Array (Option Value)} {oc17 kV17 dc17 pm17 ct17 cd17 : Value}
    {f18 : Addr} {od18 an18 : Option Addr} {sl18 : Array (Option Value)} {oc18 kV18 dc18 pm18 ct18 cd18 : Value}
    {f19 : Addr} {od19 an19 : Option Addr} {sl19 : Array (Option Value)} {oc19 kV19 dc19 pm19 ct19 cd19 : Value}
    {f20 : Addr} {od20 an20 : Option Addr} {sl20 : Array (Option Value)} {oc20 kV20 dc20 pm20 ct20 cd20 : Value}
    {f21 : Addr} {od21 an21 : Option Addr} {sl21 : Array (Option Value)} {oc21 kV21 dc21 pm21 ct21 cd21 : Value}
    {f22 : Addr} {od22 an22 : Option Addr} {sl22 : Array (Option Value)} {oc22 kV22 dc22 pm22 ct22 cd22 : Value}
    {C0 : Addr}
    {C1 : Addr}
    {nm1 q1 : Str} {N1 : Addr} {bs1 : List Value} {sn1 : List Str} {su1 : List Value} {ab1 : Bool} {co1 : Option Bool} {dd1 : Option Addr} {m01 m11 m21 m31 m51 : Option Value} {ca1 cc1 : Addr} {cl1 ccl1 : Value} {cld1 cdd1 : Option Addr} {csl1 ccs1 : Array (Option Value)} {vs1 : Array Value} {fi1 : Str} {tf1 : Tok}
    {aBO : Addr} {odBO : Option Addr} {itBO : Array Value} {kBO : Nat} {slBO : Array (Option Value)}
    {tDI : Tok}
    {tSI : Tok}
    (aC0 : PySem.W.nsIn K mainGlobals "MailError" = some (some (.ref C0)))
    (aC1 : PySem.W.nsIn K mainGlobals "BadLetter" = some (some (.ref C1)))
    (thr : PySem.W.nsIn K cStatics "thirdparty.any" = some none)
    (top : (l.prog.main.scope.names.lookup ("super" : Str)).isSome = false)
    (ohn : PySem.W.specialIn K (.builtin "object.__class__") "__get__" = some (some (.builtin "getset_descriptor.__get__")))
    (oht : PySem.W.takesIn K (.builtin "object.__class__") = some true)
    (xL1 : K.lookup C1 = some (excClassObj nm1 q1 C1 N1 bs1 [.ref C0, .type "ValueError", .type "Exception", .type "BaseException", .type "object"] true sn1 su1 ab1 co1 dd1 m01 m11 m21 m31 m51 "ValueError.__new__"))
    (xsa1 : PySem.W.findIn K (.ref C1) "__setattr__" = some (some (.builtin "object.__setattr__")))
    (xga1 : PySem.W.findIn K (.ref C1) "__getattribute__" = some (some (.builtin "BaseException.__getattribute__")))
    (xgg1 : PySem.W.findIn K (.ref C1) "__getattr__" = some none)
    (xca1 : PySem.W.findIn K (.ref C1) "__class__" = some (some (.builtin "object.__class__")))
    (xmo1 : PySem.W.mroIn K C1 (.type "object") = some true)
    (xin1 : PySem.W.findIn K (.ref C1) "__init__" = some (some (.ref f0)))
    (xti1 : PySem.W.typeIn K (.ref f0) = some (.type "function"))
    (xkc1 : PySem.W.keepIn K (.ref C1) = true)
    (xec1 : PySem.W.subIn K (.ref C1) (.type "BaseException") = some true)
    (xtc1 : PySem.W.typeIn K (.ref C1) = some (.type "type"))
    (xhc1 : PySem.W.hasDictIn K C1 = true)
    (xic1 : PySem.W.isClsIn K C1 = true)
    (xsc1 : PySem.W.subIn K (.ref C1) (.ref C1) = some true)
    (xsv1 : PySem.W.subIn K (.ref C1) (.type "ValueError") = some true)
    (xms1 : PySem.W.mroIn K C1 (.ref C1) = some true)
    (xsu1 : PySem.W.ks_superIn K C1 C1 "__init__" = some (some (.builtin "ValueError.__init__")))
    (l0 : K.lookup f0 = some ⟨oc0, od0, .func (PySem.W.ksFn "__init__" "BadLetter.__init__" (defArgs s_BadLetterU_initU) (defBody s_BadLetterU_initU) (defScope s_BadLetterU_initU) .none kV0 dc0 pm0 an0 (.ref ca1) ct0 cc1), sl0⟩)
    (c0 : PySem.W.codeIn K (.ref ca1) "BadLetter.__init__" = true)
    (xce1 : K.lookup cc1 = some ⟨cl1, cld1, .cell (some (.ref C1)), csl1⟩)
    (xco1 : K.lookup ca1 = some ⟨ccl1, cdd1, .fields vs1, ccs1⟩)
    (xvs1 : vs1[2]? = some (.str fi1 tf1))
    (xfm1 : ((l.prog.main.file : Str) == fi1) = true)
    (xf_line_1 : PySem.W.findIn K (.ref C1) "line" = some none)
    (xf_reason_1 : PySem.W.findIn K (.ref C1) "reason" = some none)
    (a1 : PySem.W.nsIn K mainGlobals "group_digits" = some (some (.ref f1)))
    (l1 : K.lookup f1 = some ⟨oc1, od1, .func (PySem.W.fnOf "group_digits" "group_digits" (defArgs s_group_digits) (defBody s_group_digits) (defScope s_group_digits) .none kV1 dc1 pm1 an1 cd1 ct1), sl1⟩)
    (c1 : PySem.W.codeIn K cd1 "group_digits" = true)
    (k1 : PySem.W.keepIn K (.ref f1) = true)
    (a2 : PySem.W.nsIn K mainGlobals "group_signs" = some (some (.ref f2)))
    (l2 : K.lookup f2 = some ⟨oc2, od2, .func (PySem.W.fnOf "group_signs" "group_signs" (defArgs s_group_signs) (defBody s_group_signs) (defScope s_group_signs) .none kV2 dc2 pm2 an2 cd2 ct2), sl2⟩)
    (c2 : PySem.W.codeIn K cd2 "group_signs" = true)
    (k2 : PySem.W.keepIn K (.ref f2) = true)
    (a3 : PySem.W.nsIn K mainGlobals "line_at" = some (some (.ref f3)))
    (l3 : K.lookup f3 = some ⟨oc3, od3, .func (PySem.W.fnOf "line_at" "line_at" (defArgs s_line_at) (defBody s_line_at) (defScope s_line_at) .none kV3 dc3 pm3 an3 cd3 ct3), sl3⟩)
    (c3 : PySem.W.codeIn K cd3 "line_at" = true)
    (k3 : PySem.W.keepIn K (.ref f3) = true)
    (a4 : PySem.W.nsIn K mainGlobals "decoded" = some (some (.ref f4)))
    (l4 : K.lookup f4 = some ⟨oc4, od4, .func (PySem.W.fnOf "decoded" "decoded" (defArgs s_decoded) (defBody s_decoded) (defScope s_decoded) .none kV4 dc4 pm4 an4 cd4 ct4), sl4⟩)
    (c4 : PySem.W.codeIn K cd4 "decoded" = true)
    (k4 : PySem.W.keepIn K (.ref f4) = true)
    (a5 : PySem.W.nsIn K mainGlobals "write_coding" = some (some (.ref f5)))
    (l5 : K.lookup f5 = some ⟨oc5, od5, .func (PySem.W.fnOf "write_coding" "write_coding" (defArgs s_write_coding) (defBody s_write_coding) (defScope s_write_coding) .none kV5 dc5 pm5 an5 cd5 ct5), sl5⟩)
    (c5 : PySem.W.codeIn K cd5 "write_coding" = true)
    (k5 : PySem.W.keepIn K (.ref f5) = true)
    (a6 : PySem.W.nsIn K mainGlobals "read_coding" = some (some (.ref f6)))
    (l6 : K.lookup f6 = some ⟨oc6, od6, .func (PySem.W.fnOf "read_coding" "read_coding" (defArgs s_read_coding) (defBody s_read_coding) (defScope s_read_coding) .none kV6 dc6 pm6 an6 cd6 ct6), sl6⟩)
    (c6 : PySem.W.codeIn K cd6 "read_coding" = true)
    (k6 : PySem.W.keepIn K (.ref f6) = true)
    (a7 : PySem.W.nsIn K mainGlobals "_law_cell" = some (some (.ref f7)))
    (l7 : K.lookup f7 = some ⟨oc7, od7, .func (PySem.W.fnOf "_law_cell" "_law_cell" (defArgs s_llaw_cell) (defBody s_llaw_cell) (defScope s_llaw_cell) .none kV7 dc7 pm7 an7 cd7 ct7), sl7⟩)
    (c7 : PySem.W.codeIn K cd7 "_law_cell" = true)
    (k7 : PySem.W.keepIn K (.ref f7) = true)
    (a8 : PySem.W.nsIn K mainGlobals "_law_digits" = some (some (.ref f8)))
    (l8 : K.lookup f8 = some ⟨oc8, od8, .func (PySem.W.fnOf "_law_digits" "_law_digits" (defArgs s_llaw_digits) (defBody s_llaw_digits) (defScope s_llaw_digits) .none kV8 dc8 pm8 an8 cd8 ct8), sl8⟩)
    (c8 : PySem.W.codeIn K cd8 "_law_digits" = true)
    (k8 : PySem.W.keepIn K (.ref f8) = true)
    (a9 : PySem.W.nsIn K mainGlobals "_law_draw" = some (some (.ref f9)))
    (l9 : K.lookup f9 = some ⟨oc9, od9, .func (PySem.W.fnOf "_law_draw" "_law_draw" (defArgs s_llaw_draw) (defBody s_llaw_draw) (defScope s_llaw_draw) .none kV9 dc9 pm9 an9 cd9 ct9), sl9⟩)
    (c9 : PySem.W.codeIn K cd9 "_law_draw" = true)
    (k9 : PySem.W.keepIn K (.ref f9) = true)
    (a10 : PySem.W.nsIn K mainGlobals "_law_pick" = some (some (.ref f10)))
    (l10 : K.lookup f10 = some ⟨oc10, od10, .func (PySem.W.fnOf "_law_pick" "_law_pick" (defArgs s_llaw_pick) (defBody s_llaw_pick) (defScope s_llaw_pick) .none kV10 dc10 pm10 an10 cd10 ct10), sl10⟩)
    (c10 : PySem.W.codeIn K cd10 "_law_pick" = true)
    (k10 : PySem.W.keepIn K (.ref f10) = true)
    (a11 : PySem.W.nsIn K mainGlobals "_law_small" = some (some (.ref f11)))
    (l11 : K.lookup f11 = some ⟨oc11, od11, .func (PySem.W.fnOf "_law_small" "_law_small" (defArgs s_llaw_small) (defBody s_llaw_small) (defScope s_llaw_small) .none kV11 dc11 pm11 an11 cd11 ct11), sl11⟩)
    (c11 : PySem.W.codeIn K cd11 "_law_small" = true)
    (k11 : PySem.W.keepIn K (.ref f11) = true)
    (a12 : PySem.W.nsIn K mainGlobals "_law_number" = some (some (.ref f12)))
    (l12 : K.lookup f12 = some ⟨oc12, od12, .func (PySem.W.fnOf "_law_number" "_law_number" (defArgs s_llaw_number) (defBody s_llaw_number) (defScope s_llaw_number) .none kV12 dc12 pm12 an12 cd12 ct12), sl12⟩)
    (c12 : PySem.W.codeIn K cd12 "_law_number" = true)
    (k12 : PySem.W.keepIn K (.ref f12) = true)
    (a13 : PySem.W.nsIn K mainGlobals "_law_decoded" = some (some (.ref f13)))
    (l13 : K.lookup f13 = some ⟨oc13, od13, .func (PySem.W.fnOf "_law_decoded" "_law_decoded" (defArgs s_llaw_decoded) (defBody s_llaw_decoded) (defScope s_llaw_decoded) .none kV13 dc13 pm13 an13 cd13 ct13), sl13⟩)
    (c13 : PySem.W.codeIn K cd13 "_law_decoded" = true)
    (k13 : PySem.W.keepIn K (.ref f13) = true)
    (a14 : PySem.W.nsIn K mainGlobals "_law_code" = some (some (.ref f14)))
    (l14 : K.lookup f14 = some ⟨oc14, od14, .func (PySem.W.fnOf "_law_code" "_law_code" (defArgs s_llaw_code) (defBody s_llaw_code) (defScope s_llaw_code) .none kV14 dc14 pm14 an14 cd14 ct14), sl14⟩)
    (c14 : PySem.W.codeIn K cd14 "_law_code" = true)
    (k14 : PySem.W.keepIn K (.ref f14) = true)
    (a15 : PySem.W.nsIn K mainGlobals "_law_named" = some (some (.ref f15)))
    (l15 : K.lookup f15 = some ⟨oc15, od15, .func (PySem.W.fnOf "_law_named" "_law_named" (defArgs s_llaw_named) (defBody s_llaw_named) (defScope s_llaw_named) .none kV15 dc15 pm15 an15 cd15 ct15), sl15⟩)
    (c15 : PySem.W.codeIn K cd15 "_law_named" = true)
    (k15 : PySem.W.keepIn K (.ref f15) = true)
    (a16 : PySem.W.nsIn K mainGlobals "_law_like" = some (some (.ref f16)))
    (l16 : K.lookup f16 = some ⟨oc16, od16, .func (PySem.W.fnOf "_law_like" "_law_like" (defArgs s_llaw_like) (defBody s_llaw_like) (defScope s_llaw_like) .none kV16 dc16 pm16 an16 cd16 ct16), sl16⟩)
    (c16 : PySem.W.codeIn K cd16 "_law_like" = true)
    (k16 : PySem.W.keepIn K (.ref f16) = true)
    (a17 : PySem.W.nsIn K mainGlobals "_law_coding_fault" = some (some (.ref f17)))
    (l17 : K.lookup f17 = some ⟨oc17, od17, .func (PySem.W.fnOf "_law_coding_fault" "_law_coding_fault" (defArgs s_llaw_coding_fault) (defBody s_llaw_coding_fault) (defScope s_llaw_coding_fault) .none kV17 dc17 pm17 an17 cd17 ct17), sl17⟩)
    (c17 : PySem.W.codeIn K cd17 "_law_coding_fault" = true)
    (k17 : PySem.W.keepIn K (.ref f17) = true)
    (a18 : PySem.W.nsIn K mainGlobals "_law_free" = some (some (.ref f18)))
    (l18 : K.lookup f18 = some ⟨oc18, od18, .func (PySem.W.fnOf "_law_free" "_law_free" (defArgs s_llaw_free) (defBody s_llaw_free) (defScope s_llaw_free) .none kV18 dc18 pm18 an18 cd18 ct18), sl18⟩)
    (c18 : PySem.W.codeIn K cd18 "_law_free" = true)
    (k18 : PySem.W.keepIn K (.ref f18) = true)
    (a19 : PySem.W.nsIn K mainGlobals "_law_refusal" = some (some (.ref f19)))
    (l19 : K.lookup f19 = some ⟨oc19, od19, .func (PySem.W.fnOf "_law_refusal" "_law_refusal" (defArgs s_llaw_refusal) (defBody s_llaw_refusal) (defScope s_llaw_refusal) .none kV19 dc19 pm19 an19 cd19 ct19), sl19⟩)
    (c19 : PySem.W.codeIn K cd19 "_law_refusal" = true)
    (k19 : PySem.W.keepIn K (.ref f19) = true)
    (a20 : PySem.W.nsIn K mainGlobals "_law_told" = some (some (.ref f20)))
    (l20 : K.lookup f20 = some ⟨oc20, od20, .func (PySem.W.fnOf "_law_told" "_law_told" (defArgs s_llaw_told) (defBody s_llaw_told) (defScope s_llaw_told) .none kV20 dc20 pm20 an20 cd20 ct20), sl20⟩)
    (c20 : PySem.W.codeIn K cd20 "_law_told" = true)
    (k20 : PySem.W.keepIn K (.ref f20) = true)
    (a21 : PySem.W.nsIn K mainGlobals "_law_cut" = some (some (.ref f21)))
    (l21 : K.lookup f21 = some ⟨oc21, od21, .func (PySem.W.fnOf "_law_cut" "_law_cut" (defArgs s_llaw_cut) (defBody s_llaw_cut) (defScope s_llaw_cut) .none kV21 dc21 pm21 an21 cd21 ct21), sl21⟩)
    (c21 : PySem.W.codeIn K cd21 "_law_cut" = true)
    (k21 : PySem.W.keepIn K (.ref f21) = true)
    (a22 : PySem.W.nsIn K mainGlobals "law" = some (some (.ref f22)))
    (l22 : K.lookup f22 = some ⟨oc22, od22, .func (PySem.W.fnOf "law" "law" (defArgs s_law) (defBody s_law) (defScope s_law) .none kV22 dc22 pm22 an22 cd22 ct22), sl22⟩)
    (c22 : PySem.W.codeIn K cd22 "law" = true)
    (k22 : PySem.W.keepIn K (.ref f22) = true)
    (z_bool : PySem.W.nsIn K mainGlobals "bool" = some none)
    (z_divmod : PySem.W.nsIn K mainGlobals "divmod" = some none)
    (z_enumerate : PySem.W.nsIn K mainGlobals "enumerate" = some none)
    (z_int : PySem.W.nsIn K mainGlobals "int" = some none)
    (z_isinstance : PySem.W.nsIn K mainGlobals "isinstance" = some none)
    (z_len : PySem.W.nsIn K mainGlobals "len" = some none)
    (z_min : PySem.W.nsIn K mainGlobals "min" = some none)
    (z_range : PySem.W.nsIn K mainGlobals "range" = some none)
    (z_str : PySem.W.nsIn K mainGlobals "str" = some none)
    (z_super : PySem.W.nsIn K mainGlobals "super" = some none)
    (z_tuple : PySem.W.nsIn K mainGlobals "tuple" = some none)
    (g_BOUNDS : PySem.W.nsIn K mainGlobals "BOUNDS" = some (some (.ref aBO)))
    (dt_BOUNDS : K.lookup aBO = some ⟨.type "tuple", odBO, .seq itBO kBO, slBO⟩)
    (ds_BOUNDS : itBO.size ≤ 100)
    (dx_BOUNDS : Vals (([0, 0, 95, 9025, 857375] : List Int).map V.int) itBO.toList)
    (g_DIGITS : PySem.W.nsIn K mainGlobals "DIGITS" = some (some (.str ⟨#[48, 49, 50, 51, 52, 53, 54, 55, 56, 57, 97, 98, 99, 100, 101, 102, 103, 104, 105, 106, 107, 108, 109, 110, 111, 112, 113, 114, 115, 116, 117, 118, 119, 120, 121, 122, 65, 66, 67, 68, 69, 70, 71, 72, 73, 74, 75, 76, 77, 78, 79, 80, 81, 82, 83, 84, 85, 86, 87, 88, 89, 90, 43, 45]⟩ tDI)))
    (g_SIGNS : PySem.W.nsIn K mainGlobals "SIGNS" = some (some (.str ⟨#[10, 32, 33, 34, 35, 36, 38, 39, 40, 41, 42, 43, 44, 45, 46, 47, 48, 49, 50, 51, 52, 53, 54, 55, 56, 57, 58, 59, 60, 61, 62, 63, 64, 65, 66, 67, 68, 69, 70, 71, 72, 73, 74, 75, 76, 77, 78, 79, 80, 81, 82, 83, 84, 85, 86, 87, 88, 89, 90, 91, 92, 93, 94, 95, 96, 97, 98, 99, 100, 101, 102, 103, 104, 105, 106, 107, 108, 109, 110, 111, 112, 113, 114, 115, 116, 117, 118, 119, 120, 121, 122, 123, 124, 125, 126]⟩ tSI))) :
    ∃ fd : FuncData, (∀ (s : Shared) (v : Value), BindsTo s fd ⟨[v], []⟩ [("script", v)]) ∧ ∀ base : Heap, K.In base → base.Ns mainGlobals mg → L2.FnOk l.prog w K mg base CX0 66 fa fd ["script"] (lift K 1 sp_law) := by
  have e := hfa.symm.trans (PySem.W.mg_of X G a22)
  cases e
  have F1 := fun_mk (st := s_group_digits) l1 c1 k1
  have b1 : Binds K _ P_group_digits [] := F1.binds (ps := P_group_digits) fun _ _ _ _ _ _ us hl => match us, hl with | [_], _ => rfl
  have F2 := fun_mk (st := s_group_signs) l2 c2 k2
  have b2 : Binds K _ P_group_signs [] := F2.binds (ps := P_group_signs) fun _ _ _ _ _ _ us hl => match us, hl with | [_], _ => rfl
  have F3 := fun_mk (st := s_line_at) l3 c3 k3
  have b3 : Binds K _ P_line_at [] := F3.binds (ps := P_line_at) fun _ _ _ _ _ _ us hl => match us, hl with | [_, _], _ => rfl
  have F4 := fun_mk (st := s_decoded) l4 c4 k4
  have b4 : Binds K _ P_decoded [] := F4.binds (ps := P_decoded) fun _ _ _ _ _ _ us hl => match us, hl with | [_], _ => rfl
  have F5 := fun_mk (st := s_write_coding) l5 c5 k5
  have b5 : Binds K _ P_write_coding [] := F5.binds (ps := P_write_coding) fun _ _ _ _ _ _ us hl => match us, hl with | [_], _ => rfl
  have F6 := fun_mk (st := s_read_coding) l6 c6 k6
  have b6 : Binds K _ P_read_coding [] := F6.binds (ps := P_read_coding) fun _ _ _ _ _ _ us hl => match us, hl with | [_], _ => rfl
  have F7 := fun_mk (st := s_llaw_cell) l7 c7 k7
  have b7 : Binds K _ P_llaw_cell [] := F7.binds (ps := P_llaw_cell) fun _ _ _ _ _ _ us hl => match us, hl with | [_, _], _ => rfl
  have F8 := fun_mk (st := s_llaw_digits) l8 c8 k8
  have b8 : Binds K _ P_llaw_digits [] := F8.binds (ps := P_llaw_digits) fun _ _ _ _ _ _ us hl => match us, hl with | [_, _, _], _ => rfl
  have F9 := fun_mk (st := s_llaw_draw) l9 c9 k9
  have b9 : Binds K _ P_llaw_draw [] := F9.binds (ps := P_llaw_draw) fun _ _ _ _ _ _ us hl => match us, hl with | [_, _], _ => rfl
  have F10 := fun_mk (st := s_llaw_pick) l10 c10 k10
  have b10 : Binds K _ P_llaw_pick [] := F10.binds (ps := P_llaw_pick) fun _ _ _ _ _ _ us hl => match us, hl with | [_, _], _ => rfl
  have F11 := fun_mk (st := s_llaw_small) l11 c11 k11
  have b11 : Binds K _ P_llaw_small [] := F11.binds (ps := P_llaw_small) fun _ _ _ _ _ _ us hl => match us, hl with | [], _ => rfl
  have F12 := fun_mk (st := s_llaw_number) l12 c12 k12
  have b12 : Binds K _ P_llaw_number [] := F12.binds (ps := P_llaw_number) fun _ _ _ _ _ _ us hl => match us, hl with | [_, _, _], _ => rfl
  have F13 := fun_mk (st := s_llaw_decoded) l13 c13 k13
  have b13 : Binds K _ P_llaw_decoded [] := F13.binds (ps := P_llaw_decoded) fun _ _ _ _ _ _ us hl => match us, hl with | [_], _ => rfl
  have F14 := fun_mk (st := s_llaw_code) l14 c14 k14
  have b14 : Binds K _ P_llaw_code [] := F14.binds (ps := P_llaw_code) fun _ _ _ _ _ _ us hl => match us, hl with | [_], _ => rfl
  have F15 := fun_mk (st := s_llaw_named) l15 c15 k15
  have b15 : Binds K _ P_llaw_named [] := F15.binds (ps := P_llaw_named) fun _ _ _ _ _ _ us hl => match us, hl with | [_, _], _ => rfl
  have F16 := fun_mk (st := s_llaw_like) l16 c16 k16
  have b16 : Binds K _ P_llaw_like [] := F16.binds (ps := P_llaw_like) fun _ _ _ _ _ _ us hl => match us, hl with | [_, _], _ => rfl
  have F17 := fun_mk (st := s_llaw_coding_fault) l17 c17 k17
  have b17 : Binds K _ P_llaw_coding_fault [] := F17.binds (ps := P_llaw_coding_fault) fun _ _ _ _ _ _ us hl => match us, hl with | [_, _], _ => rfl
  have F18 := fun_mk (st := s_llaw_free) l18 c18 k18
  have b18 : Binds K _ P_llaw_free [] := F18.binds (ps := P_llaw_free) fun _ _ _ _ _ _ us hl => match us, hl with | [_, _], _ => rfl
  have F19 := fun_mk (st := s_llaw_refusal) l19 c19 k19
  have b19 : Binds K _ P_llaw_refusal [] := F19.binds (ps := P_llaw_refusal) fun _ _ _ _ _ _ us hl => match us, hl with | [_, _], _ => rfl
  have F20 := fun_mk (st := s_llaw_told) l20 c20 k20
  have b20 : Binds K _ P_llaw_told [] := F20.binds (ps := P_llaw_told) fun _ _ _ _ _ _ us hl => match us, hl with | [_], _ => rfl
  have F21 := fun_mk (st := s_llaw_cut) l21 c21 k21
  have b21 : Binds K _ P_llaw_cut [] := F21.binds (ps := P_llaw_cut) fun _ _ _ _ _ _ us hl => match us, hl with | [_, _], _ => rfl
  have F22 := fun_mk (st := s_law) l22 c22 k22
  have b22 : Binds K _ P_law [] := F22.binds (ps := P_law) fun _ _ _ _ _ _ us hl => match us, hl with | [_], _ => rfl
  have oex1 : OexC K C1 := ⟨⟨nm1, q1, N1, bs1, _, sn1, su1, ab1, co1, dd1, m01, m11, m21, m31, m51, xL1, rfl⟩, xsa1, xec1, xtc1, xkc1⟩
  have bx1 : Binds K (PySem.W.ksFn "__init__" "BadLetter.__init__" (defArgs s_BadLetterU_initU) (defBody s_BadLetterU_initU) (defScope s_BadLetterU_initU) .none kV0 dc0 pm0 an0 (.ref ca1) ct0 cc1) P_BadLetterU_initU [] := fun s us _ hl => match us, hl with | [_, _, _], _ => .of_eq rfl
  have X1 : XCls l.prog K mg "BadLetter" C1 f0 (PySem.W.ksFn "__init__" "BadLetter.__init__" (defArgs s_BadLetterU_initU) (defBody s_BadLetterU_initU) (defScope s_BadLetterU_initU) .none kV0 dc0 pm0 an0 (.ref ca1) ct0 cc1) N_BadLetterU_initU P_BadLetterU_initU 3 rd_BadLetterU_initU (fin2 C1 "line" "reason") := { oex := oex1, gl := PySem.W.mg_of X G aC1, ini := xin1, tI := xti1, kC := xkc1, bi := bx1, xf := ⟨xga1, xgg1, xec1, xhc1⟩, xc := ⟨xga1, xgg1, xec1, xhc1, xca1, ohn, oht, xmo1⟩, me := exm_selfD xec1 xic1 xtc1 xsc1, fn := fun w base => fn_ini2 (c := C1) l0 c0 ns_BadLetterU_initU ⟨oex1, ⟨_, _, _, xce1⟩, ⟨_, _, _, _, _, _, xco1, xvs1, xfm1⟩, xsu1, xsv1, xms1, thr, top⟩ ⟨_, rfl, rfl⟩ (PySem.W.mg_none_of X G z_super) rfl (fun _ => rfl) (fun _ => ⟨_, rfl⟩) xf_line_1 xf_reason_1 rfl (by decide) (fun _ _ _ _ _ => (a_cons (e_js (.cons (e_str [108, 105, 110, 101, 32]) (.cons (e_fmt (e_var 1)) (.cons (e_str [58, 32]) (.cons (e_fmt (e_var 2)) .nil))))) a_nil)) }
  let F : Nat → Addr := fun i => match i with | 0 => f0 | 1 => f1 | 2 => f2 | 3 => f3 | 4 => f4 | 5 => f5 | 6 => f6 | 7 => f7 | 8 => f8 | 9 => f9 | 10 => f10 | 11 => f11 | 12 => f12 | 13 => f13 | 14 => f14 | 15 => f15 | 16 => f16 | 17 => f17 | 18 => f18 | 19 => f19 | 20 => f20 | 21 => f21 | 22 => fa | _ => 0
  let D : Nat → FuncData := fun i => match i with | 0 => PySem.W.ksFn "__init__" "BadLetter.__init__" (defArgs s_BadLetterU_initU) (defBody s_BadLetterU_initU) (defScope s_BadLetterU_initU) .none kV0 dc0 pm0 an0 (.ref ca1) ct0 cc1 | 1 => PySem.W.fnOf "group_digits" "group_digits" (defArgs s_group_digits) (defBody s_group_digits) (defScope s_group_digits) .none kV1 dc1 pm1 an1 cd1 ct1 | 2 => PySem.W.fnOf "group_signs" "group_signs" (defArgs s_group_signs) (defBody s_group_signs) (defScope s_group_signs) .none kV2 dc2 pm2 an2 cd2 ct2 | 3 => PySem.W.fnOf "line_at" "line_at" (defArgs s_line_at) (defBody s_line_at) (defScope s_line_at) .none kV3 dc3 pm3 an3 cd3 ct3 | 4 => PySem.W.fnOf "decoded" "decoded" (defArgs s_decoded) (defBody s_decoded) (defScope s_decoded) .none kV4 dc4 pm4 an4 cd4 ct4 | 5 => PySem.W.fnOf "write_coding" "write_coding" (defArgs s_write_coding) (defBody s_write_coding) (defScope s_write_coding) .none kV5 dc5 pm5 an5 cd5 ct5 | 6 => PySem.W.fnOf "read_coding" "read_coding" (defArgs s_read_coding) (defBody s_read_coding) (defScope s_read_coding) .none kV6 dc6 pm6 an6 cd6 ct6 | 7 => PySem.W.fnOf "_law_cell" "_law_cell" (defArgs s_llaw_cell) (defBody s_llaw_cell) (defScope s_llaw_cell) .none kV7 dc7 pm7 an7 cd7 ct7 | 8 => PySem.W.fnOf "_law_digits" "_law_digits" (defArgs s_llaw_digits) (defBody s_llaw_digits) (defScope s_llaw_digits) .none kV8 dc8 pm8 an8 cd8 ct8 | 9 => PySem.W.fnOf "_law_draw" "_law_draw" (defArgs s_llaw_draw) (defBody s_llaw_draw) (defScope s_llaw_draw) .none kV9 dc9 pm9 an9 cd9 ct9 | 10 => PySem.W.fnOf "_law_pick" "_law_pick" (defArgs s_llaw_pick) (defBody s_llaw_pick) (defScope s_llaw_pick) .none kV10 dc10 pm10 an10 cd10 ct10 | 11 => PySem.W.fnOf "_law_small" "_law_small" (defArgs s_llaw_small) (defBody s_llaw_small) (defScope s_llaw_small) .none kV11 dc11 pm11 an11 cd11 ct11 | 12 => PySem.W.fnOf "_law_number" "_law_number" (defArgs s_llaw_number) (defBody s_llaw_number) (defScope s_llaw_number) .none kV12 dc12 pm12 an12 cd12 ct12 | 13 => PySem.W.fnOf "_law_decoded" "_law_decoded" (defArgs s_llaw_decoded) (defBody s_llaw_decoded) (defScope s_llaw_decoded) .none kV13 dc13 pm13 an13 cd13 ct13 | 14 => PySem.W.fnOf "_law_code" "_law_code" (defArgs s_llaw_code) (defBody s_llaw_code) (defScope s_llaw_code) .none kV14 dc14 pm14 an14 cd14 ct14 | 15 => PySem.W.fnOf "_law_named" "_law_named" (defArgs s_llaw_named) (defBody s_llaw_named) (defScope s_llaw_named) .none kV15 dc15 pm15 an15 cd15 ct15 | 16 => PySem.W.fnOf "_law_like" "_law_like" (defArgs s_llaw_like) (defBody s_llaw_like) (defScope s_llaw_like) .none kV16 dc16 pm16 an16 cd16 ct16 | 17 => PySem.W.fnOf "_law_coding_fault" "_law_coding_fault" (defArgs s_llaw_coding_fault) (defBody s_llaw_coding_fault) (defScope s_llaw_coding_fault) .none kV17 dc17 pm17 an17 cd17 ct17 | 18 => PySem.W.fnOf "_law_free" "_law_free" (defArgs s_llaw_free) (defBody s_llaw_free) (defScope s_llaw_free) .none kV18 dc18 pm18 an18 cd18 ct18 | 19 => PySem.W.fnOf "_law_refusal" "_law_refusal" (defArgs s_llaw_refusal) (defBody s_llaw_refusal) (defScope s_llaw_refusal) .none kV19 dc19 pm19 an19 cd19 ct19 | 20 => PySem.W.fnOf "_law_told" "_law_told" (defArgs s_llaw_told) (defBody s_llaw_told) (defScope s_llaw_told) .none kV20 dc20 pm20 an20 cd20 ct20 | 21 => PySem.W.fnOf "_law_cut" "_law_cut" (defArgs s_llaw_cut) (defBody s_llaw_cut) (defScope s_llaw_cut) .none kV21 dc21 pm21 an21 cd21 ct21 | 22 => PySem.W.fnOf "law" "law" (defArgs s_law) (defBody s_law) (defScope s_law) .none kV22 dc22 pm22 an22 cd22 ct22 | _ => PySem.W.fnOf "law" "law" (defArgs s_law) (defBody s_law) (defScope s_law) .none kV22 dc22 pm22 an22 cd22 ct22
  let C : Nat → Addr := fun i => match i with | 0 => C0 | 1 => C1 | _ => 0
  have T : Tx l.prog K mg F D C := {
    x_BadLetter := X1,
    xn_BadLetter_line := xf_line_1,
    xn_BadLetter_reason := xf_reason_1,
    xg_MailError := PySem.W.mg_of X G aC0,
    d_group_digits := ⟨F1, PySem.W.mg_of X G a1, b1⟩,
    d_group_signs := ⟨F2, PySem.W.mg_of X G a2, b2⟩,
    d_line_at := ⟨F3, PySem.W.mg_of X G a3, b3⟩,
    d_decoded := ⟨F4, PySem.W.mg_of X G a4, b4⟩,
    d_write_coding := ⟨F5, PySem.W.mg_of X G a5, b5⟩,
    d_read_coding := ⟨F6, PySem.W.mg_of X G a6, b6⟩,
    d_llaw_cell := ⟨F7, PySem.W.mg_of X G a7, b7⟩,
    d_llaw_digits := ⟨F8, PySem.W.mg_of X G a8, b8⟩,
    d_llaw_draw := ⟨F9, PySem.W.mg_of X G a9, b9⟩,
    d_llaw_pick := ⟨F10, PySem.W.mg_of X G a10, b10⟩,
    d_llaw_small := ⟨F11, PySem.W.mg_of X G a11, b11⟩,
    d_llaw_number := ⟨F12, PySem.W.mg_of X G a12, b12⟩,
    d_llaw_decoded := ⟨F13, PySem.W.mg_of X G a13, b13⟩,
    d_llaw_code := ⟨F14, PySem.W.mg_of X G a14, b14⟩,
    d_llaw_named := ⟨F15, PySem.W.mg_of X G a15, b15⟩,
    d_llaw_like := ⟨F16, PySem.W.mg_of X G a16, b16⟩,
    d_llaw_coding_fault := ⟨F17, PySem.W.mg_of X G a17, b17⟩,
    d_llaw_free := ⟨F18, PySem.W.mg_of X G a18, b18⟩,
    d_llaw_refusal := ⟨F19, PySem.W.mg_of X G a19, b19⟩,
    d_llaw_told := ⟨F20, PySem.W.mg_of X G a20, b20⟩,
    d_llaw_cut := ⟨F21, PySem.W.mg_of X G a21, b21⟩,
    d_law := ⟨F22, PySem.W.mg_of X G a22, b22⟩,
    b_bool := PySem.W.mg_none_of X G z_bool,
    b_divmod := PySem.W.mg_none_of X G z_divmod,
    b_enumerate := PySem.W.mg_none_of X G z_enumerate,
    b_int := PySem.W.mg_none_of X G z_int,
    b_isinstance := PySem.W.mg_none_of X G z_isinstance,
    b_len := PySem.W.mg_none_of X G z_len,
    b_min := PySem.W.mg_none_of X G z_min,
    b_range := PySem.W.mg_none_of X G z_range,
    b_str := PySem.W.mg_none_of X G z_str,
    b_super := PySem.W.mg_none_of X G z_super,
    b_tuple := PySem.W.mg_none_of X G z_tuple,
    c_BOUNDS := glob_tupI [0, 0, 95, 9025, 857375] (PySem.W.mg_of X G g_BOUNDS) dt_BOUNDS rfl rfl (sz_le ds_BOUNDS) dx_BOUNDS,
    c_DIGITS := glob_str [48, 49, 50, 51, 52, 53, 54, 55, 56, 57, 97, 98, 99, 100, 101, 102, 103, 104, 105, 106, 107, 108, 109, 110, 111, 112, 113, 114, 115, 116, 117, 118, 119, 120, 121, 122, 65, 66, 67, 68, 69, 70, 71, 72, 73, 74, 75, 76, 77, 78, 79, 80, 81, 82, 83, 84, 85, 86, 87, 88, 89, 90, 43, 45] (PySem.W.mg_of X G g_DIGITS),
    c_SIGNS := glob_str [10, 32, 33, 34, 35, 36, 38, 39, 40, 41, 42, 43, 44, 45, 46, 47, 48, 49, 50, 51, 52, 53, 54, 55, 56, 57, 58, 59, 60, 61, 62, 63, 64, 65, 66, 67, 68, 69, 70, 71, 72, 73, 74, 75, 76, 77, 78, 79, 80, 81, 82, 83, 84, 85, 86, 87, 88, 89, 90, 91, 92, 93, 94, 95, 96, 97, 98, 99, 100, 101, 102, 103, 104, 105, 106, 107, 108, 109, 110, 111, 112, 113, 114, 115, 116, 117, 118, 119, 120, 121, 122, 123, 124, 125, 126] (PySem.W.mg_of X G g_SIGNS) }
  exact ⟨D 22, fun s v => .of_eq rfl, fun base _ _ => all_fn T⟩
theorem walk {l : PySem.W.OpenLaw} {q : Program} {loose : List Str} {XP : (Str → Option Value) → Heap → Prop} {YP : World → Heap → Prop} {d : DefRec} {K : Params → PySem.W.Frag} (hn : l.most = some 63) (hdf : d.params.defaults = [])
    (hY : ∀ (w : World) (h : Heap), YP w h → (K w.params).In h)
    (F : ∀ (w : World) (mg : Str → Option Value) (fa : Addr) (h : Heap), (K w.params).In h → h.Ns mainGlobals mg → mg d.name = some (.ref fa) →
      ∃ fd : FuncData, (∀ (s : Shared) (u : Value), BindsTo s fd ⟨[u], []⟩ [("script", u)]) ∧ ∀ base : Heap, (K w.params).In base → base.Ns mainGlobals mg → L2.FnOk l.prog w (K w.params) mg base CX0 66 fa fd ["script"] (lift (K w.params) 1 sp_law)) :
    PySem.W.WalkO q loose XP YP l.row.toRowW d [] (fun f vs => PySem.call f vs) :=
  L2.walk_of (n := 63) (k := 66) (x := "script") (CX := fun _ => CX0) (sp := fun w => lift (K w.params) 1 sp_law) hn (by decide) hdf ⟨rfl, by decide, by decide⟩ hY F (fun _ _ a ns hl ho hS => law_start hl ho hS) fun _ _ _ _ _ z => z
end LW

open PySem PySem.W PyProof.Rows in
set_option maxRecDepth 100000 in
set_option maxHeartbeats 0 in
theorem PySem.Challenge.cw_oncemail_k04_letters_codings_holds : PySem.Challenge.rw_oncemail_k04_letters_codings.Holds := by
  w_on; o_law; k_head; (case hw => w_witness2)
  k_fill
  refine LW.walk (l := PySem.Challenge.rw_oncemail_k04_letters_codings) rfl rfl (fun w h Y => PySem.W.kIn_of Y) ?F
  case F =>
    intro w mg fa h KX G hmg
    refine' LW.all_mk KX G hmg ?aC0 ?aC1 ?thr ?top ?ohn ?oht ?xL1 ?xsa1 ?xga1 ?xgg1 ?xca1 ?xmo1 ?xin1 ?xti1 ?xkc1 ?xec1 ?xtc1 ?xhc1 ?xic1 ?xsc1 ?xsv1 ?xms1 ?xsu1 ?l0 ?c0 ?xce1 ?xco1 ?xvs1 ?xfm1 ?xf_line_1 ?xf_reason_1 ?a1 ?l1 ?c1 ?k1 ?a2 ?l2 ?c2 ?k2 ?a3 ?l3 ?c3 ?k3 ?a4 ?l4 ?c4 ?k4 ?a5 ?l5 ?c5 ?k5 ?a6 ?l6 ?c6 ?k6 ?a7 ?l7 ?c7 ?k7 ?a8 ?l8 ?c8 ?k8 ?a9 ?l9 ?c9 ?k9 ?a10 ?l10 ?c10 ?k10 ?a11 ?l11 ?c11 ?k11 ?a12 ?l12 ?c12 ?k12 ?a13 ?l13 ?c13 ?k13 ?a14 ?l14 ?c14 ?k14 ?a15 ?l15 ?c15 ?k15 ?a16 ?l16 ?c16 ?k16 ?a17 ?l17 ?c17 ?k17 ?a18 ?l18 ?c18 ?k18 ?a19 ?l19 ?c19 ?k19 ?a20 ?l20 ?c20 ?k20 ?a21 ?l21 ?c21 ?k21 ?a22 ?l22 ?c22 ?k22 ?z_bool ?z_divmod ?z_enumerate ?z_int ?z_isinstance ?z_len ?z_min ?z_range ?z_str ?z_super ?z_tuple ?g_BOUNDS ?dt_BOUNDS ?ds_BOUNDS ?dx_BOUNDS ?g_DIGITS ?g_SIGNS
    (case aC0 => k_is)
    (case aC1 => k_is)
    (case thr => k_is)
    (case top => first | rfl | decide +kernel)
    (case ohn => k_is)
    (case oht => k_is)
    (case xL1 => k_is)
    (case xsa1 => k_is)
    (case xga1 => k_is)
    (case xgg1 => k_is)
    (case xca1 => k_is)
    (case xmo1 => k_is)
    (case xin1 => k_is)
    (case xti1 => k_is)
    (case xkc1 => k_is)
    (case xec1 => k_is)
    (case xtc1 => k_is)
    (case xhc1 => k_is)
    (case xic1 => k_is)
    (case xsc1 => first | rfl | k_is)
    (case xsv1 => k_is)
    (case xms1 => k_is)
    (case xsu1 => ks_is)
    (case l0 => k_is)
    (case c0 => k_is)
    (case xce1 => k_is)
    (case xco1 => k_is)
    (case xvs1 => rfl)
    (case xfm1 => first | rfl | decide +kernel)
    (case xf_line_1 => k_is)
    (case xf_reason_1 => k_is)
    (case a1 => k_is)
    (case l1 => k_is)
    (case c1 => k_is)
    (case k1 => k_is)
    (case a2 => k_is)
    (case l2 => k_is)
    (case c2 => k_is)
    (case k2 => k_is)
    (case a3 => k_is)
    (case l3 => k_is)
    (case c3 => k_is)
    (case k3 => k_is)
    (case a4 => k_is)
    (case l4 => k_is)
    (case c4 => k_is)
    (case k4 => k_is)
    (case a5 => k_is)
    (case l5 => k_is)
    (case c5 => k_is)
    (case k5 => k_is)
    (case a6 => k_is)
    (case l6 => k_is)
    (case c6 => k_is)
    (case k6 => k_is)
    (case a7 => k_is)
    (case l7 => k_is)
    (case c7 => k_is)
    (case k7 => k_is)
    (case a8 => k_is)
    (case l8 => k_is)
    (case c8 => k_is)
    (case k8 => k_is)
    (case a9 => k_is)
    (case l9 => k_is)
    (case c9 => k_is)
    (case k9 => k_is)
    (case a10 => k_is)
    (case l10 => k_is)
    (case c10 => k_is)
    (case k10 => k_is)
    (case a11 => k_is)
    (case l11 => k_is)
    (case c11 => k_is)
    (case k11 => k_is)
    (case a12 => k_is)
    (case l12 => k_is)
    (case c12 => k_is)
    (case k12 => k_is)
    (case a13 => k_is)
    (case l13 => k_is)
    (case c13 => k_is)
    (case k13 => k_is)
    (case a14 => k_is)
    (case l14 => k_is)
    (case c14 => k_is)
    (case k14 => k_is)
    (case a15 => k_is)
    (case l15 => k_is)
    (case c15 => k_is)
    (case k15 => k_is)
    (case a16 => k_is)
    (case l16 => k_is)
    (case c16 => k_is)
    (case k16 => k_is)
    (case a17 => k_is)
    (case l17 => k_is)
    (case c17 => k_is)
    (case k17 => k_is)
    (case a18 => k_is)
    (case l18 => k_is)
    (case c18 => k_is)
    (case k18 => k_is)
    (case a19 => k_is)
    (case l19 => k_is)
    (case c19 => k_is)
    (case k19 => k_is)
    (case a20 => k_is)
    (case l20 => k_is)
    (case c20 => k_is)
    (case k20 => k_is)
    (case a21 => k_is)
    (case l21 => k_is)
    (case c21 => k_is)
    (case k21 => k_is)
    (case a22 => k_is)
    (case l22 => k_is)
    (case c22 => k_is)
    (case k22 => k_is)
    (case z_bool => k_is)
    (case z_divmod => k_is)
    (case z_enumerate => k_is)
    (case z_int => k_is)
    (case z_isinstance => k_is)
    (case z_len => k_is)
    (case z_min => k_is)
    (case z_range => k_is)
    (case z_str => k_is)
    (case z_super => k_is)
    (case z_tuple => k_is)
    (case g_BOUNDS => k_is)
    (case dt_BOUNDS => k_is)
    (case ds_BOUNDS => decide)
    (case dx_BOUNDS => exact .cons ⟨_, rfl⟩ (.cons ⟨_, rfl⟩ (.cons ⟨_, rfl⟩ (.cons ⟨_, rfl⟩ (.cons ⟨_, rfl⟩ .nil)))))
    (case g_DIGITS => k_is)
    (case g_SIGNS => k_is)
#print axioms PySem.Challenge.cw_oncemail_k04_letters_codings_holds

