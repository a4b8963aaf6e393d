import PyProof.Rows.All
import Wide.All
import OpenK.AllK
import Wide.FinOn
import HandS.ForMost
import HandS.Set
import HandS.Strs
import HandS.SetFor
import HandS.SetKeys
import HandS.SortInts
import PyProof.Rows.SortShellAny
import HandS.Flow
import HandS.TupAny
import HandS.Walk
import HandS.Style
import HandS.Star
import HandS.StrMore
import HandS.IsInst
import HandS.Codes
import HandS.TupMul
import HandS.SortRule
import HandS.Zip
import HandS.Conv
import HandS.FStr
import HandS.NoneIn
import HandS.Dict
import KE.KTupSum
import PySem.Challenge.RW_oncemail_k30_boxes_rows_and_changes
set_option Elab.async false
set_option linter.all false
set_option maxRecDepth 100000
set_option maxHeartbeats 2000000
/-! Sets of keys (ints and texts) with their members told and their table ready to be walked: made of a list or a tuple, added to, asked, sorted. -/
namespace DK
open PySem PySem.Spec PyProof.Rows L2
def vk : Value → Key
  | .int k _ => .inl k
  | .str x _ => .inr x
  | _ => .inl 0
theorem vk_is {k : Key} {v : Value} (h : keyIs k v = true) : vk v = k := by
  rcases keyIs_shape h with ⟨i, t, rfl, rfl⟩ | ⟨x, t, rfl, rfl⟩ <;> rfl
theorem vk_iff {k j : Key} {v : Value} (h : keyIs k v = true) : keyIs j v = true ↔ vk v = j := ⟨vk_is, fun q => by rw [← q, vk_is h]; exact h⟩
theorem is_scan {k : Key} {v : Value} (h : keyIs k v = true) : v.scannable = true := by
  rcases keyIs_shape h with ⟨i, t, rfl, rfl⟩ | ⟨x, t, rfl, rfl⟩ <;> rfl
abbrev ek (e : Int × Value) : Key := vk e.2
def Gd (w : World) (e : Int × Value) : Prop := keyIs (ek e) e.2 = true ∧ e.1 = keyH w (ek e)
/-- what a table of keys holds -/
structure Tab (w : World) (es : Array (Int × Value)) (t : SetTable) (S : Key → Bool) : Prop where
  gd : ∀ e ∈ es.toList, Gd w e
  nd : (es.toList.map ek).Nodup
  mem : ∀ k, S k = true ↔ k ∈ es.toList.map ek
  lt : es.size < scanBound
  fit : t.fits es.size = true
  ris : Ris t.place.toList
  led : w.params.followText "set-order" = true ∨ t.led = true
def SetQ (w : World) (h : Heap) (a : Addr) (S : Key → Bool) (n : Nat) : Prop := ∃ o es ep t, h.get? a = some o ∧ o.ExactSet ∧ o.data = .set es ep t ∧ Tab w es t S ∧ es.size = n
def memK (ks : List Key) (j : Key) : Bool := ks.any fun k => decide (k = j)
theorem memK_iff {ks : List Key} {j : Key} : memK ks j = true ↔ j ∈ ks := by
  unfold memK
  rw [List.any_eq_true]
  exact ⟨fun ⟨k, h1, h2⟩ => by rw [← of_decide_eq_true h2]; exact h1, fun h => ⟨j, h, decide_eq_true rfl⟩⟩
theorem memK_snoc {ks : List Key} {k j : Key} : memK (ks ++ [k]) j = (memK ks j || decide (j = k)) := by
  rw [Bool.eq_iff_iff, memK_iff, Bool.or_eq_true, memK_iff, decide_eq_true_eq, List.mem_append, List.mem_singleton]
section
variable {P : Program} {w : World} {h h' : Heap} {a : Addr} {S : Key → Bool} {n : Nat} {es : Array (Int × Value)} {t : SetTable}
theorem SetQ.at (R : SetQ w h a S n) (k : ∀ o, h.get? a = some o → h'.get? a = some o) : SetQ w h' a S n := by
  obtain ⟨o, es, ep, t, ho, r⟩ := R
  exact ⟨o, es, ep, t, k o ho, r⟩
theorem SetQ.congr {S' : Key → Bool} (R : SetQ w h a S n) (e : ∀ k, S' k = S k) : SetQ w h a S' n := by
  rw [show S' = S from funext e]; exact R
theorem Tab.elems (T : Tab w es t S) : ElemsOf (mixKind P w) es.toList := fun e he => ⟨⟨ek e, (T.gd e he).1, (T.gd e he).2⟩, is_scan (T.gd e he).1⟩
theorem Tab.is (T : Tab w es t S) (k : Key) : k ∈ es.toList.map ek ↔ ∃ e ∈ es.toList, (mixKind P w).is k e.2 = true := by
  rw [List.mem_map]
  exact ⟨fun ⟨e, he, q⟩ => ⟨e, he, (vk_iff (T.gd e he).1).2 q⟩, fun ⟨e, he, q⟩ => ⟨e, he, (vk_iff (T.gd e he).1).1 q⟩⟩
theorem SetQ.setOf (R : SetQ w h a S n) : h.SetOf (mixKind P w) a S n := by
  obtain ⟨o, es, ep, t, ho, hx, hd, T, hn⟩ := R
  exact ⟨o, es, ep, t, ho, hx, hd, T.elems, fun k => (T.mem k).trans (T.is k), T.lt, T.fit, hn⟩
theorem SetQ.empty {o : Obj} {b : Bool} (ho : h.get? a = some o) (e : o = { cls := .type "set", dict := none, data := .set #[] 0 (.fresh 0 0 (!w.params.followText "set-order")) }) : SetQ w h a (fun _ => false) 0 := by
  subst e
  refine ⟨_, #[], 0, _, ho, ⟨rfl, rfl, rfl⟩, rfl, ⟨fun e he => by simp at he, by simp, fun k => by simp, by decide, by rfl, List.Pairwise.nil, ?_⟩, rfl⟩
  show _ ∨ (!w.params.followText "set-order") = true
  cases w.params.followText "set-order" with
  | false => exact .inr rfl
  | true => exact .inl rfl
end
section
variable {P : Program} {w : World} {A : Around} {E : Value → Shared → Prop} {s : Shared} {a : Addr} {S : Key → Bool} {n : Nat}
/-- the store behind the scan -/
theorem tail {g : Bool → Sem Unit} (hg : ∀ (b : Bool) (s1 : Shared) (Q' : Unit → Shared → Prop), Q' () s1 → wpAny (model P w) A (g b) Q' E s1) {o : Obj} {es es1 : Array (Int × Value)} {ep : Nat} {t t2 : SetTable}
    (ho : s.heap.get? a = some o) (hx : o.ExactSet) (hd : o.data = .set es ep t) {S' : Key → Bool} (T : Tab w es1 t2 S') {wd : Bool} {R : Option Bool → Shared → Prop}
    (hR : ∀ h', Heap.SameBut a s.heap h' → SetQ w h' a S' es1.size → R (some true) { s with heap := h' }) :
    wpAny (model P w) A (do
        storeSet a es1 t2
        if (!wd && t2.tooFull) = true then do
            g (relayAll t2 es1 (SetTable.grown es1.size)).2.2
            storeSet a (relayAll t2 es1 (SetTable.grown es1.size)).1 (relayAll t2 es1 (SetTable.grown es1.size)).2.1
            pure (some true)
          else pure (some true)) R E s := by
  have ho1 := store_at (es' := es1) (t' := t2) ho hd
  have sb1 := Heap.SameBut.update s.heap a (Obj.putSet es1 t2)
  refine wpAny_bind (wpAny_storeSet_of ho hd ?_ (fits_of_scanBound T.lt))
  split
  · have p1 := relayAll_perm t2 es1 (SetTable.grown es1.size)
    have p2 := relayAll_fits t2 es1 (SetTable.grown es1.size)
    have p3 := relayAll_ris t2 es1 (SetTable.grown es1.size)
    have p4 := relayAll_led t2 es1 (SetTable.grown es1.size)
    generalize relayAll t2 es1 (SetTable.grown es1.size) = Z at p1 p2 p3 p4 ⊢
    obtain ⟨es2, t3, gave⟩ := Z
    dsimp only at p1 p2 p3 p4 ⊢
    have z2 : es2.size = es1.size := by rw [← Array.length_toList, p1.length_eq, Array.length_toList]
    have T3 : Tab w es2 t3 S' := ⟨fun e he => T.gd e (p1.mem_iff.mp he), (p1.map ek).nodup_iff.mpr T.nd, fun k => (T.mem k).trans (p1.map ek).mem_iff.symm, by rw [z2]; exact T.lt, p2, p3, T.led.imp id fun z => by rw [p4]; exact z⟩
    refine wpAny_bind (hg _ _ _ (wpAny_bind (wpAny_storeSet_of ho1 rfl ?_ (fits_of_scanBound T3.lt))))
    exact wpAny_pure (hR _ (sb1.trans (Heap.SameBut.update _ a _)) ⟨_, es2, _, t3, store_at (es' := es2) (t' := t3) ho1 rfl, hx, rfl, T3, z2⟩)
  · exact wpAny_pure (hR _ sb1 ⟨_, es1, _, t2, ho1, hx, rfl, T, rfl⟩)
theorem add_hashed {k : Key} {v : Value} {Q : Bool → Shared → Prop} (hv : keyIs k v = true) (R : SetQ w s.heap a S n) (room : n + 1 < scanBound)
    (hQ : ∀ h', Heap.SameBut a s.heap h' → SetQ w h' a (fun j => S j || decide (j = k)) (if S k = true then n else n + 1) → Q (!S k) { s with heap := h' }) : wpAny (model P w) A (setAddHashed a v (keyH w k)) Q E s := by
  obtain ⟨o, es, ep, t, ho, hx, hd, T, hn⟩ := R
  have hkey : (mixKind P w).is k v = true := hv
  have hsc := is_scan hv
  have hel : ElemsOf (mixKind P w) es.toList := T.elems
  have gw : ∀ (b : Bool) {s1 : Shared} {Q' : Unit → Shared → Prop}, Q' () s1 → wpAny (model P w) A (match b with | true => rule "set.scan.the-table-gave-way" | false => pure ()) Q' E s1 :=
    fun b s1 Q' q => by cases b <;> first | exact wpAny_pure q | exact wpAny_rule q
  show wpAny _ A (setAddHashed a v ((mixKind P w).hash k)) Q E s
  unfold setAddHashed setAddHashedIn
  refine wpAny_holding (wpAny_bind (wpAny_setState_of ho hd T.fit ?_))
  dsimp only
  rw [byScan_of hsc T.lt hel]
  simp only [↓reduceIte]
  unfold setAddByScan
  refine wpAny_bind (wpAny_bind (wpAny_rule (wpAny_bind (wpAny_setScan_of hkey ho hd T.fit hel ?_))))
  cases hfi : List.findIdx? (fun e => (mixKind P w).is k e.2) es.toList with
  | some j =>
    dsimp only
    obtain ⟨hj, pj, _⟩ := List.findIdx?_eq_some_iff_getElem.mp hfi
    have hk : S k = true := (T.mem k).2 ((T.is (P := P) k).2 ⟨es.toList[j], List.getElem_mem hj, pj⟩)
    have q := hQ s.heap (Heap.SameBut.refl a s.heap) ⟨o, es, ep, t, ho, hx, hd, ⟨T.gd, T.nd, fun i => by
      rw [Bool.or_eq_true, decide_eq_true_eq, ← T.mem i]
      exact ⟨fun z => z.elim id (fun e => e ▸ hk), .inl⟩, T.lt, T.fit, T.ris, T.led⟩, by rw [if_pos hk]; exact hn⟩
    rw [hk] at q
    exact wpAny_pure (wpAny_pure q)
  | none =>
    dsimp only
    have nk : k ∉ es.toList.map ek := fun z => by
      obtain ⟨e, he, q⟩ := (T.is (P := P) k).1 z
      rw [List.findIdx?_eq_none_iff.mp hfi e he] at q
      cases q
    have hk : S k = false := by
      cases q : S k with
      | false => rfl
      | true => exact absurd ((T.mem k).1 q) nk
    have p1 := layNew_perm t es ((mixKind P w).hash k) v
    have p2 := layNew_fits t es ((mixKind P w).hash k) v
    have p3 := layNew_ris t es ((mixKind P w).hash k) v T.ris
    have p4 := layNew_led t es ((mixKind P w).hash k) v
    generalize layNew t es ((mixKind P w).hash k) v = Z at p1 p2 p3 p4 ⊢
    obtain ⟨es1, t1, wd, gave⟩ := Z
    dsimp only at p1 p2 p3 p4 ⊢
    rw [Array.toList_push] at p1
    have pc : es1.toList.Perm (((mixKind P w).hash k, v) :: es.toList) := p1.trans (List.perm_append_singleton _ _)
    have ke : ek ((mixKind P w).hash k, v) = k := vk_is hv
    have pk : (es1.toList.map ek).Perm (k :: es.toList.map ek) := by
      have q := pc.map ek
      rw [List.map_cons, ke] at q
      exact q
    have z1 : es1.size = n + 1 := by rw [← Array.length_toList, pc.length_eq, List.length_cons, Array.length_toList, hn]
    have mk : ∀ t' : SetTable, t'.fits es1.size = true → Ris t'.place.toList → t'.led = t1.led → Tab w es1 t' fun j => S j || decide (j = k) := fun t' f1 f2 f3 => by
      refine ⟨fun e he => ?_, pk.nodup_iff.mpr (List.nodup_cons.mpr ⟨nk, T.nd⟩), fun i => ?_, by rw [z1]; exact room, f1, f2, T.led.imp id fun z => by rw [f3, p4]; exact z⟩
      · rcases List.mem_cons.mp (pc.mem_iff.mp he) with z | z
        · subst z
          unfold Gd
          rw [ke]
          exact ⟨hv, rfl⟩
        · exact T.gd e z
      · show (S i || decide (i = k)) = true ↔ _
        rw [Bool.or_eq_true, decide_eq_true_eq, T.mem i, pk.mem_iff, List.mem_cons]
        exact Or.comm
    have fin : ∀ h', Heap.SameBut a s.heap h' → SetQ w h' a (fun j => S j || decide (j = k)) es1.size → Q true { s with heap := h' } := fun h' sb r => by
      have q := hQ h' sb
      rw [hk] at q
      rw [z1] at r
      exact q r
    refine wpAny_bind (gw _ ?_)
    by_cases hpl : t1.plain = true
    · rw [if_pos hpl]
      refine wpAny_bind ?_
      rw [hashByValue_scannable 8 hsc]
      refine wpAny_pure ?_
      refine tail ?_ ho hx hd (mk _ (by first | (split <;> first | exact p2 | exact SetTable.fits_plain_off p2) | exact p2) (by first | (split <;> exact p3) | exact p3) (by first | (split <;> rfl) | rfl)) ?_
      · intro b s1 Q' q; cases b <;> first | exact wpAny_pure q | exact wpAny_rule q
      · intro h' sb r; dsimp only; exact wpAny_pure (fin h' sb r)
    · rw [if_neg hpl]
      refine wpAny_bind (wpAny_pure ?_)
      simp only [↓reduceIte]
      refine tail ?_ ho hx hd (mk _ p2 p3 rfl) ?_
      · intro b s1 Q' q; cases b <;> first | exact wpAny_pure q | exact wpAny_rule q
      · intro h' sb r; dsimp only; exact wpAny_pure (fin h' sb r)
/-- the loop of set(xs) -/
theorem update_loop {I : Addr} {fp wr : List Addr} {G : Array GenState → Array GenState → Prop} {m : Nat} {Pv : Nat → Value → Prop} {St : Nat → Shared → Prop} {R : Result → Shared → Prop}
    (W : WalksS P w A.in1 I fp wr G m Pv St) (c : Addr) (hf : c ∉ fp) (ks : List Key) (hm : m = ks.length) (hb : ks.length + 1 < scanBound) (hval : ∀ i v, Pv i v → ∃ k, ks[i]? = some k ∧ keyIs k v = true) :
    ∀ (d i : Nat) (s : Shared), m - i = d → i ≤ m → St i s → (∃ n, n ≤ i ∧ SetQ w s.heap c (memK (ks.take i)) n) →
      (∀ s' n, Moved (c :: wr) G s s' → n ≤ m → SetQ w s'.heap c (memK ks) n → R (.ok (.ret .none)) s') → codeAny (model P w) A (.builtin "set.update.loop" ⟨[.ref c, .ref I], []⟩) R s := by
  have cw : c ∉ wr := fun h => hf (W.sub _ h)
  have sub : ∀ b ∈ wr, b ∈ c :: wr := fun b hb => List.mem_cons_of_mem _ hb
  intro d
  induction d with
  | zero =>
    intro i s e1 e2 st ⟨n, hn, Z⟩ hR
    obtain rfl : i = m := by omega
    refine codeAny_builtin F.entry_set_update_loop ?_
    rw [Around.under_plainId F.plain_set_update_loop _]
    show wpAny _ A.in1 (pyNext (.ref I) >>= _) _ _ s
    refine wpAny_bind (W.done s _ _ st fun s' mv => ?_)
    rw [List.take_of_length_le (by omega)] at Z
    exact wpAny_pure (hR s' n (mv.mono sub) hn (Z.at fun o e => mv.heap c o cw e))
  | succ d ih =>
    intro i s e1 e2 st ⟨n, hn, Z⟩ hR
    have lt : i < m := by omega
    refine codeAny_builtin F.entry_set_update_loop ?_
    rw [Around.under_plainId F.plain_set_update_loop _]
    show wpAny _ A.in1 (pyNext (.ref I) >>= _) _ _ s
    refine wpAny_bind (W.item i s _ _ lt st fun v s' hP st' mv => ?_)
    obtain ⟨k, hk, hv⟩ := hval i v hP
    have Z' : SetQ w s'.heap c (memK (ks.take i)) n := Z.at fun o e => mv.heap c o cw e
    show wpAny _ A.in1 (holding [v] (setAdd c v) >>= _) _ _ s'
    refine wpAny_bind (wpAny_holding ?_)
    unfold setAdd
    refine wpAny_holding (wpAny_bind ((mixKind P w).pyHash (k := k) hv ?_))
    refine add_hashed (s := { s' with toks := s'.toks + 1 }) hv Z' (by omega) fun h' sb Z2 => ?_
    have Z3 : SetQ w h' c (memK (ks.take (i + 1))) (if memK (ks.take i) k = true then n else n + 1) := Z2.congr fun j => by
      rw [List.take_add_one, hk]
      exact memK_snoc
    have n3 : (if memK (ks.take i) k = true then n else n + 1) ≤ i + 1 := by split <;> omega
    refine wpAny_pure ⟨plainId_quiet F.plain_set_update_loop _, ih (i + 1) _ (by omega) lt (W.frame _ s' _ _ st' (Nat.le_succ _) fun b hb o e => ?_) ⟨_, n3, Z3⟩ fun s2 n2 mv2 hn2 Z4 => ?_⟩
    · rw [sb.2 b (fun h : b = c => hf (by rw [← h]; exact hb))]; exact e
    · refine hR s2 n2 (Moved.trans W.gtrans ((mv.mono sub).then_heap (Nat.le_succ _) fun b o hb e => ?_) mv2) hn2 Z4
      rw [sb.2 b (fun h : b = c => hb (by rw [h]; exact List.mem_cons_self))]; exact e
end
end DK

set_option Elab.async false
set_option linter.all false
set_option maxRecDepth 100000
set_option maxHeartbeats 4000000
/-! set(xs) of a list or a tuple of keys; sorted(set) -/
namespace DK
open PySem PySem.Spec PyProof.Rows L2
/-- the object of an empty set -/
abbrev o0 (w : World) : Obj := { cls := .type "set", dict := none, data := .set #[] 0 (.fresh 0 0 (!w.params.followText "set-order")) }
/-- values that are these keys -/
def Ks (vs : List Value) (ks : List Key) : Prop := vs.length = ks.length ∧ ∀ (i : Nat) (v : Value), vs[i]? = some v → ∃ k, ks[i]? = some k ∧ keyIs k v = true
section
variable {P : Program} {w : World} {A : Around} {E : Value → Shared → Prop} {s : Shared}
theorem set_tuple {l : Addr} {its : Array Value} (ks : List Key) {Q : Value → Shared → Prop} (hh : A.handled = none) (hl : s.heap.IsTuple l its) (hk : Ks its.toList ks) (hb : ks.length + 1 < scanBound)
    (h : ∀ (h' : Heap) (tk c : Nat), SetQ w h' s.heap.objs.size (memK ks) c → c ≤ ks.length → (∀ b o, s.heap.get? b = some o → h'.get? b = some o) → Q (.ref s.heap.objs.size) { s with heap := h', toks := tk }) :
    wpAny (model P w) A (call (.type "set") [.ref l]) Q E s := by
  have hz : its.size = ks.length := by rw [← hk.1, Array.length_toList]
  obtain ⟨c, tl, hmro⟩ := F.called_set.mro
  have x1 := F.called_set.made
  have x2 := F.called_set.sub
  have x3 := F.called_set.notType
  have x4 := F.called_set.canCreate
  have x5 := F.typeCall_set_1 (.ref l)
  refine wpAny_call (codeAny_of_tree ?_)
  show wpAny _ _ (callAny (.type "set") _) _ _ _
  refine wpAny_pure ⟨Code.quiet_builtin _ (by decide +kernel), codeAny_builtin F.entry_type_call ?_⟩
  rw [Around.under_plain (weight_type_call_type "set" [.ref l] []) rfl]
  repeat (any_goals (first | assumption | wp_step))
  refine codeAny_mono (code_set_led1 (.ref l) (E := E) (Q₁ := fun obj s1 => obj = .ref s.heap.objs.size ∧ s1 = { s with heap := s.heap.push (o0 w) }) ⟨rfl, rfl⟩) fun r s1 hr => ?_
  cases r with
  | error e => exact hr
  | ok fl =>
    cases fl with
    | ret obj =>
      obtain ⟨rfl, rfl⟩ := hr
      have hS : (s.heap.push (o0 w)).get? s.heap.objs.size = some (o0 w) := Heap.get?_push_size _ rfl
      have hT : Shared.TypeIs { s with heap := s.heap.push (o0 w) } (.ref s.heap.objs.size) "set" := ⟨_, hS, rfl⟩
      have y1 := F.called_set.init.lookup
      have y2 := F.called_set.init.bind (.ref s.heap.objs.size)
      repeat (any_goals (first | assumption | wp_step))
      refine codeAny_mono (codeAny_call_builtin (R := wants (fun r s2 => r = .none ∧ ∃ h' tk n, s2 = { s with heap := h', toks := tk } ∧ SetQ w h' s.heap.objs.size (memK ks) n ∧ n ≤ ks.length ∧
          (∀ b o, s.heap.get? b = some o → h'.get? b = some o)) E) F.called_set.init.plain F.entry_set_init (check_set_init_1 hT ?_)) fun r2 s2 hr2 => ?_
      · obtain ⟨ol, hol, hcl, nl, hdl⟩ := hl
        obtain ⟨ocls, odict, odata, oslots⟩ := ol
        simp only at hcl hdl
        subst hcl; subst hdl
        have hol' : (s.heap.push (o0 w)).get? l = some { cls := .type "tuple", dict := odict, data := .seq its nl, slots := oslots } := Heap.get?_push_of_some _ hol
        have z1 := F.sub_tuple_set
        have z2 := F.sub_tuple_frozenset
        have z3 : (Value.type "tuple" == Value.type "dict") = false := by decide
        have hl1 : (s.heap.push (o0 w)).IsTuple l its := ⟨_, hol', rfl, nl, rfl⟩
        unfold Builtin.«set.__init__» noKeywords Builtin.Frozenset.updateFrom
        generalize hPI : pyIter = PI
        wp_walk
        subst hPI
        refine wpAny_pyIter_tuple hl1 ?_
        refine wpAny_bind (wpAny_runValue ?_)
        have lts : l < s.heap.objs.size := Heap.lt_size hol
        have h3 : A.in1.in1.in1.handled = none := by simp [hh]
        have sz1 : (s.heap.push (o0 w)).objs.size = s.heap.objs.size + 1 := Heap.size_push ..
        have ne1 : l ≠ (s.heap.push (o0 w)).objs.size := by rw [sz1]; exact Nat.ne_of_lt (Nat.lt_succ_of_lt lts)
        have nf : s.heap.objs.size ∉ [(s.heap.push (o0 w)).objs.size, l] := by
          rw [sz1]; simp only [List.mem_cons, List.mem_singleton, List.not_mem_nil, or_false, not_or]
          exact ⟨Nat.ne_of_lt (Nat.lt_succ_self _), Nat.ne_of_gt lts⟩
        refine update_loop ((Walks.tuple h3 _ l ne1 its).toS) s.heap.objs.size nf ks hz hb (fun i v hv => hk.2 i v (by rw [Array.getElem?_toList]; exact hv)) (its.size - 0) 0 _ (by omega) (Nat.zero_le _)
          ⟨⟨_, Heap.get?_push_size _ rfl, rfl, rfl⟩, (hl1.push _)⟩ ?s0 ?hR
        case s0 =>
          have hg : ((s.heap.push (o0 w)).push { cls := .type "tuple_iterator", data := .fields #[.ref l, .int 0 0] }).get? s.heap.objs.size = some (o0 w) := Heap.get?_push_of_some _ hS
          exact ⟨0, Nat.le_refl 0, (SetQ.empty (b := true) hg rfl).congr fun k => rfl⟩
        case hR =>
          intro s' n mv hn Z
          obtain ⟨h', g2, d', tk', os'⟩ := s'
          obtain rfl : g2 = s.gens := mv.gens
          obtain rfl : d' = s.drawn := mv.drawn
          obtain rfl : os' = s.os := mv.os
          show wpAny _ _ _ _ _ _
          refine wpAny_pure ?_
          show wpAny _ _ (ret Value.none) _ _ _
          rw [hz] at hn
          refine wpAny_pure ⟨rfl, h', tk', n, rfl, Z, hn, fun b o e => ?_⟩
          have b0 : b < s.heap.objs.size := Heap.lt_size e
          have b2 : b ≠ (s.heap.push (o0 w)).objs.size := by rw [sz1]; exact Nat.ne_of_lt (Nat.lt_succ_of_lt b0)
          exact mv.heap b o (by simp only [List.mem_cons, List.mem_singleton, List.not_mem_nil, or_false, not_or]; exact ⟨Nat.ne_of_lt b0, b2⟩) (Heap.get?_push_of_some _ (Heap.get?_push_of_some _ e))
      · cases r2 with
        | error e => exact hr2
        | ok fl2 =>
          cases fl2 with
          | ret r =>
            obtain ⟨rfl, h', tk, n, rfl, Z, hn, kp⟩ := hr2
            repeat (any_goals (first | assumption | wp_step))
            exact h _ _ _ Z hn kp
          | _ => exact hr2.elim
    | _ => exact hr.elim
theorem set_list {l : Addr} {its : Array Value} (ks : List Key) {Q : Value → Shared → Prop} (hh : A.handled = none) (hl : s.heap.IsList l its) (hk : Ks its.toList ks) (hb : ks.length + 1 < scanBound)
    (h : ∀ (h' : Heap) (tk c : Nat), SetQ w h' s.heap.objs.size (memK ks) c → c ≤ ks.length → (∀ b o, s.heap.get? b = some o → h'.get? b = some o) → Q (.ref s.heap.objs.size) { s with heap := h', toks := tk }) :
    wpAny (model P w) A (call (.type "set") [.ref l]) Q E s := by
  have hz : its.size = ks.length := by rw [← hk.1, Array.length_toList]
  obtain ⟨c, tl, hmro⟩ := F.called_set.mro
  have x1 := F.called_set.made
  have x2 := F.called_set.sub
  have x3 := F.called_set.notType
  have x4 := F.called_set.canCreate
  have x5 := F.typeCall_set_1 (.ref l)
  refine wpAny_call (codeAny_of_tree ?_)
  show wpAny _ _ (callAny (.type "set") _) _ _ _
  refine wpAny_pure ⟨Code.quiet_builtin _ (by decide +kernel), codeAny_builtin F.entry_type_call ?_⟩
  rw [Around.under_plain (weight_type_call_type "set" [.ref l] []) rfl]
  repeat (any_goals (first | assumption | wp_step))
  refine codeAny_mono (code_set_led1 (.ref l) (E := E) (Q₁ := fun obj s1 => obj = .ref s.heap.objs.size ∧ s1 = { s with heap := s.heap.push (o0 w) }) ⟨rfl, rfl⟩) fun r s1 hr => ?_
  cases r with
  | error e => exact hr
  | ok fl =>
    cases fl with
    | ret obj =>
      obtain ⟨rfl, rfl⟩ := hr
      have hS : (s.heap.push (o0 w)).get? s.heap.objs.size = some (o0 w) := Heap.get?_push_size _ rfl
      have hT : Shared.TypeIs { s with heap := s.heap.push (o0 w) } (.ref s.heap.objs.size) "set" := ⟨_, hS, rfl⟩
      have y1 := F.called_set.init.lookup
      have y2 := F.called_set.init.bind (.ref s.heap.objs.size)
      repeat (any_goals (first | assumption | wp_step))
      refine codeAny_mono (codeAny_call_builtin (R := wants (fun r s2 => r = .none ∧ ∃ h' tk n, s2 = { s with heap := h', toks := tk } ∧ SetQ w h' s.heap.objs.size (memK ks) n ∧ n ≤ ks.length ∧
          (∀ b o, s.heap.get? b = some o → h'.get? b = some o)) E) F.called_set.init.plain F.entry_set_init (check_set_init_1 hT ?_)) fun r2 s2 hr2 => ?_
      · obtain ⟨ol, hol, hcl, nl, hdl⟩ := hl
        obtain ⟨ocls, odict, odata, oslots⟩ := ol
        simp only at hcl hdl
        subst hcl; subst hdl
        have hol' : (s.heap.push (o0 w)).get? l = some { cls := .type "list", dict := odict, data := .seq its nl, slots := oslots } := Heap.get?_push_of_some _ hol
        have z1 := F.sub_list_set
        have z2 := F.sub_list_frozenset
        have z3 : (Value.type "list" == Value.type "dict") = false := by decide
        have hl1 : (s.heap.push (o0 w)).IsList l its := ⟨_, hol', rfl, nl, rfl⟩
        unfold Builtin.«set.__init__» noKeywords Builtin.Frozenset.updateFrom
        generalize hPI : pyIter = PI
        wp_walk
        subst hPI
        refine wpAny_pyIter_list hl1 ?_
        refine wpAny_bind (wpAny_runValue ?_)
        have lts : l < s.heap.objs.size := Heap.lt_size hol
        have h3 : A.in1.in1.in1.handled = none := by simp [hh]
        have sz1 : (s.heap.push (o0 w)).objs.size = s.heap.objs.size + 1 := Heap.size_push ..
        have ne1 : l ≠ (s.heap.push (o0 w)).objs.size := by rw [sz1]; exact Nat.ne_of_lt (Nat.lt_succ_of_lt lts)
        have nf : s.heap.objs.size ∉ [(s.heap.push (o0 w)).objs.size, l] := by
          rw [sz1]; simp only [List.mem_cons, List.mem_singleton, List.not_mem_nil, or_false, not_or]
          exact ⟨Nat.ne_of_lt (Nat.lt_succ_self _), Nat.ne_of_gt lts⟩
        refine update_loop ((Walks.list h3 _ l ne1 its).toS) s.heap.objs.size nf ks hz hb (fun i v hv => hk.2 i v (by rw [Array.getElem?_toList]; exact hv)) (its.size - 0) 0 _ (by omega) (Nat.zero_le _)
          ⟨⟨_, Heap.get?_push_size _ rfl, rfl, rfl⟩, (hl1.push _)⟩ ?s0 ?hR
        case s0 =>
          have hg : ((s.heap.push (o0 w)).push { cls := .type "list_iterator", data := .fields #[.ref l, .int 0 0] }).get? s.heap.objs.size = some (o0 w) := Heap.get?_push_of_some _ hS
          exact ⟨0, Nat.le_refl 0, (SetQ.empty (b := true) hg rfl).congr fun k => rfl⟩
        case hR =>
          intro s' n mv hn Z
          obtain ⟨h', g2, d', tk', os'⟩ := s'
          obtain rfl : g2 = s.gens := mv.gens
          obtain rfl : d' = s.drawn := mv.drawn
          obtain rfl : os' = s.os := mv.os
          show wpAny _ _ _ _ _ _
          refine wpAny_pure ?_
          show wpAny _ _ (ret Value.none) _ _ _
          rw [hz] at hn
          refine wpAny_pure ⟨rfl, h', tk', n, rfl, Z, hn, fun b o e => ?_⟩
          have b0 : b < s.heap.objs.size := Heap.lt_size e
          have b2 : b ≠ (s.heap.push (o0 w)).objs.size := by rw [sz1]; exact Nat.ne_of_lt (Nat.lt_succ_of_lt b0)
          exact mv.heap b o (by simp only [List.mem_cons, List.mem_singleton, List.not_mem_nil, or_false, not_or]; exact ⟨Nat.ne_of_lt b0, b2⟩) (Heap.get?_push_of_some _ (Heap.get?_push_of_some _ e))
      · cases r2 with
        | error e => exact hr2
        | ok fl2 =>
          cases fl2 with
          | ret r =>
            obtain ⟨rfl, h', tk, n, rfl, Z, hn, kp⟩ := hr2
            repeat (any_goals (first | assumption | wp_step))
            exact h _ _ _ Z hn kp
          | _ => exact hr2.elim
    | _ => exact hr.elim
/-- the members, sorted: κ is the kind of all of them -/
theorem sorted_q {κ : PyProof.Rows.KeyKind} (hO : κ.OneLt) {a : Addr} {S : Key → Bool} {n : Nat} {Q : Value → Shared → Prop} (R : SetQ w s.heap a S n) (hh : A.handled = none)
    (hK : ∀ vs : List Value, vs.length = n → (vs.map vk).Nodup → (∀ v ∈ vs, keyIs (vk v) v = true ∧ S (vk v) = true) → (∀ k, S k = true → k ∈ vs.map vk) → KeysOf κ (pairsOf vs) ∧ ∀ v1 v2 rest, vs = v1 :: v2 :: rest → keyKind' (v1 :: v2 :: rest).toArray = pure oneType')
    (hQ : ∀ s' p (vs : List Value) (st : SortSt) (c : Nat), (∀ b o, s.heap.get? b = some o → s'.heap.get? b = some o) → s'.gens = s.gens → s'.os = s.os → s.heap.objs.size ≤ p → n ≤ sizeLine →
      s'.heap.get? p = some (seqObj "list" ((arrOf st).map (·.2)) c) → (arrOf st).Perm (pairsOf vs) → SortedToK κ (arrOf st) (pairsOf vs).size →
      vs.length = n → (vs.map vk).Nodup → (∀ v ∈ vs, keyIs (vk v) v = true ∧ S (vk v) = true) → (∀ k, S k = true → k ∈ vs.map vk) → Q (.ref p) s') :
    wpAny (model P w) A (call (.builtin "sorted") [.ref a]) Q E s := by
  obtain ⟨o, es, ep, t, ho, hx, hd, T, hn⟩ := R
  refine Calls.call_function_entry kind_sorted plain_sorted entry_sorted (args_sorted1 _) ?_
  unfold Builtin.«sorted»
  refine wpAny_bind (m := checkCount "sorted" 1 1 _) (wpAny_pure ?_)
  refine wpAny_bind (collect_set (A := A.in1) hh ⟨o, ho, hx.1, hd⟩ T.fit T.lt T.ris T.led fun s1 vs k1 hz g1 o1 pm => ?_)
  have vl : vs.length = n := by rw [pm.length_eq, List.length_map, Array.length_toList]; exact hn
  have pk : (vs.map vk).Perm (es.toList.map ek) := by
    have q := pm.map vk
    rw [List.map_map] at q
    exact q
  have c1 : (vs.map vk).Nodup := pk.nodup_iff.mpr T.nd
  have c2 : ∀ v ∈ vs, keyIs (vk v) v = true ∧ S (vk v) = true := fun v hv => by
    refine ⟨?_, (T.mem _).2 (pk.mem_iff.mp (List.mem_map.mpr ⟨v, hv, rfl⟩))⟩
    obtain ⟨e, he, q⟩ := List.mem_map.mp (pm.mem_iff.mp hv)
    rw [← q]
    exact (T.gd e he).1
  have c3 : ∀ k, S k = true → k ∈ vs.map vk := fun k hk => pk.mem_iff.mpr ((T.mem k).1 hk)
  have lz : vs.length ≤ sizeLine := by rw [vl, ← hn]; exact fits_of_scanBound T.lt
  obtain ⟨q1, q2⟩ := hK vs vl c1 c2 c3
  refine wpAny_bind (wpAny_newList ?_ lz)
  have hoL : (s1.heap.push (seqObj "list" vs.toArray 0)).get? s1.heap.objs.size = some (seqObj "list" vs.toArray 0) := Heap.get?_push_size _ rfl
  refine wpAny_bind (wpAny_holding (wpAny_call_entry slot_list_sort ⟨_, hoL, rfl⟩ entry_list_sort (list_sort_treeKAny hO hoL q1 q2 lz fun st a1 a2 => ⟨_, rfl, ?_⟩) (args_list_sort _)))
  obtain ⟨c, hc⟩ := sortedHeap_at (vs := vs) (out := (arrOf st).map (·.2)) hoL
  refine wpAny_pure ⟨_, rfl, hQ _ s1.heap.objs.size vs st c (fun b u e => ?_) g1 o1 hz (by rw [← vl]; exact lz) hc a1 a2 vl c1 c2 c3⟩
  have q := k1 b u e
  have lt := Heap.lt_size q
  show (sortedHeap (s1.heap.push (seqObj "list" vs.toArray 0)) s1.heap.objs.size vs ((arrOf st).map (·.2))).get? b = some u
  rw [sortedHeap_old (Nat.ne_of_lt lt) (by rw [size_push']; exact Nat.lt_succ_of_lt lt)]
  exact Heap.get?_push_of_some _ q
theorem ints_k : ∀ {vs : List Value}, (∀ v ∈ vs, ∃ i t, v = Value.int i t) → ∃ ns, IntsAre vs ns ∧ vs.map vk = ns.map Sum.inl
  | [], _ => ⟨[], .nil, rfl⟩
  | v :: vs, h => by
    obtain ⟨i, t, rfl⟩ := h v List.mem_cons_self
    obtain ⟨ns, a, b⟩ := ints_k fun u hu => h u (List.mem_cons_of_mem _ hu)
    exact ⟨i :: ns, .cons i t a, by rw [List.map_cons, b]; rfl⟩
theorem strs_k : ∀ {vs : List Value}, (∀ v ∈ vs, ∃ x t, v = Value.str x t) → ∃ ns, StrsAre vs ns ∧ vs.map vk = ns.map Sum.inr
  | [], _ => ⟨[], .nil, rfl⟩
  | v :: vs, h => by
    obtain ⟨i, t, rfl⟩ := h v List.mem_cons_self
    obtain ⟨ns, a, b⟩ := strs_k fun u hu => h u (List.mem_cons_of_mem _ hu)
    exact ⟨i :: ns, .cons i t a, by rw [List.map_cons, b]; rfl⟩
theorem sorted_int {a : Addr} {S : Key → Bool} {n : Nat} {Q : Value → Shared → Prop} (R : SetQ w s.heap a S n) (hh : A.handled = none) (hI : ∀ k, S k = true → ∃ i, k = .inl i)
    (hQ : ∀ s' p (out : Array Value) (c : Nat) (ns : List Int), (∀ b o, s.heap.get? b = some o → s'.heap.get? b = some o) → s'.gens = s.gens → s'.os = s.os → s.heap.objs.size ≤ p → n ≤ sizeLine →
      s'.heap.get? p = some (seqObj "list" out c) → IntsAre out.toList ns → ns.Pairwise (· ≤ ·) → ns.Nodup → (∀ i, i ∈ ns ↔ S (.inl i) = true) → ns.length = n → Q (.ref p) s') :
    wpAny (model P w) A (call (.builtin "sorted") [.ref a]) Q E s := by
  have key : ∀ vs : List Value, (∀ v ∈ vs, keyIs (vk v) v = true ∧ S (vk v) = true) → ∃ ns, IntsAre vs ns ∧ vs.map vk = ns.map Sum.inl := fun vs hv => ints_k fun v hm => by
    obtain ⟨h1, h2⟩ := hv v hm
    obtain ⟨i, e⟩ := hI _ h2
    rw [e] at h1
    rcases keyIs_shape h1 with ⟨i, t, _, rfl⟩ | ⟨x, t, e, _⟩
    · exact ⟨i, t, rfl⟩
    · cases e
  refine sorted_q intKind_oneLt R hh (fun vs vl _ hv _ => ?_) fun s' p vs st c k g o hp hz hc a1 a2 vl nd hv hm => ?_
  · obtain ⟨ns, hN, _⟩ := key vs hv
    exact ⟨hN.keysOfInt, fun v1 v2 rest e => keyKind_ints (by rw [← e]; exact hN)⟩
  · obtain ⟨ns, hN, ek⟩ := key vs hv
    obtain ⟨ms, b1, b2, b3⟩ := sorted_out hN a1 (sortedTo_of_int a2)
    have inj : Function.Injective (Sum.inl : Int → Key) := fun x y e => Sum.inl.inj e
    have nd2 : ns.Nodup := by
      rw [ek] at nd
      exact List.Pairwise.of_map Sum.inl (fun x y h e => h (by rw [e])) nd
    refine hQ s' p _ c ms k g o hp hz hc b1 b3 (b2.nodup_iff.mpr nd2) (fun i => ?_) (by rw [b2.length_eq, ← vl, ← List.length_map (f := vk), ek, List.length_map])
    rw [b2.mem_iff]
    constructor
    · intro hi
      have : Sum.inl i ∈ vs.map vk := by rw [ek]; exact List.mem_map.mpr ⟨i, hi, rfl⟩
      obtain ⟨v, hv1, e⟩ := List.mem_map.mp this
      rw [← e]; exact (hv v hv1).2
    · intro hi
      have := hm _ hi
      rw [ek] at this
      obtain ⟨j, hj, e⟩ := List.mem_map.mp this
      cases e; exact hj
theorem sorted_str {a : Addr} {S : Key → Bool} {n : Nat} {Q : Value → Shared → Prop} (R : SetQ w s.heap a S n) (hh : A.handled = none) (hI : ∀ k, S k = true → ∃ i, k = .inr i)
    (hQ : ∀ s' p (out : Array Value) (c : Nat) (ns : List Str), (∀ b o, s.heap.get? b = some o → s'.heap.get? b = some o) → s'.gens = s.gens → s'.os = s.os → s.heap.objs.size ≤ p → n ≤ sizeLine →
      s'.heap.get? p = some (seqObj "list" out c) → StrsAre out.toList ns → sortedS ns = true → ns.Nodup → (∀ i, i ∈ ns ↔ S (.inr i) = true) → ns.length = n → Q (.ref p) s') :
    wpAny (model P w) A (call (.builtin "sorted") [.ref a]) Q E s := by
  have key : ∀ vs : List Value, (∀ v ∈ vs, keyIs (vk v) v = true ∧ S (vk v) = true) → ∃ ns, StrsAre vs ns ∧ vs.map vk = ns.map Sum.inr := fun vs hv => strs_k fun v hm => by
    obtain ⟨h1, h2⟩ := hv v hm
    obtain ⟨i, e⟩ := hI _ h2
    rw [e] at h1
    rcases keyIs_shape h1 with ⟨i, t, e, _⟩ | ⟨x, t, _, rfl⟩
    · cases e
    · exact ⟨x, t, rfl⟩
  refine sorted_q strKind_oneLt R hh (fun vs vl _ hv _ => ?_) fun s' p vs st c k g o hp hz hc a1 a2 vl nd hv hm => ?_
  · obtain ⟨ns, hN, _⟩ := key vs hv
    exact ⟨hN.keysOf, fun v1 v2 rest e => keyKind_strs (by rw [← e]; exact hN)⟩
  · obtain ⟨ns, hN, ek⟩ := key vs hv
    obtain ⟨ms, b1, b2, b3⟩ := sorted_out_str hN a1 a2
    have nd2 : ns.Nodup := by
      rw [ek] at nd
      exact List.Pairwise.of_map Sum.inr (fun x y h e => h (by rw [e])) nd
    refine hQ s' p _ c ms k g o hp hz hc b1 b3 (b2.nodup_iff.mpr nd2) (fun i => ?_) (by rw [b2.length_eq, ← vl, ← List.length_map (f := vk), ek, List.length_map])
    rw [b2.mem_iff]
    constructor
    · intro hi
      have : Sum.inr i ∈ vs.map vk := by rw [ek]; exact List.mem_map.mpr ⟨i, hi, rfl⟩
      obtain ⟨v, hv1, e⟩ := List.mem_map.mp this
      rw [← e]; exact (hv v hv1).2
    · intro hi
      have := hm _ hi
      rw [ek] at this
      obtain ⟨j, hj, e⟩ := List.mem_map.mp this
      cases e; exact hj
end
/-! ### over the layer -/
def SetM (w : World) (a : Addr) (S : Key → Bool) (n : Nat) : HO := .ext fun h => SetQ w h a S n
section
variable {X : Cx}
theorem setM_ok {w : World} {P : Program} {H : Hp} {h : Heap} {a : Addr} {S : Key → Bool} {n : Nat} (R : SetQ w h a S n) : ObjOk P w H h a (SetM w a S n) := by
  have ⟨o, _, _, _, ho, _⟩ := R
  exact ⟨R, ⟨o, ho⟩, fun h1 h2 p k => SetQ.at p k⟩
theorem setM_get {pins : List (Addr × Obj)} {σ : L2.St} {H : Hp} {s : Shared} {a : Addr} {S : Key → Bool} {n : Nat} (I : Inv X pins σ H s) (ha : H a = some (SetM X.w a S n)) : SetQ X.w s.heap a S n := (I.hok a _ ha).1
theorem kVis : ∀ {k : Key} {v : Value}, L2.RelV (kV k) v → keyIs k v = true
  | .inl i, v, ⟨t, e⟩ => by rw [e]; exact keyIs_int i t
  | .inr x, v, ⟨t, e⟩ => by rw [e]; exact keyIs_str x t
theorem ks_of : ∀ {ks : List Key} {us : List Value}, Vals (ks.map kV) us → Ks us ks
  | [], _, .nil => ⟨rfl, fun i v h => by simp at h⟩
  | k :: ks, _, .cons r t => by
    obtain ⟨h1, h2⟩ := ks_of t
    refine ⟨by rw [List.length_cons, List.length_cons, h1], fun i v h => ?_⟩
    cases i with
    | zero => simp at h; subst h; exact ⟨k, rfl, kVis r⟩
    | succ i => simpa using h2 i v (by simpa using h)
/-- set(xs), a list or a tuple of keys -/
def rSetK (K : PySem.W.Frag) (w : World) : List V → Hp → VK → Prop := fun xs H Q => ∃ (p : Addr) (ks : List Key), xs = [.ref p] ∧ (SqL K H p (ks.map kV) ∨ SqT K H p (ks.map kV)) ∧ ks.length + 1 < scanBound ∧
  ∀ (q : Addr) (c : Nat), H q = none → Q (.ref q) (upd H q (SetM w q (memK ks) c))
theorem cr_setK (hc : X.calm = true) : CallR X (.type "set") (rSetK X.K X.w) := by
  intro pins s σ H xs us Q I r h
  obtain ⟨p, ks, rfl, hq, hb, q⟩ := h
  rw [Vals.ref1 r]
  rcases hq with hq | hq
  · obtain ⟨its, rv, pt, hz⟩ := I.list hq
    refine set_list ks (I.ok.hd hc) pt.isList (by rw [List.toList_toArray]; exact ks_of rv) hb fun h' tk c R1 hcn k => ?_
    exact ⟨.ref _, _, I.laid (t' := tk) (fun b u e => k b u e) (Nat.le_refl _) (setM_ok R1), rfl, q _ _ (I.hok.fresh (Nat.le_refl _))⟩
  · obtain ⟨its, rv, pt, hz⟩ := I.tuple hq
    refine set_tuple ks (I.ok.hd hc) (show s.heap.IsTuple p its.toArray from pt) (by rw [List.toList_toArray]; exact ks_of rv) hb fun h' tk c R1 hcn k => ?_
    exact ⟨.ref _, _, I.laid (t' := tk) (fun b u e => k b u e) (Nat.le_refl _) (setM_ok R1), rfl, q _ _ (I.hok.fresh (Nat.le_refl _))⟩
def rSet0M (w : World) : List V → Hp → VK → Prop := fun xs H Q => xs = [] ∧ ∀ p, H p = none → Q (.ref p) (upd H p (SetM w p (fun _ => false) 0))
theorem cr_set0M : CallR X (.type "set") (rSet0M X.w) := by
  intro pins s σ H xs us Q I r h
  obtain ⟨rfl, q⟩ := h
  cases r
  refine setR_new fun _ => ?_
  exact ⟨.ref _, _, I.laid (t' := s.toks) (fun b u e => Heap.get?_push_of_some _ e) (Nat.le_refl _) (setM_ok (SetQ.empty (b := true) (Heap.get?_push_size _ rfl) rfl)), rfl, q _ (I.hok.fresh (Nat.le_refl _))⟩
def rInM (w : World) (neg : Bool) : V → V → Hp → VK → Prop := fun x y H Q => ∃ k a S n, x = kV k ∧ y = V.ref a ∧ H a = some (SetM w a S n) ∧ Q (.bl (if neg then !S k else S k)) H
theorem or_inM : OpR X (compareOp .In) (rInM X.w false) := by
  intro pins s σ H x y v u Q I rx ry h
  obtain ⟨k, a, S, n, rfl, rfl, ha, q⟩ := h
  cases ry
  exact wpAny_inSet_of (knd := mixKind X.prog X.w) (kV_is rx) (key_scan rx) (setM_get I ha).setOf ⟨.bl (S k), H, I.tok _, rfl, q⟩
theorem or_ninM : OpR X (compareOp .NotIn) (rInM X.w true) := by
  intro pins s σ H x y v u Q I rx ry h
  obtain ⟨k, a, S, n, rfl, rfl, ha, q⟩ := h
  cases ry
  exact wpAny_notInSet_of (knd := mixKind X.prog X.w) (kV_is rx) (key_scan rx) (setM_get I ha).setOf ⟨.bl (!S k), H, I.tok _, rfl, q⟩
/-- sorted(set of ints), sorted(set of texts) -/
def rSortMI (w : World) : List V → Hp → VK → Prop := fun vs H Q => ∃ (a : Addr) (S : Key → Bool) (n : Nat), vs = [V.ref a] ∧ H a = some (SetM w a S n) ∧ (∀ k, S k = true → ∃ i, k = .inl i) ∧
  ∀ (ns : List Int) (p : Addr), ns.Pairwise (· ≤ ·) → ns.Nodup → (∀ k : Int, k ∈ ns ↔ S (.inl k) = true) → ns.length = n → H p = none → Q (.ref p) (upd H p (.lst (ns.map V.int)))
def rSortMS (w : World) : List V → Hp → VK → Prop := fun vs H Q => ∃ (a : Addr) (S : Key → Bool) (n : Nat), vs = [V.ref a] ∧ H a = some (SetM w a S n) ∧ (∀ k, S k = true → ∃ i, k = .inr i) ∧
  ∀ (ns : List Str) (p : Addr), sortedS ns = true → ns.Nodup → (∀ k : Str, k ∈ ns ↔ S (.inr k) = true) → ns.length = n → H p = none → Q (.ref p) (upd H p (.lst (ns.map V.str)))
theorem cr_sortMI (hc : X.calm = true) : CallR X (.builtin "sorted") (rSortMI X.w) := by
  intro pins s σ H vs us Q I r h
  obtain ⟨a, S, n, rfl, ha, hi, q⟩ := h
  rw [Vals.ref1 r]
  refine sorted_int (setM_get I ha) (I.ok.hd hc) hi fun s' p out c ns k g o hp hz hg hI hs hd hm hl => ?_
  have hlen : (ns.map V.int).length ≤ sizeLine := by rw [List.length_map, hl]; exact hz
  have hn : H p = none := I.hok.fresh hp
  have J : Inv X pins σ (upd H p (.lst (ns.map V.int))) { s with heap := s'.heap, gens := s'.gens, drawn := s'.drawn, toks := s'.toks } :=
    I.call (ch := []) (Un.laid k hp hn) (I.hok.laid k hp ⟨hlen, out.toList, c, vals_of_ints hI, hg⟩) (by rw [g]; exact I.bare) (fun _ z => nomatch z)
  have e : s' = { s with heap := s'.heap, gens := s'.gens, drawn := s'.drawn, toks := s'.toks } := by cases s'; cases s; cases o; rfl
  rw [e]
  exact ⟨.ref p, _, J, rfl, q ns p hs hd hm hl hn⟩
theorem cr_sortMS (hc : X.calm = true) : CallR X (.builtin "sorted") (rSortMS X.w) := by
  intro pins s σ H vs us Q I r h
  obtain ⟨a, S, n, rfl, ha, hi, q⟩ := h
  rw [Vals.ref1 r]
  refine sorted_str (setM_get I ha) (I.ok.hd hc) hi fun s' p out c ns k g o hp hz hg hI hs hd hm hl => ?_
  have hlen : (ns.map V.str).length ≤ sizeLine := by rw [List.length_map, hl]; exact hz
  have hn : H p = none := I.hok.fresh hp
  have J : Inv X pins σ (upd H p (.lst (ns.map V.str))) { s with heap := s'.heap, gens := s'.gens, drawn := s'.drawn, toks := s'.toks } :=
    I.call (ch := []) (Un.laid k hp hn) (I.hok.laid k hp ⟨hlen, out.toList, c, vals_of_strs hI, hg⟩) (by rw [g]; exact I.bare) (fun _ z => nomatch z)
  have e : s' = { s with heap := s'.heap, gens := s'.gens, drawn := s'.drawn, toks := s'.toks } := by cases s'; cases s; cases o; rfl
  rw [e]
  exact ⟨.ref p, _, J, rfl, q ns p hs hd hm hl hn⟩
/-- found.add(k) -/
def rAddM (w : World) : V → List V → Hp → VK → Prop := fun x xs H Q => ∃ (a : Addr) (k : Key) (S : Key → Bool) (n : Nat), x = V.ref a ∧ xs = [kV k] ∧ H a = some (SetM w a S n) ∧ n + 1 < scanBound ∧
  Q .non (upd H a (SetM w a (fun j => S j || decide (j = k)) (if S k = true then n else n + 1)))
theorem mt_addM : MtR X "set.add" (rAddM X.w) := by
  intro pins s σ H x xs v us Q I rx rxs h
  obtain ⟨a, k, S, n, rfl, rfl, ha, room, q⟩ := h
  cases rx
  cases rxs with
  | cons ry rt =>
    cases rt
    have R := setM_get I ha
    have hS : s.heap.SetOf (mixKind X.prog X.w) a S n := R.setOf
    refine wpAny_call_entry F.slot_set_add hS.typeIs F.entry_set_add ?_ (F.args_set_add_2 _ _)
    unfold Builtin.«set.add» Builtin.Frozenset.oneOther
    simp only [List.isEmpty_nil, bind_assoc]
    unfold Builtin.Frozenset.addrOf setAdd
    refine wpAny_bind (wpAny_pure ?_)
    try dsimp only
    refine wpAny_bind (wpAny_pure ?_)
    try dsimp only
    refine wpAny_bind (wpAny_holding (wpAny_bind ((mixKind X.prog X.w).pyHash (k := k) (kVis ry) ?_)))
    refine add_hashed (s := { s with toks := s.toks + 1 }) (kVis ry) R room fun h' sb new => ?_
    have he : ∃ u, h'.get? a = some u := by
      have ⟨o, _, _, _, ho, _⟩ := new
      exact ⟨o, ho⟩
    show wpAny _ _ (ret Value.none) _ _ _
    exact wpAny_pure ⟨_, rfl, .non, _, I.write (e := a) (t' := s.toks + 1) (by rw [ha]; trivial) (.inl rfl) (fun b u hb hu => (sb.2 b hb).trans hu) he (setM_ok new), rfl, q⟩
end
end DK

set_option Elab.async false
set_option linter.all false
set_option maxRecDepth 100000
/-! The data layer: plain values as data, mutable objects in a small symbolic heap. -/
namespace DL
open PySem PySem.Spec L2 DK

/-- a key: an int or a text -/
inductive Ky where
  | i (n : Int) | s (t : List Nat)
deriving DecidableEq
def Ky.k : Ky → Key
  | .i n => .inl n
  | .s t => .inr ⟨t.toArray⟩
theorem Ky.inj : ∀ {a b : Ky}, a.k = b.k → a = b
  | .i n, .i m, h => by cases h; rfl
  | .i n, .s m, h => by cases h
  | .s n, .i m, h => by cases h
  | .s n, .s m, h => by
    have e := Sum.inr.inj h
    injection e with e
    have q := congrArg Array.toList e
    simp at q
    rw [q]
/-- plain data; .frz: a list that is only read (the script); .rf: an object of the symbolic heap -/
inductive D where
  | non | bl (b : Bool) | int (i : Int) | str (s : List Nat) | ty (n : String) | tup (xs : List D) | frz (xs : List D) | rf (p : Addr) | kst (w : World) (xs : List Ky)
/-- an object of the symbolic heap -/
inductive MO where
  | lst (xs : List D)
  | ins (C : Addr) (fs : List (Str × D))
  | dic (kvs : List (Ky × D))
abbrev Sh := Addr → Option MO
def su (S : Sh) (p : Addr) (o : MO) : Sh := fun q => if q = p then some o else S q
theorem su_same {S : Sh} {p : Addr} {o : MO} : su S p o p = some o := by unfold su; rw [if_pos rfl]
theorem su_ne {S : Sh} {p q : Addr} {o : MO} (h : q ≠ p) : su S p o q = S q := by unfold su; rw [if_neg h]
theorem su_su {S : Sh} {p : Addr} {o u : MO} : su (su S p o) p u = su S p u := by
  funext q; unfold su; split <;> rfl
def Sle (S S' : Sh) : Prop := ∀ p o, S p = some o → S' p = some o
theorem Sle.refl (S : Sh) : Sle S S := fun _ _ h => h
theorem Sle.trans {S S1 S2 : Sh} (a : Sle S S1) (b : Sle S1 S2) : Sle S S2 := fun p o h => b p o (a p o h)
theorem Sle.new {S : Sh} {p : Addr} {o : MO} (h : S p = none) : Sle S (su S p o) := fun q u e => by
  rw [su_ne (fun z => by rw [z, h] at e; cases e)]; exact e

/-- a list that nobody changes: locked, or of the written part -/
def SqF (K : PySem.W.Frag) (H : Hp) (a : Addr) (xs : List V) : Prop :=
  (∃ o, H a = some (.frz o (.lst xs))) ∨
    ∃ (o : Obj) (its : Array Value) (n : Nat), K.lookup a = some o ∧ o.cls = .type "list" ∧ o.dict = none ∧ o.data = .seq its n ∧ its.size ≤ sizeLine ∧ Vals xs its.toList
theorem SqF.l {K : PySem.W.Frag} {H : Hp} {a : Addr} {xs : List V} (h : SqF K H a xs) : SqL K H a xs := by
  rcases h with ⟨o, h⟩ | h
  · exact .inl (.inr ⟨o, h⟩)
  · exact .inr h
section
variable (K : PySem.W.Frag) (H : Hp)
mutual
def Rep : D → V → Prop
  | .non, v => v = .non
  | .bl b, v => v = .bl b
  | .int i, v => v = .int i
  | .str s, v => v = .str ⟨s.toArray⟩
  | .ty n, v => v = .ty n
  | .tup ds, v => ∃ a vs, v = .ref a ∧ SqT K H a vs ∧ Reps ds vs
  | .frz ds, v => ∃ a vs, v = .ref a ∧ SqF K H a vs ∧ Reps ds vs
  | .rf p, v => v = .ref p
  | .kst w xs, v => ∃ a n, v = .ref a ∧ H a = some (SetM w a (memK (xs.map Ky.k)) n)
def Reps : List D → List V → Prop
  | [], vs => vs = []
  | d :: ds, vs => ∃ v r, vs = v :: r ∧ Rep d v ∧ Reps ds r
end
def RepF : List (Str × D) → List (Str × V) → Prop
  | [], fs => fs = []
  | (x, d) :: ds, fs => ∃ v r, fs = (x, v) :: r ∧ Rep K H d v ∧ RepF ds r
def RepK : List (Ky × D) → List (Key × V) → Prop
  | [], fs => fs = []
  | (x, d) :: ds, fs => ∃ v r, fs = (x.k, v) :: r ∧ Rep K H d v ∧ RepK ds r
def RepO : MO → HO → Prop
  | .lst ds, o => ∃ vs, o = .lst vs ∧ Reps K H ds vs
  | .ins C ds, o => ∃ dx fs, o = .ins C dx fs ∧ RepF K H ds fs
  | .dic ds, o => ∃ kvs, o = .dK kvs ∧ RepK K H ds kvs
/-- the symbolic heap is held -/
def Wd (S : Sh) : Prop := ∀ p o, S p = some o → ∃ h, H p = some h ∧ RepO K H o h
end
/-- what is tracked and no object of S stands as it was -/
def Ext (S : Sh) (H H' : Hp) : Prop := ∀ a o, H a = some o → S a = none → H' a = some o

section
variable {K : PySem.W.Frag} {H H' H1 H2 : Hp} {S S1 S2 : Sh}
theorem Wd.notup (w : Wd K H S) {a : Addr} {xs : List V} (h : H a = some (.tup xs)) : S a = none := by
  cases e : S a with
  | none => rfl
  | some o =>
    obtain ⟨ho, e1, r⟩ := w a o e
    rw [h] at e1; cases e1
    cases o with
    | lst ds => obtain ⟨vs, z, _⟩ := r; cases z
    | ins C ds => obtain ⟨_, _, z, _⟩ := r; cases z
    | dic ds => obtain ⟨_, z, _⟩ := r; cases z
theorem Wd.nofrz (w : Wd K H S) {a : Addr} {o : Obj} {u : HO} (h : H a = some (.frz o u)) : S a = none := by
  cases e : S a with
  | none => rfl
  | some o =>
    obtain ⟨ho, e1, r⟩ := w a o e
    rw [h] at e1; cases e1
    cases o with
    | lst ds => obtain ⟨vs, z, _⟩ := r; cases z
    | ins C ds => obtain ⟨_, _, z, _⟩ := r; cases z
    | dic ds => obtain ⟨_, z, _⟩ := r; cases z
theorem Wd.noset (w : Wd K H S) {a : Addr} {f : Heap → Prop} (h : H a = some (.ext f)) : S a = none := by
  cases e : S a with
  | none => rfl
  | some o =>
    obtain ⟨ho, e1, r⟩ := w a o e
    rw [h] at e1; cases e1
    cases o with
    | lst ds => obtain ⟨vs, z, _⟩ := r; cases z
    | ins C ds => obtain ⟨_, _, z, _⟩ := r; cases z
    | dic ds => obtain ⟨_, z, _⟩ := r; cases z
theorem Wd.le (w : Wd K H S) (h : Sle S1 S) : Wd K H S1 := fun p o e => w p o (h p o e)
theorem Ext.refl (S : Sh) (H : Hp) : Ext S H H := fun _ _ h _ => h
/-- an address that is tracked stays outside of S1 -/
def Out (S S1 : Sh) (H : Hp) : Prop := ∀ a o, H a = some o → S a = none → S1 a = none
theorem Out.refl (S : Sh) (H : Hp) : Out S S H := fun _ _ _ h => h
/-- a step of the world: from (S, H) to (S', H') -/
structure Go (K : PySem.W.Frag) (S : Sh) (H : Hp) (S' : Sh) (H' : Hp) : Prop where
  ext : Ext S H H'
  out : Out S S' H
  wd : Wd K H' S'
  th : ∀ a, H' a = none → H a = none
theorem Go.refl (w : Wd K H S) : Go K S H S H := ⟨Ext.refl S H, Out.refl S H, w, fun _ h => h⟩
theorem Go.trans (a : Go K S H S1 H1) (b : Go K S1 H1 S2 H2) : Go K S H S2 H2 :=
  ⟨fun x o h1 h2 => b.ext x o (a.ext x o h1 h2) (a.out x o h1 h2), fun x o h1 h2 => b.out x o (a.ext x o h1 h2) (a.out x o h1 h2), b.wd, fun x h => a.th x (b.th x h)⟩
theorem Go.le (a : Go K S H S1 H1) (h : Sle S2 S1) : Go K S H S2 H1 := by
  refine ⟨a.ext, fun x o h1 h2 => ?_, a.wd.le h, a.th⟩
  cases e : S2 x with
  | none => rfl
  | some u =>
    have z := h x u e
    rw [a.out x o h1 h2] at z
    cases z

/-- the immutables are kept -/
structure Im (K : PySem.W.Frag) (H H' : Hp) : Prop where
  t : ∀ a xs, SqT K H a xs → SqT K H' a xs
  f : ∀ a xs, SqF K H a xs → SqF K H' a xs
  s : ∀ a f, H a = some (.ext f) → H' a = some (.ext f)
theorem Wd.im (w : Wd K H S) (e : Ext S H H') : Im K H H' where
  t := fun a xs r => by
    rcases r with (r | ⟨o, r⟩) | r
    · exact .inl (.inl (e _ _ r (w.notup r)))
    · exact .inl (.inr ⟨o, e _ _ r (w.nofrz r)⟩)
    · exact .inr r
  f := fun a xs r => by
    rcases r with ⟨o, r⟩ | r
    · exact .inl ⟨o, e _ _ r (w.nofrz r)⟩
    · exact .inr r
  s := fun a f r => e _ _ r (w.noset r)
theorem Im.refl (K : PySem.W.Frag) (H : Hp) : Im K H H := ⟨fun _ _ h => h, fun _ _ h => h, fun _ _ h => h⟩
mutual
theorem Rep.im (m : Im K H H') : ∀ {d : D} {v : V}, Rep K H d v → Rep K H' d v
  | .non, _, h => h
  | .bl _, _, h => h
  | .int _, _, h => h
  | .str _, _, h => h
  | .ty _, _, h => h
  | .rf _, _, h => h
  | .tup ds, v, h =>
    let ⟨a, vs, e, q, r⟩ := h
    ⟨a, vs, e, m.t _ _ q, Reps.im m r⟩
  | .frz ds, v, h =>
    let ⟨a, vs, e, q, r⟩ := h
    ⟨a, vs, e, m.f _ _ q, Reps.im m r⟩
  | .kst w xs, v, h =>
    let ⟨a, n, e, q⟩ := h
    ⟨a, n, e, m.s _ _ q⟩
theorem Reps.im (m : Im K H H') : ∀ {ds : List D} {vs : List V}, Reps K H ds vs → Reps K H' ds vs
  | [], _, h => h
  | _ :: _, _, h =>
    let ⟨v, r, e, h1, h2⟩ := h
    ⟨v, r, e, Rep.im m h1, Reps.im m h2⟩
end
theorem RepF.im (m : Im K H H') : ∀ {ds : List (Str × D)} {fs : List (Str × V)}, RepF K H ds fs → RepF K H' ds fs
  | [], _, h => h
  | (_, _) :: _, _, h =>
    let ⟨v, r, e, h1, h2⟩ := h
    ⟨v, r, e, h1.im m, RepF.im m h2⟩
theorem RepK.im (m : Im K H H') : ∀ {ds : List (Ky × D)} {fs : List (Key × V)}, RepK K H ds fs → RepK K H' ds fs
  | [], _, h => h
  | (_, _) :: _, _, h =>
    let ⟨v, r, e, h1, h2⟩ := h
    ⟨v, r, e, h1.im m, RepK.im m h2⟩
theorem RepO.im (m : Im K H H') {o : MO} {h : HO} (r : RepO K H o h) : RepO K H' o h := by
  cases o with
  | lst ds => obtain ⟨vs, e, q⟩ := r; exact ⟨vs, e, Reps.im m q⟩
  | ins C ds => obtain ⟨dx, fs, e, q⟩ := r; exact ⟨dx, fs, e, q.im m⟩
  | dic ds => obtain ⟨fs, e, q⟩ := r; exact ⟨fs, e, q.im m⟩
theorem Go.im (g : Go K S H S1 H1) (w : Wd K H S) : Im K H H1 := w.im g.ext
theorem Reps.length : ∀ {ds : List D} {vs : List V}, Reps K H ds vs → ds.length = vs.length
  | [], _, h => by rw [show _ = ([] : List V) from h]; rfl
  | _ :: _, _, h => by
    obtain ⟨v, r, e, _, h2⟩ := h
    rw [e, List.length_cons, List.length_cons, Reps.length h2]
theorem Reps.get : ∀ {ds : List D} {vs : List V} {i : Nat} {d : D}, Reps K H ds vs → ds[i]? = some d → ∃ v, vs[i]? = some v ∧ Rep K H d v
  | [], _, _, _, _, h => by simp at h
  | d :: ds, vs, 0, _, h, e => by
    obtain ⟨v, r, rfl, h1, h2⟩ := h
    simp at e; subst e
    exact ⟨v, rfl, h1⟩
  | _ :: _, _, i + 1, _, h, e => by
    obtain ⟨v, r, rfl, h1, h2⟩ := h
    obtain ⟨u, a, b⟩ := Reps.get (i := i) h2 (by simpa using e)
    exact ⟨u, by simpa using a, b⟩
theorem Reps.append : ∀ {ds es : List D} {vs us : List V}, Reps K H ds vs → Reps K H es us → Reps K H (ds ++ es) (vs ++ us)
  | [], _, _, _, h, k => by rw [show _ = ([] : List V) from h]; exact k
  | _ :: _, _, _, _, h, k => by
    obtain ⟨v, r, rfl, h1, h2⟩ := h
    exact ⟨v, _, rfl, h1, Reps.append h2 k⟩
theorem Reps.drop : ∀ {ds : List D} {vs : List V} (n : Nat), Reps K H ds vs → Reps K H (ds.drop n) (vs.drop n)
  | _, _, 0, h => h
  | [], _, n + 1, h => by rw [show _ = ([] : List V) from h]; exact rfl
  | _ :: _, _, n + 1, h => by
    obtain ⟨v, r, rfl, h1, h2⟩ := h
    exact Reps.drop n h2
theorem Reps.take : ∀ {ds : List D} {vs : List V} (n : Nat), Reps K H ds vs → Reps K H (ds.take n) (vs.take n)
  | _, _, 0, h => rfl
  | [], _, n + 1, h => by rw [show _ = ([] : List V) from h]; exact rfl
  | _ :: _, _, n + 1, h => by
    obtain ⟨v, r, rfl, h1, h2⟩ := h
    exact ⟨v, _, rfl, h1, Reps.take n h2⟩
theorem Reps.set : ∀ {ds : List D} {vs : List V} (n : Nat) {d : D} {v : V}, Reps K H ds vs → Rep K H d v → Reps K H (ds.set n d) (vs.set n v)
  | [], _, _, _, _, h, _ => by rw [show _ = ([] : List V) from h]; exact rfl
  | _ :: _, _, 0, _, _, h, k => by
    obtain ⟨v, r, rfl, h1, h2⟩ := h
    exact ⟨_, r, rfl, k, h2⟩
  | _ :: _, _, n + 1, _, _, h, k => by
    obtain ⟨v, r, rfl, h1, h2⟩ := h
    exact ⟨v, _, rfl, h1, Reps.set n h2 k⟩
theorem Reps.one {d : D} {v : V} (h : Rep K H d v) : Reps K H [d] [v] := ⟨v, [], rfl, h, rfl⟩
theorem Reps.ints : ∀ {ns : List Int} {vs : List V}, Reps K H (ns.map D.int) vs → vs = ns.map V.int
  | [], _, h => h
  | _ :: _, _, h => by
    obtain ⟨v, r, rfl, h1, h2⟩ := h
    rw [show v = V.int _ from h1, Reps.ints h2]; rfl
theorem Reps.of_ints : ∀ {ns : List Int}, Reps K H (ns.map D.int) (ns.map V.int)
  | [] => rfl
  | _ :: _ => ⟨_, _, rfl, rfl, Reps.of_ints⟩

/-! ### worlds made -/
theorem upd_none {H : Hp} {p a : Addr} {u : HO} (h : upd H p u a = none) : H a = none := by
  unfold upd at h
  split at h
  · cases h
  · exact h
theorem Go.new (w : Wd K H S) {p : Addr} {u : HO} (h : H p = none) : Go K S H S (upd H p u) := by
  have e : Ext S H (upd H p u) := fun a o h1 _ => by rw [upd_ne (ne_of_none h1 h)]; exact h1
  refine ⟨e, Out.refl S H, fun q o hq => ?_, fun _ h => upd_none h⟩
  obtain ⟨ho, h1, r⟩ := w q o hq
  exact ⟨ho, by rw [upd_ne (ne_of_none h1 h)]; exact h1, r.im (w.im e)⟩
theorem Wd.free (w : Wd K H S) {p : Addr} (h : H p = none) : S p = none := by
  cases e : S p with
  | none => rfl
  | some o => obtain ⟨ho, e1, _⟩ := w p o e; rw [h] at e1; cases e1
/-- a new object of S -/
theorem Go.newS (w : Wd K H S) {p : Addr} {u : HO} {o : MO} (h : H p = none) (r : RepO K (upd H p u) o u) : Go K S H (su S p o) (upd H p u) := by
  have g := Go.new (u := u) w h
  refine ⟨g.ext, fun a x h1 h2 => ?_, fun q x hq => ?_, fun _ h => upd_none h⟩
  · rw [su_ne (ne_of_none h1 h)]; exact h2
  · by_cases e : q = p
    · subst e
      rw [su_same] at hq; cases hq
      exact ⟨u, upd_same, r⟩
    · rw [su_ne e] at hq
      exact g.wd q x hq
/-- an object of S is changed -/
theorem Go.wr (w : Wd K H S) {p : Addr} {u : HO} {o o' : MO} (h : S p = some o) (r : ∀ H', Im K H H' → RepO K H' o' u) : Go K S H (su S p o') (upd H p u) := by
  have e : Ext S H (upd H p u) := fun a x h1 h2 => by rw [upd_ne (fun z => by rw [z, h] at h2; cases h2)]; exact h1
  refine ⟨e, fun a x h1 h2 => ?_, fun q x hq => ?_, fun _ h => upd_none h⟩
  · rw [su_ne (fun z => by rw [z, h] at h2; cases h2)]; exact h2
  · by_cases z : q = p
    · subst z
      rw [su_same] at hq; cases hq
      exact ⟨u, upd_same, r _ (w.im e)⟩
    · rw [su_ne z] at hq
      obtain ⟨ho, h1, r'⟩ := w q x hq
      exact ⟨ho, by rw [upd_ne z]; exact h1, r'.im (w.im e)⟩
end

/-! ### the places -/
abbrev Sl := List (Option D)
def SlOk (K : PySem.W.Frag) (H : Hp) (σ : L2.St) (δ : Sl) : Prop := σ.length = δ.length ∧ ∀ (i : Nat) (d : D), δ[i]? = some (some d) → ∃ v, σ[i]? = some (some v) ∧ Rep K H d v
theorem SlOk.im {K : PySem.W.Frag} {H H' : Hp} {σ : L2.St} {δ : Sl} (m : Im K H H') (h : SlOk K H σ δ) : SlOk K H' σ δ := ⟨h.1, fun i d e => by
  obtain ⟨v, a, b⟩ := h.2 i d e
  exact ⟨v, a, b.im m⟩⟩
theorem SlOk.set {K : PySem.W.Frag} {H : Hp} {σ : L2.St} {δ : Sl} (h : SlOk K H σ δ) (i : Nat) {d : D} {v : V} (r : Rep K H d v) : SlOk K H (σ.set i (some v)) (δ.set i (some d)) := by
  refine ⟨by rw [List.length_set, List.length_set]; exact h.1, fun j e q => ?_⟩
  by_cases z : i = j
  · subst z
    rw [List.getElem?_set_self'] at q ⊢
    cases hq : δ[i]? with
    | none => rw [hq] at q; cases q
    | some x =>
      rw [hq] at q
      have hi : i < σ.length := by rw [h.1]; exact (List.getElem?_eq_some_iff.mp hq).1
      rw [List.getElem?_eq_getElem hi]
      cases q
      exact ⟨v, rfl, r⟩
  · rw [List.getElem?_set_ne z] at q ⊢
    exact h.2 j e q

abbrev QD := D → Sh → Prop
abbrev ED := Sl → Sh → QD → Prop
abbrev TD := Sl → Sh → (Bool → Sh → Prop) → Prop
abbrev AD := Sl → Sh → (List D → Sh → Prop) → Prop
structure EndsD where
  nx : Sl → Sh → Prop
  rt : QD
  bk : Sl → Sh → Prop := fun _ _ => False
  ct : Sl → Sh → Prop := fun _ _ => False
abbrev SD := EndsD → Sl → Sh → Prop
abbrev GD := D → Sl → Sh → (Sl → Sh → Prop) → Prop
abbrev GsD := List D → Sl → Sh → (Sl → Sh → Prop) → Prop
abbrev ID := Sl → Sh → (List D → (Sh → Prop) → Sh → Prop) → Prop
abbrev R2D := D → D → Sh → QD → Prop
abbrev CD := List D → Sh → QD → Prop

def SimE (K : PySem.W.Frag) (t : TE) (τ : ED) : Prop := ∀ σ H δ S, Wd K H S → SlOk K H σ δ → ∀ (Q : QD) (R : VK), (∀ v H' d S', Go K S H S' H' → Rep K H' d v → Q d S' → R v H') → τ δ S Q → t σ H R
def SimT (K : PySem.W.Frag) (t : TT) (τ : TD) : Prop := ∀ σ H δ S, Wd K H S → SlOk K H σ δ → ∀ (Q : Bool → Sh → Prop) (R : Bool → Hp → Prop), (∀ b H' S', Go K S H S' H' → Q b S' → R b H') → τ δ S Q → t σ H R
def SimA (K : PySem.W.Frag) (t : TA) (τ : AD) : Prop := ∀ σ H δ S, Wd K H S → SlOk K H σ δ → ∀ (Q : List D → Sh → Prop) (R : List V → Hp → Prop), (∀ vs H' ds S', Go K S H S' H' → Reps K H' ds vs → Q ds S' → R vs H') → τ δ S Q → t σ H R
/-- a list that need not be an object of S -/
def SimL (K : PySem.W.Frag) (t : TE) (τ : AD) : Prop := ∀ σ H δ S, Wd K H S → SlOk K H σ δ → ∀ (Q : List D → Sh → Prop) (R : VK), (∀ a H' vs ds S', Go K S H S' H' → SqL K H' a vs → Reps K H' ds vs → Q ds S' → R (.ref a) H') → τ δ S Q → t σ H R
/-- a new list that is no object of S -/
def SimN (K : PySem.W.Frag) (t : TE) (τ : AD) : Prop := ∀ σ H δ S, Wd K H S → SlOk K H σ δ → ∀ (Q : List D → Sh → Prop) (R : VK), (∀ a H' vs ds S', Go K S H S' H' → H a = none → H' a = some (.lst vs) → S' a = none → Reps K H' ds vs → Q ds S' → R (.ref a) H') → τ δ S Q → t σ H R
def SimS (K : PySem.W.Frag) (t : TS) (τ : SD) : Prop := ∀ σ H δ S, Wd K H S → SlOk K H σ δ → ∀ (F : EndsD) (G : Ends),
  (∀ σ' H' δ' S', Go K S H S' H' → SlOk K H' σ' δ' → F.nx δ' S' → G.nx σ' H') → (∀ v H' d S', Go K S H S' H' → Rep K H' d v → F.rt d S' → G.rt v H') →
  (∀ σ' H' δ' S', Go K S H S' H' → SlOk K H' σ' δ' → F.bk δ' S' → G.bk σ' H') → (∀ σ' H' δ' S', Go K S H S' H' → SlOk K H' σ' δ' → F.ct δ' S' → G.ct σ' H') → τ F δ S → t G σ H
def SimG (K : PySem.W.Frag) (t : TG) (τ : GD) : Prop := ∀ σ H δ S v d, Wd K H S → SlOk K H σ δ → Rep K H d v → ∀ (Q : Sl → Sh → Prop) (R : L2.St → Hp → Prop), (∀ σ' H' δ' S', Go K S H S' H' → SlOk K H' σ' δ' → Q δ' S' → R σ' H') → τ d δ S Q → t v σ H R
def SimGs (K : PySem.W.Frag) (t : TGs) (τ : GsD) : Prop := ∀ σ H δ S vs ds, Wd K H S → SlOk K H σ δ → Reps K H ds vs → ∀ (Q : Sl → Sh → Prop) (R : L2.St → Hp → Prop), (∀ σ' H' δ' S', Go K S H S' H' → SlOk K H' σ' δ' → Q δ' S' → R σ' H') → τ ds δ S Q → t vs σ H R
/-- what a walk needs to stand between its turns; fr: the addresses that came to be with what is walked -/
structure Kp (K : PySem.W.Frag) (fr : Addr → Prop) (S0 : Sh) (H0 : Hp) (S : Sh) (H : Hp) : Prop where
  wd : Wd K H S
  im : Im K H0 H
  ex : ∀ a o, fr a → H0 a = some o → S0 a = none → H a = some o
theorem Go.kp {K : PySem.W.Frag} {fr : Addr → Prop} {S0 S : Sh} {H0 H : Hp} (g : Go K S0 H0 S H) (w : Wd K H0 S0) : Kp K fr S0 H0 S H := ⟨g.wd, g.im w, fun a o _ h1 h2 => g.ext a o h1 h2⟩
def SimJ (K : PySem.W.Frag) (Hb : Hp) (S0 : Sh) (H0 : Hp) (J : It) (xs : List D) (ck : Sh → Prop) : Prop := ∀ S H, Kp K (fun a => Hb a = none) S0 H0 S H → ck S → ∀ i : Nat,
  (∀ d, xs[i]? = some d → J.go i H ∧ ∀ x H', J.yld i H x H' → Go K S H S H' ∧ Rep K H' d x) ∧ (xs.length ≤ i → J.stop i H)
def SimI (K : PySem.W.Frag) (t : TI) (τ : ID) : Prop := ∀ σ H δ S, Wd K H S → SlOk K H σ δ → ∀ (Q : List D → (Sh → Prop) → Sh → Prop) (R : It → Hp → Prop), (∀ J H' S' xs ck, Go K S H S' H' → SimJ K H S' H' J xs ck → ck S' → Q xs ck S' → R J H') → τ δ S Q → t σ H R
def SimR2 (K : PySem.W.Frag) (r : R2) (ρ : R2D) : Prop := ∀ H S x y dx dy, Wd K H S → Rep K H dx x → Rep K H dy y → ∀ (Q : QD) (R : VK), (∀ v H' d S', Go K S H S' H' → Rep K H' d v → Q d S' → R v H') → ρ dx dy S Q → r x y H R
def SimC (K : PySem.W.Frag) (r : List V → Hp → VK → Prop) (ρ : CD) : Prop := ∀ H S vs ds, Wd K H S → Reps K H ds vs → ∀ (Q : QD) (R : VK), (∀ v H' d S', Go K S H S' H' → Rep K H' d v → Q d S' → R v H') → ρ ds S Q → r vs H R

def E (X : Cx) (e : Expr) (τ : ED) : Prop := ∃ t, PE X e t ∧ SimE X.K t τ
def T (X : Cx) (e : Expr) (τ : TD) : Prop := ∃ t, PT X e t ∧ SimT X.K t τ
def W (X : Cx) (e : Expr) (τ : TD) : Prop := ∃ t, PW X e t ∧ SimT X.K t τ
def A (X : Cx) (es : List Expr) (τ : AD) : Prop := ∃ t, PA X es t ∧ SimA X.K t τ
def L (X : Cx) (e : Expr) (τ : AD) : Prop := ∃ t, PE X e t ∧ SimL X.K t τ
def N (X : Cx) (e : Expr) (τ : AD) : Prop := ∃ t, PE X e t ∧ SimN X.K t τ
def S1 (X : Cx) (st : Stmt) (τ : SD) : Prop := ∃ t, PS X st t ∧ SimS X.K t τ
def B (X : Cx) (st : List Stmt) (τ : SD) : Prop := ∃ t, PSs X st t ∧ SimS X.K t τ
def G (X : Cx) (e : Expr) (τ : GD) : Prop := ∃ t, PG X e t ∧ SimG X.K t τ
def Gs (X : Cx) (es : List Expr) (τ : GsD) : Prop := ∃ t, PGs X es t ∧ SimGs X.K t τ
def I (X : Cx) (tg e : Expr) (τ : ID) : Prop := ∃ t, PI X tg e t ∧ SimI X.K t τ
def O (X : Cx) (f : Value → Value → Sem Value) (ρ : R2D) : Prop := ∃ r, OpR X f r ∧ SimR2 X.K r ρ
def C (X : Cx) (f : Value) (ρ : CD) : Prop := ∃ r, CallR X f r ∧ SimC X.K r ρ
end DL

set_option Elab.async false
set_option linter.all false
set_option maxRecDepth 100000
namespace DL
open PySem PySem.Spec L2

/-! ### expressions -/
def dVar (i : Nat) : ED := fun δ S Q => match δ[i]? with | some (some d) => Q d S | _ => False
def dC (d : D) : ED := fun _ S Q => Q d S
def dOp (ρ : R2D) (a b : ED) : ED := fun δ S Q => a δ S fun x S1 => b δ S1 fun y S2 => ρ x y S2 Q
def dUn (ρ : D → Sh → QD → Prop) (a : ED) : ED := fun δ S Q => a δ S fun x S1 => ρ x S1 Q
section
variable {K : PySem.W.Frag}
theorem sim_var {i : Nat} : SimE K (tVar i) (dVar i) := fun σ H δ S w sl Q R k h => by
  unfold dVar at h
  cases e : δ[i]? with
  | none => rw [e] at h; exact h.elim
  | some o =>
    cases o with
    | none => rw [e] at h; exact h.elim
    | some d =>
      rw [e] at h
      obtain ⟨v, a, b⟩ := sl.2 i d e
      exact ⟨v, a, k v H d S (Go.refl w) b h⟩
theorem sim_c {d : D} {v : V} (h : ∀ H, Rep K H d v) : SimE K (tC v) (dC d) := fun _ H _ S w _ _ _ k q => k v H d S (Go.refl w) (h H) q
theorem sim_op {r : R2} {ρ : R2D} {ta tb : TE} {τa τb : ED} (hr : SimR2 K r ρ) (ha : SimE K ta τa) (hb : SimE K tb τb) : SimE K (tOp r ta tb) (dOp ρ τa τb) := fun σ H δ S w sl Q R k h => by
  refine ha σ H δ S w sl _ _ (fun x H1 dx S1 g1 r1 q1 => ?_) h
  refine hb σ H1 δ S1 g1.wd (sl.im (g1.im w)) _ _ (fun y H2 dy S2 g2 r2 q2 => ?_) q1
  exact hr H2 S2 x y dx dy g2.wd (r1.im (g2.im g1.wd)) r2 Q R (fun v H3 d S3 g3 r3 q3 => k v H3 d S3 ((g1.trans g2).trans g3) r3 q3) q2
end
def canE (K : PySem.W.Frag) (τ : ED) : TE := fun σ H R => ∃ δ S Q, Wd K H S ∧ SlOk K H σ δ ∧ (∀ v H' d S', Go K S H S' H' → Rep K H' d v → Q d S' → R v H') ∧ τ δ S Q
theorem sim_can {K : PySem.W.Frag} {τ : ED} : SimE K (canE K τ) τ := fun σ H δ S w sl Q R k h => ⟨δ, S, Q, w, sl, k, h⟩
theorem E.can {X : Cx} {e : Expr} {τ : ED} (h : E X e τ) : PE X e (canE X.K τ) := by
  obtain ⟨t, h1, h2⟩ := h
  refine ⟨fun pins s σ H R I q => ?_⟩
  obtain ⟨δ, S, Q, w, sl, k, q⟩ := q
  exact h1.run pins s σ H R I (h2 σ H δ S w sl Q R k q)
def canT (K : PySem.W.Frag) (τ : TD) : TT := fun σ H R => ∃ δ S Q, Wd K H S ∧ SlOk K H σ δ ∧ (∀ b H' S', Go K S H S' H' → Q b S' → R b H') ∧ τ δ S Q
theorem sim_canT {K : PySem.W.Frag} {τ : TD} : SimT K (canT K τ) τ := fun σ H δ S w sl Q R k h => ⟨δ, S, Q, w, sl, k, h⟩
theorem T.can {X : Cx} {e : Expr} {τ : TD} (h : T X e τ) : PT X e (canT X.K τ) := by
  obtain ⟨t, h1, h2⟩ := h
  refine ⟨fun pins s σ H R I q => ?_⟩
  obtain ⟨δ, S, Q, w, sl, k, q⟩ := q
  exact h1.run pins s σ H R I (h2 σ H δ S w sl Q R k q)
section
variable {X : Cx} {a b c e : Expr} {pos : Pos} {τa τb τc τ : ED}
theorem e_var (i : Nat) {x : Str} {pos : Pos} (hN : X.N[i]? = some x := by rfl) (hv : Vis X.env.scope x := by first | exact Or.inl rfl | exact Or.inr (Or.inl rfl) | exact Or.inr (Or.inr rfl)) (hd : (x == ("__debug__" : Str)) = false := by decide)
    (hcd : (x == ("__classdict__" : Str)) = false := by decide) : E X (.Name x pos) (dVar i) := ⟨_, pe_var hN hv hd hcd, sim_var⟩
theorem e_int {i : Int} {j pos} : E X (.Constant (.int i) j pos) (dC (.int i)) := ⟨_, pe_int, sim_c fun _ => rfl⟩
theorem e_bl {b : Bool} {j pos} : E X (.Constant (.bool b) j pos) (dC (.bl b)) := ⟨_, pe_bl, sim_c fun _ => rfl⟩
theorem e_non {j pos} : E X (.Constant .none j pos) (dC .non) := ⟨_, pe_non, sim_c fun _ => rfl⟩
theorem e_str {x : Str} {j pos} (s : List Nat) (h : x = ⟨s.toArray⟩ := by decide +kernel) : E X (.Constant (.str x) j pos) (dC (.str s)) := ⟨_, pe_str, sim_c fun _ => by rw [h]; rfl⟩
theorem e_op {op : Operator} {ρ : R2D} (ho : O X (binaryOp op) ρ) (ha : E X a τa) (hb : E X b τb) : E X (.BinOp a op b pos) (dOp ρ τa τb) := by
  obtain ⟨r, h1, h2⟩ := ho
  obtain ⟨ta, a1, a2⟩ := ha
  obtain ⟨tb, b1, b2⟩ := hb
  exact ⟨_, pe_op h1 a1 b1, sim_op h2 a2 b2⟩
theorem e_cmp {op : CmpOp} {ρ : R2D} (ho : O X (compareOp op) ρ) (ha : E X a τa) (hb : E X b τb) (hm : behindInMarks op b = false := by first | exact nomark _ | rfl) : E X (.Compare a [op] [b] pos) (dOp ρ τa τb) := by
  obtain ⟨r, h1, h2⟩ := ho
  obtain ⟨ta, a1, a2⟩ := ha
  obtain ⟨tb, b1, b2⟩ := hb
  exact ⟨_, pe_cmpR h1 a1 b1 hm, sim_op h2 a2 b2⟩
theorem O.or {f : Value → Value → Sem Value} {ρ ρ' : R2D} (h : O X f ρ) (h' : O X f ρ') : O X f (fun x y S Q => ρ x y S Q ∨ ρ' x y S Q) := by
  obtain ⟨r, a1, a2⟩ := h
  obtain ⟨r', b1, b2⟩ := h'
  refine ⟨_, a1.or b1, fun H S x y dx dy w rx ry Q R k q => ?_⟩
  rcases q with q | q
  · exact .inl (a2 H S x y dx dy w rx ry Q R k q)
  · exact .inr (b2 H S x y dx dy w rx ry Q R k q)
theorem O.imp {f : Value → Value → Sem Value} {ρ ρ' : R2D} (h : O X f ρ) (hi : ∀ x y S Q, ρ' x y S Q → ρ x y S Q) : O X f ρ' := by
  obtain ⟨r, a1, a2⟩ := h
  exact ⟨r, a1, fun H S x y dx dy w rx ry Q R k q => a2 H S x y dx dy w rx ry Q R k (hi _ _ _ _ q)⟩
theorem C.or {f : Value} {ρ ρ' : CD} (h : C X f ρ) (h' : C X f ρ') : C X f (fun xs S Q => ρ xs S Q ∨ ρ' xs S Q) := by
  obtain ⟨r, a1, a2⟩ := h
  obtain ⟨r', b1, b2⟩ := h'
  refine ⟨_, CallR.or a1 b1, fun H S vs ds w r Q R k q => ?_⟩
  rcases q with q | q
  · exact .inl (a2 H S vs ds w r Q R k q)
  · exact .inr (b2 H S vs ds w r Q R k q)
theorem C.imp {f : Value} {ρ ρ' : CD} (h : C X f ρ) (hi : ∀ xs S Q, ρ' xs S Q → ρ xs S Q) : C X f ρ' := by
  obtain ⟨r, a1, a2⟩ := h
  exact ⟨r, a1, fun H S vs ds w r Q R k q => a2 H S vs ds w r Q R k (hi _ _ _ q)⟩

/-! ### operators -/
def rII (g : Int → Int → D) : R2D := fun x y S Q => match x, y with | .int i, .int j => Q (g i j) S | _, _ => False
def rIIc (c : Int → Int → Prop) (g : Int → Int → D) : R2D := fun x y S Q => match x, y with | .int i, .int j => c i j ∧ Q (g i j) S | _, _ => False
theorem o_II {f : Value → Value → Sem Value} {g : Int → Int → V} {g' : Int → Int → D} (h : OpR X f (rI0 g)) (hg : ∀ K H i j, Rep K H (g' i j) (g i j)) : O X f (rII g') := by
  refine ⟨_, h, fun H S x y dx dy w rx ry Q R k q => ?_⟩
  cases dx <;> cases dy <;> first | exact False.elim q | skip
  rename_i i j
  exact ⟨i, j, rx, ry, k _ H _ S (Go.refl w) (hg _ _ _ _) q⟩
theorem o_IIc {f : Value → Value → Sem Value} {c : Int → Int → Prop} {g : Int → Int → V} {g' : Int → Int → D} (h : OpR X f (rI c g)) (hg : ∀ K H i j, Rep K H (g' i j) (g i j)) : O X f (rIIc c g') := by
  refine ⟨_, h, fun H S x y dx dy w rx ry Q R k q => ?_⟩
  cases dx <;> cases dy <;> first | exact False.elim q | skip
  rename_i i j
  exact ⟨i, j, rx, ry, q.1, k _ H _ S (Go.refl w) (hg _ _ _ _) q.2⟩
def dAddS : R2D := fun x y S Q => match x, y with | .str a, .str b => a.length + b.length ≤ sizeLine ∧ Q (.str (a ++ b)) S | _, _ => False
theorem str_len (s : List Nat) : (⟨s.toArray⟩ : Str).length = s.length := by show s.toArray.size = _; simp
theorem str_app (a b : List Nat) : (⟨a.toArray⟩ : Str) ++ ⟨b.toArray⟩ = ⟨(a ++ b).toArray⟩ := by show (⟨a.toArray ++ b.toArray⟩ : Str) = _; simp
theorem o_addS : O X (binaryOp .Add) dAddS := by
  refine ⟨_, op_add_str, fun H S x y dx dy w rx ry Q R k q => ?_⟩
  cases dx <;> cases dy <;> first | exact False.elim q | skip
  rename_i s t
  exact ⟨_, _, rx, ry, by rw [str_len, str_len]; exact q.1, by rw [str_app]; exact k _ H (.str (s ++ t)) S (Go.refl w) rfl q.2⟩
def dAddT : R2D := fun x y S Q => match x, y with | .tup a, .tup b => a.length + b.length ≤ sizeLine ∧ Q (.tup (a ++ b)) S | _, _ => False
theorem o_addT : O X (binaryOp .Add) dAddT := by
  refine ⟨_, op_catA, fun H S x y dx dy w rx ry Q R k q => ?_⟩
  cases dx <;> cases dy <;> first | exact False.elim q | skip
  rename_i s t
  obtain ⟨a, vs, rfl, ha, ra⟩ := rx
  obtain ⟨b, us, rfl, hb, rb⟩ := ry
  refine ⟨a, b, vs, us, rfl, rfl, ha, hb, by rw [← ra.length, ← rb.length]; exact q.1, fun e => ?_, fun _ e => ?_, fun _ _ p hp => ?_⟩
  · have : s = [] := List.eq_nil_of_length_eq_zero (by rw [ra.length, e]; rfl)
    subst this
    exact k _ H (.tup ([] ++ t)) S (Go.refl w) ⟨b, us, rfl, hb, rb⟩ q.2
  · have : t = [] := List.eq_nil_of_length_eq_zero (by rw [rb.length, e]; rfl)
    subst this
    refine k _ H (.tup (s ++ [])) S (Go.refl w) ⟨a, vs, rfl, ha, ?_⟩ q.2
    rw [List.append_nil]; exact ra
  · have g := Go.new (u := .tup (vs ++ us)) w hp
    exact k _ _ (.tup (s ++ t)) S g ⟨p, vs ++ us, rfl, SqT.of upd_same, (ra.append rb).im (g.im w)⟩ q.2
/-- + of two ints, texts, tuples -/
def dAdd : R2D := fun x y S Q => match x, y with
  | .int i, .int j => Q (.int (i + j)) S
  | .str a, .str b => a.length + b.length ≤ sizeLine ∧ Q (.str (a ++ b)) S
  | .tup a, .tup b => a.length + b.length ≤ sizeLine ∧ Q (.tup (a ++ b)) S
  | _, _ => False
theorem o_add : O X (binaryOp .Add) dAdd := by
  refine O.imp ((o_II (g' := fun i j => .int (i + j)) op_add fun _ _ _ _ => rfl).or (o_addS.or o_addT)) fun x y S Q q => ?_
  cases x <;> cases y <;> first | exact False.elim q | exact .inl q | exact .inr (.inl q) | exact .inr (.inr q)
def dSub : R2D := rII fun i j => .int (i - j)
def dMul : R2D := rIIc CMul fun i j => .int (i * j)
def dMod : R2D := rIIc (fun _ j => 0 < j) fun i j => .int (i % j)
def dFdiv : R2D := rIIc CDiv fun i j => .int (i / j)
def dPow : R2D := rIIc CPow fun i j => .int (i ^ j.toNat)
theorem o_sub : O X (binaryOp .Sub) dSub := o_II op_sub fun _ _ _ _ => rfl
theorem o_mul : O X (binaryOp .Mult) dMul := o_IIc op_mul fun _ _ _ _ => rfl
theorem o_mod : O X (binaryOp .Mod) dMod := o_IIc op_mod fun _ _ _ _ => rfl
theorem o_fdiv : O X (binaryOp .FloorDiv) dFdiv := o_IIc op_fdiv fun _ _ _ _ => rfl
theorem o_pow : O X (binaryOp .Pow) dPow := o_IIc op_pow fun _ _ _ _ => rfl
def dLt : R2D := rII fun i j => .bl (decide (i < j))
def dLe : R2D := rII fun i j => .bl (decide (i ≤ j))
def dGt : R2D := rII fun i j => .bl (decide (j < i))
def dGe : R2D := rII fun i j => .bl (decide (j ≤ i))
theorem o_lt : O X (compareOp .Lt) dLt := o_II op_lt fun _ _ _ _ => rfl
theorem o_le : O X (compareOp .LtE) dLe := o_II op_le fun _ _ _ _ => rfl
theorem o_gt : O X (compareOp .Gt) dGt := o_II op_gt fun _ _ _ _ => rfl
theorem o_ge : O X (compareOp .GtE) dGe := o_II op_ge fun _ _ _ _ => rfl
theorem str_inj {a b : List Nat} : ((⟨a.toArray⟩ : Str) = ⟨b.toArray⟩) ↔ a = b := by
  constructor
  · intro h; injection h with h; simpa using h
  · rintro rfl; rfl
/-- == of scalars -/
def scd : D → D → Option Bool
  | .int i, .int j => some (decide (i = j))
  | .str i, .str j => some (decide (i = j))
  | .bl i, .bl j => some (decide (i = j))
  | .non, .non => some true
  | .non, .int _ => some false | .int _, .non => some false | .non, .bl _ => some false | .bl _, .non => some false | .non, .str _ => some false | .str _, .non => some false
  | .int _, .str _ => some false | .str _, .int _ => some false | .bl _, .str _ => some false | .str _, .bl _ => some false
  | _, _ => none
theorem scd_ok {K : PySem.W.Frag} {H : Hp} {dx dy : D} {x y : V} (rx : Rep K H dx x) (ry : Rep K H dy y) {b : Bool} (h : scd dx dy = some b) : scal x y = true ∧ decide (x = y) = b := by
  cases dx <;> cases dy <;> simp only [scd, reduceCtorEq, Option.some.injEq] at h
  all_goals (obtain rfl := rx; obtain rfl := ry; subst h; refine ⟨rfl, ?_⟩; simp [str_inj])
def dEq : R2D := fun x y S Q => match scd x y with | some b => Q (.bl b) S | none => False
def dNe : R2D := fun x y S Q => match scd x y with | some b => Q (.bl (!b)) S | none => False
theorem o_eq : O X (compareOp .Eq) dEq := by
  refine ⟨_, op_eq, fun H S x y dx dy w rx ry Q R k q => ?_⟩
  unfold dEq at q
  cases e : scd dx dy with
  | none => rw [e] at q; exact q.elim
  | some b =>
    rw [e] at q
    obtain ⟨h1, h2⟩ := scd_ok rx ry e
    exact ⟨h1, k _ H (.bl b) S (Go.refl w) (by rw [h2]; rfl) q⟩
theorem o_ne : O X (compareOp .NotEq) dNe := by
  refine ⟨_, op_ne, fun H S x y dx dy w rx ry Q R k q => ?_⟩
  unfold dNe at q
  cases e : scd dx dy with
  | none => rw [e] at q; exact q.elim
  | some b =>
    rw [e] at q
    obtain ⟨h1, h2⟩ := scd_ok rx ry e
    exact ⟨h1, k _ H (.bl (!b)) S (Go.refl w) (by rw [h2]; rfl) q⟩
/-- is None -/
def dIsN : R2D := fun x y S Q => match y with | .non => Q (.bl (match x with | .non => true | _ => false)) S | _ => False
def dNotN : R2D := fun x y S Q => match y with | .non => Q (.bl (match x with | .non => false | _ => true)) S | _ => False
theorem o_isN : O X (compareOp .Is) dIsN := by
  refine ⟨_, op_isN, fun H S x y dx dy w rx ry Q R k q => ?_⟩
  cases dy <;> first | exact False.elim q | skip
  obtain rfl := ry
  refine ⟨rfl, k _ H _ S (Go.refl w) ?_ q⟩
  cases dx <;> first | (obtain rfl := rx; rfl) | (obtain ⟨_, _, rfl, _⟩ := rx; rfl)
theorem o_notN : O X (compareOp .IsNot) dNotN := by
  refine ⟨_, op_notN, fun H S x y dx dy w rx ry Q R k q => ?_⟩
  cases dy <;> first | exact False.elim q | skip
  obtain rfl := ry
  refine ⟨rfl, k _ H _ S (Go.refl w) ?_ q⟩
  cases dx <;> first | (obtain rfl := rx; rfl) | (obtain ⟨_, _, rfl, _⟩ := rx; rfl)
def dNeg : D → Sh → QD → Prop := fun x S Q => match x with | .int i => Q (.int (-i)) S | _ => False
theorem e_neg (ha : E X a τa) : E X (.UnaryOp .USub a pos) (dUn dNeg τa) := by
  obtain ⟨ta, a1, a2⟩ := ha
  refine ⟨_, pe_un un_neg a1, fun σ H δ S w sl Q R k h => ?_⟩
  refine a2 σ H δ S w sl _ _ (fun x H1 dx S1 g1 r1 q1 => ?_) h
  cases dx <;> first | exact False.elim q1 | skip
  rename_i i
  exact ⟨_, r1, k _ H1 (.int (-i)) S1 g1 rfl q1⟩

/-! ### tests -/
def dTruS (S : Sh) : D → Option Bool
  | .non => some false
  | .bl b => some b
  | .int i => some (decide (i ≠ 0))
  | .str s => if s.length ≤ sizeLine then some (!s.isEmpty) else none
  | .tup ds => some (!ds.isEmpty)
  | .frz ds => some (!ds.isEmpty)
  | .rf p => match S p with | some (.lst ds) => some (!ds.isEmpty) | _ => none
  | .ty _ => none
  | .kst _ _ => none
theorem tru_rep {K : PySem.W.Frag} {H : Hp} {S : Sh} {d : D} {v : V} {b : Bool} (w : Wd K H S) (r : Rep K H d v) (h : dTruS S d = some b) : TruV K v H b := by
  cases d with
  | non => obtain rfl := r; cases h; rfl
  | bl c => obtain rfl := r; cases h; rfl
  | int i => obtain rfl := r; cases h; show _ = _; rw [Bool.eq_iff_iff]; simp
  | str s =>
    obtain rfl := r
    simp only [dTruS] at h
    split at h
    · rename_i hl
      cases h
      refine ⟨by rw [str_len]; exact hl, ?_⟩
      rw [str_len]
      cases s <;> simp <;> omega
    · cases h
  | tup ds =>
    obtain ⟨a, vs, rfl, q, rs⟩ := r
    cases h
    refine .inr (.inl ⟨vs, q, ?_⟩)
    have := rs.length
    cases ds <;> cases vs <;> simp at this ⊢
  | frz ds =>
    obtain ⟨a, vs, rfl, q, rs⟩ := r
    cases h
    refine .inl ⟨vs, q.l, ?_⟩
    have := rs.length
    cases ds <;> cases vs <;> simp at this ⊢
  | rf p =>
    obtain rfl := r
    simp only [dTruS] at h
    split at h
    · rename_i ds e
      cases h
      obtain ⟨ho, e1, vs, rfl, rs⟩ := w _ _ e
      refine .inl ⟨vs, SqL.of e1, ?_⟩
      have := rs.length
      cases ds <;> cases vs <;> simp at this ⊢
    · cases h
  | ty n => cases h
  | kst w xs => cases h
def dTru (a : ED) : TD := fun δ S Q => a δ S fun x S1 => match dTruS S1 x with | some b => Q b S1 | none => False
def dTB (a : ED) : TD := fun δ S Q => a δ S fun x S1 => match x with | .bl b => Q b S1 | _ => False
theorem t_cmp {op : CmpOp} {ρ : R2D} (ho : O X (compareOp op) ρ) (ha : E X a τa) (hb : E X b τb) (hm : behindInMarks op b = false := by first | exact nomark _ | rfl) : T X (.Compare a [op] [b] pos) (dTB (dOp ρ τa τb)) := by
  obtain ⟨r, h1, h2⟩ := ho
  obtain ⟨ta, a1, a2⟩ := ha
  obtain ⟨tb, b1, b2⟩ := hb
  refine ⟨_, pt_cmpR h1 a1 b1 hm, fun σ H δ S w sl Q R k h => ?_⟩
  refine sim_op h2 a2 b2 σ H δ S w sl _ _ (fun v H' d S' g r' q => ?_) h
  cases d <;> first | exact False.elim q | skip
  exact ⟨_, r', k _ H' S' g q⟩
theorem t_tru (ha : E X a τa) (he : ∀ whole, isTrue a X.env whole = (do let v ← whole; standAt a.pos; holding [v] (truthy v)) := by intro _; rfl) : T X a (dTru τa) := by
  obtain ⟨ta, a1, a2⟩ := ha
  refine ⟨_, pt_truth a1 he, fun σ H δ S w sl Q R k h => ?_⟩
  refine a2 σ H δ S w sl _ _ (fun v H' d S' g r' q => ?_) h
  cases e : dTruS S' d with
  | none => rw [e] at q; exact q.elim
  | some b =>
    rw [e] at q
    exact ⟨b, tru_rep g.wd r' e, k _ H' S' g q⟩
theorem T.w {τ : TD} (h : W X e τ) : T X e τ := by
  obtain ⟨t, h1, h2⟩ := h
  exact ⟨t, h1.pt, h2⟩
def dAnd (a b : TD) : TD := fun δ S Q => a δ S fun c S1 => if c = true then b δ S1 Q else Q false S1
def dOr (a b : TD) : TD := fun δ S Q => a δ S fun c S1 => if c = true then Q true S1 else b δ S1 Q
def dNot (a : TD) : TD := fun δ S Q => a δ S fun c S1 => Q (!c) S1
variable {κa κb : TD} {es rest : List Expr}
theorem w_and1 (ha : T X a κa) : W X (.BoolOp .And [a] pos) κa := by
  obtain ⟨t, h1, h2⟩ := ha
  exact ⟨t, pw_and1 h1, h2⟩
theorem w_or1 (ha : T X a κa) : W X (.BoolOp .Or [a] pos) κa := by
  obtain ⟨t, h1, h2⟩ := ha
  exact ⟨t, pw_or1 h1, h2⟩
theorem w_and (ha : T X a κa) (hb : W X (.BoolOp .And (b :: rest) pos) κb) : W X (.BoolOp .And (a :: b :: rest) pos) (dAnd κa κb) := by
  obtain ⟨ta, a1, a2⟩ := ha
  obtain ⟨tb, b1, b2⟩ := hb
  refine ⟨_, pw_and a1 b1, fun σ H δ S w sl Q R k h => ?_⟩
  refine a2 σ H δ S w sl _ _ (fun c H' S' g q => ?_) h
  cases c with
  | true => exact b2 σ H' δ S' g.wd (sl.im (g.im w)) Q R (fun b H2 S2 g2 q2 => k b H2 S2 (g.trans g2) q2) q
  | false => exact k _ H' S' g q
theorem w_or (ha : T X a κa) (hb : W X (.BoolOp .Or (b :: rest) pos) κb) : W X (.BoolOp .Or (a :: b :: rest) pos) (dOr κa κb) := by
  obtain ⟨ta, a1, a2⟩ := ha
  obtain ⟨tb, b1, b2⟩ := hb
  refine ⟨_, pw_or a1 b1, fun σ H δ S w sl Q R k h => ?_⟩
  refine a2 σ H δ S w sl _ _ (fun c H' S' g q => ?_) h
  cases c with
  | false => exact b2 σ H' δ S' g.wd (sl.im (g.im w)) Q R (fun b H2 S2 g2 q2 => k b H2 S2 (g.trans g2) q2) q
  | true => exact k _ H' S' g q
theorem t_not (ha : T X a κa) : T X (.UnaryOp .Not a pos) (dNot κa) := by
  obtain ⟨ta, a1, a2⟩ := ha
  exact ⟨_, pt_not a1, fun σ H δ S w sl Q R k h => a2 σ H δ S w sl _ _ (fun c H' S' g q => k _ H' S' g q) h⟩
/-- not, and, or as values -/
def dNotV (a : ED) : ED := fun δ S Q => dTru a δ S fun c S1 => Q (.bl (!c)) S1
def dAndV (a b : ED) : ED := fun δ S Q => a δ S fun x S1 => match dTruS S1 x with | some c => if c = true then b δ S1 Q else Q x S1 | none => False
def dOrV (a b : ED) : ED := fun δ S Q => a δ S fun x S1 => match dTruS S1 x with | some c => if c = true then Q x S1 else b δ S1 Q | none => False
theorem e_not (ha : E X a τa) : E X (.UnaryOp .Not a pos) (dNotV τa) := by
  obtain ⟨ta, a1, a2⟩ := ha
  refine ⟨_, pe_notT a1, fun σ H δ S w sl Q R k h => ?_⟩
  refine a2 σ H δ S w sl _ _ (fun v H' d S' g r' q => ?_) h
  cases e : dTruS S' d with
  | none => rw [e] at q; exact q.elim
  | some b =>
    rw [e] at q
    exact ⟨b, tru_rep g.wd r' e, k _ H' (.bl (!b)) S' g rfl q⟩
theorem e_one {op} (ha : E X a τa) : E X (.BoolOp op [a] pos) τa := by
  obtain ⟨ta, a1, a2⟩ := ha
  exact ⟨_, pe_one a1, a2⟩
theorem e_and (ha : E X a τa) (hb : E X (.BoolOp .And (b :: rest) pos) τb) : E X (.BoolOp .And (a :: b :: rest) pos) (dAndV τa τb) := by
  obtain ⟨ta, a1, a2⟩ := ha
  obtain ⟨tb, b1, b2⟩ := hb
  refine ⟨_, pe_andT a1 b1, fun σ H δ S w sl Q R k h => ?_⟩
  refine a2 σ H δ S w sl _ _ (fun v H' d S' g r' q => ?_) h
  cases e : dTruS S' d with
  | none => rw [e] at q; exact q.elim
  | some c =>
    rw [e] at q
    refine ⟨c, tru_rep g.wd r' e, ?_⟩
    cases c with
    | true => exact b2 σ H' δ S' g.wd (sl.im (g.im w)) Q R (fun v H2 d S2 g2 r2 q2 => k v H2 d S2 (g.trans g2) r2 q2) q
    | false => exact k _ H' _ S' g r' q
theorem e_or (ha : E X a τa) (hb : E X (.BoolOp .Or (b :: rest) pos) τb) : E X (.BoolOp .Or (a :: b :: rest) pos) (dOrV τa τb) := by
  obtain ⟨ta, a1, a2⟩ := ha
  obtain ⟨tb, b1, b2⟩ := hb
  refine ⟨_, pe_orT a1 b1, fun σ H δ S w sl Q R k h => ?_⟩
  refine a2 σ H δ S w sl _ _ (fun v H' d S' g r' q => ?_) h
  cases e : dTruS S' d with
  | none => rw [e] at q; exact q.elim
  | some c =>
    rw [e] at q
    refine ⟨c, tru_rep g.wd r' e, ?_⟩
    cases c with
    | false => exact b2 σ H' δ S' g.wd (sl.im (g.im w)) Q R (fun v H2 d S2 g2 r2 q2 => k v H2 d S2 (g.trans g2) r2 q2) q
    | true => exact k _ H' _ S' g r' q
def dIfE (c : TD) (a b : ED) : ED := fun δ S Q => c δ S fun t S1 => if t = true then a δ S1 Q else b δ S1 Q
theorem e_if (hc : T X c κa) (ha : E X a τa) (hb : E X b τb) : E X (.IfExp c a b pos) (dIfE κa τa τb) := by
  obtain ⟨tc, c1, c2⟩ := hc
  obtain ⟨ta, a1, a2⟩ := ha
  obtain ⟨tb, b1, b2⟩ := hb
  refine ⟨_, pe_ifExp c1 a1 b1, fun σ H δ S w sl Q R k h => ?_⟩
  refine c2 σ H δ S w sl _ _ (fun t H' S' g q => ?_) h
  cases t with
  | true => exact a2 σ H' δ S' g.wd (sl.im (g.im w)) Q R (fun v H2 d S2 g2 r2 q2 => k v H2 d S2 (g.trans g2) r2 q2) q
  | false => exact b2 σ H' δ S' g.wd (sl.im (g.im w)) Q R (fun v H2 d S2 g2 r2 q2 => k v H2 d S2 (g.trans g2) r2 q2) q

/-! ### argument lists, displays, calls -/
def dNil : AD := fun _ S Q => Q [] S
def dCons (a : ED) (r : AD) : AD := fun δ S Q => a δ S fun x S1 => r δ S1 fun xs S2 => Q (x :: xs) S2
variable {α : AD}
theorem a_nil : A X [] dNil := ⟨_, pa_nil, fun σ H δ S w sl Q R k h => k [] H [] S (Go.refl w) rfl h⟩
theorem a_cons (ha : E X e τ) (hr : A X es α) (hs : starEach (e :: es) X.env = (false, eval e X.env) :: starEach es X.env := by rfl) : A X (e :: es) (dCons τ α) := by
  obtain ⟨t, a1, a2⟩ := ha
  obtain ⟨tr, b1, b2⟩ := hr
  refine ⟨_, pa_cons a1 b1 hs, fun σ H δ S w sl Q R k h => ?_⟩
  refine a2 σ H δ S w sl _ _ (fun v H' d S' g r' q => ?_) h
  refine b2 σ H' δ S' g.wd (sl.im (g.im w)) _ _ (fun vs H2 ds S2 g2 r2 q2 => ?_) q
  exact k (v :: vs) H2 (d :: ds) S2 (g.trans g2) ⟨v, vs, rfl, r'.im (g2.im g.wd), r2⟩ q2
def dTup (a : AD) : ED := fun δ S Q => a δ S fun ds S1 => ds.length ≤ sizeLine ∧ Q (.tup ds) S1
theorem e_tup {x1} (h : A X es α) : E X (.Tuple es x1 pos) (dTup α) := by
  obtain ⟨t, a1, a2⟩ := h
  refine ⟨_, pe_tup a1, fun σ H δ S w sl Q R k h => ?_⟩
  refine a2 σ H δ S w sl _ _ (fun vs H' ds S' g r' q => ?_) h
  refine ⟨by rw [← r'.length]; exact q.1, fun p hp => ?_⟩
  have g2 := Go.new (u := .tup vs) g.wd hp
  exact k _ _ (.tup ds) S' (g.trans g2) ⟨p, vs, rfl, SqT.of upd_same, r'.im (g2.im g.wd)⟩ q.2
/-- a new list: as an object; read on the spot -/
def dNew (a : AD) : ED := fun δ S Q => a δ S fun ds S1 => ∀ p, S1 p = none → Q (.rf p) (su S1 p (.lst ds))
theorem Go.own {K : PySem.W.Frag} {S S1 : Sh} {H H1 : Hp} (g : Go K S H S1 H1) {p : Addr} {vs : List V} {ds : List D} (h0 : H p = none) (h : H1 p = some (.lst vs)) (hs : S1 p = none) (r : Reps K H1 ds vs) : Go K S H (su S1 p (.lst ds)) H1 := by
  refine ⟨g.ext, fun a o h1 h2 => ?_, fun q x hq => ?_, g.th⟩
  · rw [su_ne (ne_of_none h1 h0)]
    exact g.out a o h1 h2
  · by_cases e : q = p
    · subst e
      rw [su_same] at hq; cases hq
      exact ⟨_, h, vs, rfl, r⟩
    · rw [su_ne e] at hq
      exact g.wd q x hq
theorem e_new {ν : AD} (h : N X e ν) : E X e (dNew ν) := by
  obtain ⟨t, a1, a2⟩ := h
  refine ⟨_, a1, fun σ H δ S w sl Q R k h => ?_⟩
  refine a2 σ H δ S w sl _ _ (fun p H' vs ds S' g h0 hp hs r' q => ?_) h
  exact k _ H' (.rf p) _ (g.own h0 hp hs r') rfl (q p hs)
theorem l_new {ν : AD} (h : N X e ν) : L X e ν := by
  obtain ⟨t, a1, a2⟩ := h
  refine ⟨_, a1, fun σ H δ S w sl Q R k h => ?_⟩
  exact a2 σ H δ S w sl _ _ (fun p H2 vs ds S2 g h0 hp hs r2 q => k p H2 vs ds S2 g (SqL.of hp) r2 q) h
def dLst (a : AD) : AD := fun δ S Q => a δ S fun ds S1 => ds.length ≤ sizeLine ∧ Q ds S1
theorem n_lst (h : A X es α) : N X (.List es pos) (dLst α) := by
  obtain ⟨t, a1, a2⟩ := h
  refine ⟨_, pe_lst a1, fun σ H δ S w sl Q R k h => ?_⟩
  refine a2 σ H δ S w sl _ _ (fun vs H' ds S' g r' q => ?_) h
  refine ⟨by rw [← r'.length]; exact q.1, fun p hp => ?_⟩
  have g1 := Go.new (u := .lst vs) g.wd hp
  exact k p _ vs ds S' (g.trans g1) (g.th p hp) upd_same (g.wd.free hp) (r'.im (g1.im g.wd)) q.2
/-- a list at a name -/
def dAsL (a : ED) : AD := fun δ S Q => a δ S fun x S1 => match x with
  | .rf p => (match S1 p with | some (.lst ds) => Q ds S1 | _ => False)
  | .frz ds => Q ds S1
  | _ => False
theorem l_of (h : E X e τ) : L X e (dAsL τ) := by
  obtain ⟨t, a1, a2⟩ := h
  refine ⟨_, a1, fun σ H δ S w sl Q R k h => ?_⟩
  refine a2 σ H δ S w sl _ _ (fun v H' d S' g r' q => ?_) h
  cases d <;> first | exact False.elim q | skip
  · obtain ⟨a, vs, rfl, hf, rs⟩ := r'
    exact k a H' vs _ S' g hf.l rs q
  · rename_i p
    obtain rfl := r'
    simp only at q
    cases e : S' p with
    | none => rw [e] at q; exact q.elim
    | some o =>
      cases o with
      | ins _ _ => rw [e] at q; exact q.elim
      | dic _ => rw [e] at q; exact q.elim
      | lst ds =>
        rw [e] at q
        obtain ⟨ho, e1, vs, rfl, rs⟩ := g.wd _ _ e
        exact k p H' vs ds S' g (SqL.of e1) rs q
/-- a list made, as an object -/
def dCB (ρ : CD) (a : AD) : ED := fun δ S Q => a δ S fun ds S1 => ρ ds S1 Q
theorem sim_cb {K : PySem.W.Frag} {r : List V → Hp → VK → Prop} {ρ : CD} {ta : TA} {α : AD} (hr : SimC K r ρ) (ha : SimA K ta α) : SimE K (tCB r ta) (dCB ρ α) := fun σ H δ S w sl Q R k h =>
  ha σ H δ S w sl _ _ (fun vs H1 ds S1 g1 r1 q1 => hr H1 S1 vs ds g1.wd r1 Q R (fun v H2 d S2 g2 r2 q2 => k v H2 d S2 (g1.trans g2) r2 q2) q1) h
theorem e_callB {id : String} {x : Str} {p : Pos} {ρ : CD} (hc : C X (.builtin id) ρ) (hm : X.mg x = none) (ha : A X (e :: es) α) (hg : Gl X x := by rfl) (hv : bootBuiltins x = some (.builtin id) := by decide +kernel) (hn : x ≠ "__name__" := by decide) (hdb : (x == ("__debug__" : Str)) = false := by decide)
    (he : starEach (e :: es) X.env = (false, eval e X.env) :: starEach es X.env := by rfl) (hpl : (backTo pos (starEach es X.env)).any (·.1) = false := by rfl) : E X (.Call (.Name x p) (e :: es) [] pos) (dCB ρ α) := by
  obtain ⟨r, h1, h2⟩ := hc
  obtain ⟨ta, a1, a2⟩ := ha
  exact ⟨_, pe_callB h1 hg hm hv a1 hn hdb he hpl, sim_cb h2 a2⟩
theorem e_callTy {ty : String} {x : Str} {p : Pos} {ρ : CD} (hc : C X (.type ty) ρ) (hm : X.mg x = none) (ha : A X (e :: es) α) (hg : Gl X x := by rfl) (hv : bootBuiltins x = some (.type ty) := by decide +kernel) (hn : x ≠ "__name__" := by decide) (hdb : (x == ("__debug__" : Str)) = false := by decide)
    (he : starEach (e :: es) X.env = (false, eval e X.env) :: starEach es X.env := by rfl) (hpl : (backTo pos (starEach es X.env)).any (·.1) = false := by rfl) : E X (.Call (.Name x p) (e :: es) [] pos) (dCB ρ α) := by
  obtain ⟨r, h1, h2⟩ := hc
  obtain ⟨ta, a1, a2⟩ := ha
  exact ⟨_, pe_callTy h1 hg hm hv a1 hn hdb he hpl, sim_cb h2 a2⟩
/-- a def's promise over data -/
abbrev SpD := List D → Sh → QD → Prop
def lift (K : PySem.W.Frag) (n : Nat) (sp : SpD) : Sp := fun vs H Q _ => ∃ S ds, Wd K H S ∧ Reps K H ds vs ∧ ds.length = n ∧ ∃ Qd : QD, (∀ v H' d S', Go K S H S' H' → Rep K H' d v → Qd d S' → Q v H') ∧ sp ds S Qd
def dCall (n : Nat) (sp : SpD) (dv : List D) (a : AD) : ED := fun δ S Q => a δ S fun ds S1 => (ds ++ dv).length = n ∧ sp (ds ++ dv) S1 Q
theorem sim_call {K : PySem.W.Frag} {n : Nat} {sp : SpD} {ta : TA} {α : AD} {dv : List D} {dvs : List V} (hd : ∀ H, Reps K H dv dvs) (ha : SimA K ta α) : SimE K (tCall (lift K n sp) dvs E0 ta) (dCall n sp dv α) := fun σ H δ S w sl Q R k h =>
  ha σ H δ S w sl _ _ (fun vs H1 ds S1 g1 r1 q1 => ⟨S1, ds ++ dv, g1.wd, r1.append (hd H1), q1.1, Q, fun v H2 d S2 g2 r2 q2 => k v H2 d S2 (g1.trans g2) r2 q2, q1.2⟩) h
theorem e_call {n k : Nat} {sp : SpD} {f : Addr} {fd : FuncData} {ps : List Str} {x : Str} {p : Pos} (F : FnOk X.prog X.w X.K X.mg X.base CX0 k f fd ps (lift X.K n sp)) (hr : Room k X.A) (hm : X.mg x = some (.ref f)) (hk : PySem.W.keepIn X.K (.ref f) = true) (hb : Binds X.K fd ps [])
    (ha : A X (e :: es) α) (hg : Gl X x := by rfl) (hdb : (x == ("__debug__" : Str)) = false := by decide) (he : starEach (e :: es) X.env = (false, eval e X.env) :: starEach es X.env := by rfl) (hpl : (backTo pos (starEach es X.env)).any (·.1) = false := by rfl) :
    E X (.Call (.Name x p) (e :: es) [] pos) (dCall n sp [] α) := by
  obtain ⟨ta, a1, a2⟩ := ha
  exact ⟨_, pe_call F hr hg hm hk hb .nil pass0 a1 hdb he hpl, sim_call (fun _ => rfl) a2⟩
theorem e_call0 {k : Nat} {sp : SpD} {f : Addr} {fd : FuncData} {ps : List Str} {x : Str} {p : Pos} (F : FnOk X.prog X.w X.K X.mg X.base CX0 k f fd ps (lift X.K 0 sp)) (hr : Room k X.A) (hm : X.mg x = some (.ref f)) (hk : PySem.W.keepIn X.K (.ref f) = true) (hb : Binds X.K fd ps [])
    (hg : Gl X x := by rfl) (hdb : (x == ("__debug__" : Str)) = false := by decide) : E X (.Call (.Name x p) [] [] pos) (dCall 0 sp [] dNil) :=
  ⟨_, pe_call0 F hr hg hm hk hb .nil pass0 hdb, sim_call (fun _ => rfl) fun σ H δ S w sl Q R k h => k [] H [] S (Go.refl w) rfl h⟩

/-! ### statements -/
def dNext : SD := fun F δ S => F.nx δ S
def dSeq (t u : SD) : SD := fun F δ S => t { F with nx := u F } δ S
def dBreak : SD := fun F δ S => F.bk δ S
def dCont : SD := fun F δ S => F.ct δ S
def dDrop (a : ED) : SD := fun F δ S => a δ S fun _ S1 => F.nx δ S1
def dRet (a : ED) : SD := fun F δ S => a δ S F.rt
def dRetN : SD := fun F _ S => F.rt .non S
def dIfS (c : TD) (t u : SD) : SD := fun F δ S => c δ S fun b S1 => if b = true then t F δ S1 else u F δ S1
def dNever : SD := fun _ _ _ => False
variable {st : Stmt} {sts : List Stmt} {ξ υ : SD}
theorem b_nil : B X [] dNext := ⟨_, pss_nil, fun σ H δ S w sl F G hn hr hb hc h => hn σ H δ S (Go.refl w) sl h⟩
theorem b_cons (h1 : S1 X st ξ) (h2 : B X sts υ) : B X (st :: sts) (dSeq ξ υ) := by
  obtain ⟨t, a1, a2⟩ := h1
  obtain ⟨u, b1, b2⟩ := h2
  refine ⟨_, pss_cons a1 b1, fun σ H δ S w sl F G hn hr hb hc h => ?_⟩
  refine a2 σ H δ S w sl { F with nx := υ F } { G with nx := u G } (fun σ' H' δ' S' g sl' q => ?_) hr hb hc h
  exact b2 σ' H' δ' S' g.wd sl' F G (fun σ2 H2 δ2 S2 g2 => hn σ2 H2 δ2 S2 (g.trans g2)) (fun v H2 d S2 g2 => hr v H2 d S2 (g.trans g2)) (fun σ2 H2 δ2 S2 g2 => hb σ2 H2 δ2 S2 (g.trans g2)) (fun σ2 H2 δ2 S2 g2 => hc σ2 H2 δ2 S2 (g.trans g2)) q
theorem b_one (h1 : S1 X st ξ) : B X [st] ξ := by
  obtain ⟨t, a1, a2⟩ := h1
  exact ⟨_, pss_one a1, a2⟩
theorem s_pass : S1 X (.Pass pos) dNext := ⟨_, ps_pass, fun σ H δ S w sl F G hn hr hb hc h => hn σ H δ S (Go.refl w) sl h⟩
theorem s_break : S1 X (.Break pos) dBreak := ⟨_, ps_break, fun σ H δ S w sl F G hn hr hb hc h => hb σ H δ S (Go.refl w) sl h⟩
theorem s_cont : S1 X (.Continue pos) dCont := ⟨_, ps_continue, fun σ H δ S w sl F G hn hr hb hc h => hc σ H δ S (Go.refl w) sl h⟩
theorem s_expr (he : E X e τ) (hs : swapsWith e none pos.line X.env = pure false := by rfl) : S1 X (.Expr e pos) (dDrop τ) := by
  obtain ⟨t, a1, a2⟩ := he
  exact ⟨_, ps_expr a1 hs, fun σ H δ S w sl F G hn hr hb hc h => a2 σ H δ S w sl _ _ (fun v H' d S' g r' q => hn σ H' δ S' g (sl.im (g.im w)) q) h⟩
theorem s_ret (he : E X e τ) : S1 X (.Return (some e) pos) (dRet τ) := by
  obtain ⟨t, a1, a2⟩ := he
  exact ⟨_, ps_ret a1, fun σ H δ S w sl F G hn hr hb hc h => a2 σ H δ S w sl _ _ (fun v H' d S' g r' q => hr v H' d S' g r' q) h⟩
theorem s_retN : S1 X (.Return none pos) dRetN := ⟨_, ps_retN, fun σ H δ S w sl F G hn hr hb hc h => hr .non H .non S (Go.refl w) rfl h⟩
theorem s_if {κ : TD} {yes no : List Stmt} (hc : T X c κ) (ha : B X yes ξ) (hb : B X no υ) : S1 X (.If c yes no pos) (dIfS κ ξ υ) := by
  obtain ⟨tc, c1, c2⟩ := hc
  obtain ⟨ta, a1, a2⟩ := ha
  obtain ⟨tb, b1, b2⟩ := hb
  refine ⟨_, ps_if c1 a1 b1, fun σ H δ S w sl F G hn hr hb hc h => ?_⟩
  refine c2 σ H δ S w sl _ _ (fun t H' S' g q => ?_) h
  cases t with
  | true => exact a2 σ H' δ S' g.wd (sl.im (g.im w)) F G (fun σ2 H2 δ2 S2 g2 => hn σ2 H2 δ2 S2 (g.trans g2)) (fun v H2 d S2 g2 => hr v H2 d S2 (g.trans g2)) (fun σ2 H2 δ2 S2 g2 => hb σ2 H2 δ2 S2 (g.trans g2)) (fun σ2 H2 δ2 S2 g2 => hc σ2 H2 δ2 S2 (g.trans g2)) q
  | false => exact b2 σ H' δ S' g.wd (sl.im (g.im w)) F G (fun σ2 H2 δ2 S2 g2 => hn σ2 H2 δ2 S2 (g.trans g2)) (fun v H2 d S2 g2 => hr v H2 d S2 (g.trans g2)) (fun σ2 H2 δ2 S2 g2 => hb σ2 H2 δ2 S2 (g.trans g2)) (fun σ2 H2 δ2 S2 g2 => hc σ2 H2 δ2 S2 (g.trans g2)) q
theorem s_never : S1 X st dNever := ⟨_, ps_never, fun _ _ _ _ _ _ _ _ _ _ _ _ h => h.elim⟩
def dAsg (a : ED) (g : GD) : SD := fun F δ S => a δ S fun x S1 => g x δ S1 F.nx
def dName (i : Nat) : GD := fun d δ S Q => Q (δ.set i (some d)) S
theorem g_name (i : Nat) {x : Str} (hN : X.N.Nodup) (hi : X.N[i]? = some x := by rfl) (hx : Loc X.env.scope x := by first | exact Or.inl rfl | exact Or.inr rfl) (hf : X.fn x = true ∨ X.env.scope.names.lookup x = some .local := by first | exact .inl rfl | exact .inr rfl | assumption) : G X (.Name x pos) (dName i) :=
  ⟨_, pg_name hN hi hx hf, fun σ H δ S v d w sl r Q R k h => k _ H _ S (Go.refl w) (sl.set i r) h⟩
theorem s_asg {tg e : Expr} {γ : GD} (he : E X e τ) (hg : G X tg γ) (hs : swapsWithSole [tg] e pos.line X.env = pure false := by rfl) (hw : swappedStores [tg] e X.env = pure none := by rfl)
    (h1 : (assignEach [tg] X.env).map (·.2) = [assign tg X.env] := by rfl) : S1 X (.Assign [tg] e pos) (dAsg τ γ) := by
  obtain ⟨t, a1, a2⟩ := he
  obtain ⟨tg', g1, g2⟩ := hg
  refine ⟨_, ps_asg a1 g1 hs hw h1, fun σ H δ S w sl F G hn hr hb hc h => ?_⟩
  refine a2 σ H δ S w sl _ _ (fun v H' d S' g r' q => ?_) h
  exact g2 σ H' δ S' v d g.wd (sl.im (g.im w)) r' _ _ (fun σ2 H2 δ2 S2 g' sl2 q2 => hn σ2 H2 δ2 S2 (g.trans g') sl2 q2) q
end
end DL

set_option Elab.async false
set_option linter.all false
set_option maxRecDepth 100000
namespace DL
open PySem PySem.Spec L2

/-! ### loops -/
def dLoop (γ : GD) (τ : SD) (F : EndsD) (ck : Sh → Prop) : List D → Sl → Sh → Prop
  | [], δ, S => F.nx δ S
  | x :: xs, δ, S => γ x δ S fun δ1 S1 => τ { F with nx := fun δ2 S2 => ck S2 ∧ dLoop γ τ F ck xs δ2 S2, ct := fun δ2 S2 => ck S2 ∧ dLoop γ τ F ck xs δ2 S2, bk := F.nx } δ1 S1
def dFor (ι : ID) (γ : GD) (τ : SD) : SD := fun F δ S => ι δ S fun xs ck S1 => dLoop γ τ F ck xs δ S1
/-- while: within so many turns -/
def dWh (κ : TD) (τ : SD) (F : EndsD) : Nat → Sl → Sh → Prop
  | 0, _, _ => False
  | n + 1, δ, S => κ δ S fun b S1 => if b = true then τ { F with nx := dWh κ τ F n, ct := dWh κ τ F n, bk := F.nx } δ S1 else F.nx δ S1
def dWhile (κ : TD) (τ : SD) : SD := fun F δ S => ∃ n, dWh κ τ F n δ S
theorem drop_cons {α : Type} {xs : List α} {i : Nat} (h : i < xs.length) : xs.drop i = xs[i] :: xs.drop (i + 1) := List.drop_eq_getElem_cons h
section
variable {K : PySem.W.Frag}
theorem sim_for {wi : TI} {g : TG} {tb : TS} {ι : ID} {γ : GD} {τ : SD} (hi : SimI K wi ι) (hg : SimG K g γ) (hb : SimS K tb τ) : SimS K (tFor wi g tb) (dFor ι γ τ) := by
  intro σ H δ S w sl F G hn hr hbk hct h
  refine hi σ H δ S w sl _ _ (fun J H1 S1 xs ck g1 hJ hck q => ?_) h
  refine ⟨fun i m σ' H' => ∃ δ' S', Go K S1 H1 S' H' ∧ SlOk K H' σ' δ' ∧ ck S' ∧ i ≤ xs.length ∧ m = xs.length - i ∧ dLoop γ τ F ck (xs.drop i) δ' S', ⟨xs.length, δ, S1, Go.refl g1.wd, sl.im (g1.im w), hck, Nat.zero_le _, rfl, by simpa using q⟩, ?_⟩
  rintro i m σ' H' ⟨δ', S', g', sl', ck', hi', rfl, q'⟩
  obtain ⟨j1, j2⟩ := hJ S' H' (g'.kp g1.wd) ck' i
  by_cases hlt : i < xs.length
  · obtain ⟨go, yl⟩ := j1 xs[i] (by simp [hlt])
    rw [drop_cons hlt] at q'
    refine .inr ⟨go, fun σ2 H2 => ∃ δ2 S2, Go K S1 H1 S2 H2 ∧ SlOk K H2 σ2 δ2 ∧ ck S2 ∧ dLoop γ τ F ck (xs.drop (i + 1)) δ2 S2, fun σ2 H2 ⟨δ2, S2, g2, sl2, ck2, q2⟩ => ⟨xs.length - (i + 1), by omega, δ2, S2, g2, sl2, ck2, hlt, rfl, q2⟩, fun x H2 y => ?_⟩
    obtain ⟨g2, rx⟩ := yl x H2 y
    refine hg σ' H2 δ' S' x xs[i] g2.wd (sl'.im (g2.im g'.wd)) rx _ _ (fun σ3 H3 δ3 S3 g3 sl3 q3 => ?_) q'
    have g13 : Go K S1 H1 S3 H3 := (g'.trans g2).trans g3
    refine hb σ3 H3 δ3 S3 g3.wd sl3 _ _ (fun σ4 H4 δ4 S4 g4 sl4 q4 => ?_) (fun v H4 d S4 g4 r4 q4 => ?_) (fun σ4 H4 δ4 S4 g4 sl4 q4 => ?_) (fun σ4 H4 δ4 S4 g4 sl4 q4 => ?_) q3
    · exact ⟨δ4, S4, g13.trans g4, sl4, q4.1, q4.2⟩
    · exact hr v H4 d S4 (g1.trans (g13.trans g4)) r4 q4
    · exact hn σ4 H4 δ4 S4 (g1.trans (g13.trans g4)) sl4 q4
    · exact ⟨δ4, S4, g13.trans g4, sl4, q4.1, q4.2⟩
  · have e : xs.drop i = [] := List.drop_eq_nil_of_le (by omega)
    rw [e] at q'
    exact .inl ⟨j2 (by omega), hn σ' H' δ' S' (g1.trans g') sl' q'⟩
theorem sim_while {tc : TT} {tb : TS} {κ : TD} {τ : SD} (hc : SimT K tc κ) (hb : SimS K tb τ) : SimS K (tWhile tc tb) (dWhile κ τ) := by
  intro σ H δ S w sl F G hn hr hbk hct h
  obtain ⟨n, h⟩ := h
  refine ⟨fun m σ' H' => ∃ δ' S', Go K S H S' H' ∧ SlOk K H' σ' δ' ∧ dWh κ τ F m δ' S', ⟨n, δ, S, Go.refl w, sl, h⟩, ?_⟩
  rintro m σ' H' ⟨δ', S', g', sl', q'⟩
  cases m with
  | zero => exact False.elim q'
  | succ m =>
    refine hc σ' H' δ' S' g'.wd sl' _ _ (fun b H2 S2 g2 q2 => ?_) q'
    cases b with
    | true =>
      rw [if_pos rfl] at q2 ⊢
      refine ⟨fun σ3 H3 => ∃ δ3 S3, Go K S H S3 H3 ∧ SlOk K H3 σ3 δ3 ∧ dWh κ τ F m δ3 S3, fun σ3 H3 q3 => ⟨m, Nat.lt_succ_self m, q3⟩, ?_⟩
      have gg := g'.trans g2
      refine hb σ' H2 δ' S2 g2.wd (sl'.im (g2.im g'.wd)) _ _ (fun σ4 H4 δ4 S4 g4 sl4 q4 => ?_) (fun v H4 d S4 g4 r4 q4 => ?_) (fun σ4 H4 δ4 S4 g4 sl4 q4 => ?_) (fun σ4 H4 δ4 S4 g4 sl4 q4 => ?_) q2
      · exact ⟨δ4, S4, gg.trans g4, sl4, q4⟩
      · exact hr v H4 d S4 (gg.trans g4) r4 q4
      · exact hn σ4 H4 δ4 S4 (gg.trans g4) sl4 q4
      · exact ⟨δ4, S4, gg.trans g4, sl4, q4⟩
    | false =>
      rw [if_neg Bool.false_ne_true] at q2 ⊢
      exact hn σ' H2 δ' S2 (g'.trans g2) (sl'.im (g2.im g'.wd)) q2
end

/-! ### comprehensions -/
def dWipe (δ : Sl) : List Nat → Sl
  | [] => δ
  | v :: vs => (dWipe δ vs).set v none
theorem SlOk.wiped {K : PySem.W.Frag} {H : Hp} {σ : L2.St} {δ : Sl} (h : SlOk K H σ δ) : ∀ vs : List Nat, SlOk K H (wipe σ vs) (dWipe δ vs)
  | [] => h
  | v :: vs => by
    have ih := SlOk.wiped h vs
    refine ⟨by unfold wipe dWipe; rw [List.length_set, List.length_set]; exact ih.1, fun i d e => ?_⟩
    unfold dWipe at e
    unfold wipe
    by_cases z : v = i
    · subst z
      rw [List.getElem?_set_self'] at e
      cases hq : (dWipe δ vs)[v]? with
      | none => rw [hq] at e; cases e
      | some x => rw [hq] at e; cases e
    · rw [List.getElem?_set_ne z] at e ⊢
      exact ih.2 i d e
/-- the turns of a comprehension: what is made so far, what is left -/
def dComp (γ : GD) (κ : TD) (τ : ED) (δ : Sl) (ck : Sh → Prop) (Q : List D → Sh → Prop) : List D → List D → Sh → Prop
  | [], acc, S => Q acc S
  | x :: xs, acc, S => γ x δ S fun δ1 S1 => κ δ1 S1 fun b S2 => if b = true then τ δ1 S2 fun d S3 => acc.length < sizeLine ∧ ck S3 ∧ dComp γ κ τ δ ck Q xs (acc ++ [d]) S3 else ck S2 ∧ dComp γ κ τ δ ck Q xs acc S2
def dLc (ι : ID) (γ : GD) (κ : TD) (τ : ED) (vs : List Nat) : AD := fun δ S Q => ι δ S fun xs ck S1 => dComp γ κ τ (dWipe δ vs) ck Q xs [] S1
/-- a comprehension's target: it stores in own places alone -/
def SimGw (K : PySem.W.Frag) (vs : List Nat) (t : TG) (τ : GD) : Prop := ∀ σ H δ S v d, Wd K H S → SlOk K H (wipe σ vs) δ → Rep K H d v → ∀ (Q : Sl → Sh → Prop) (R : L2.St → Hp → Prop), (∀ σ' H' δ' S', wipe σ' vs = wipe σ vs → Go K S H S' H' → SlOk K H' σ' δ' → Q δ' S' → R σ' H') → τ d δ S Q → t v (wipe σ vs) H R
theorem sim_lc {K : PySem.W.Frag} {wi : TI} {g : TG} {tt : TT} {te : TE} {ι : ID} {γ : GD} {κ : TD} {τ : ED} {vs : List Nat} (hi : SimI K wi ι) (hg : SimGw K vs g γ) (ht : SimT K tt κ) (he : SimE K te τ) : SimN K (tLc wi g tt te vs) (dLc ι γ κ τ vs) := by
  intro σ H δ S w sl Q R k h
  refine hi σ H δ S w sl _ _ (fun J H1 S1 xs ck g1 hJ hck q => ?_) h
  intro p hp
  have hS1 : S1 p = none := g1.wd.free hp
  refine ⟨fun i m H' => ∃ S' acc vacc, Go K S1 H1 S' H' ∧ ck S' ∧ i ≤ xs.length ∧ m = xs.length - i ∧ H' p = some (.lst vacc) ∧ S' p = none ∧ Reps K H' acc vacc ∧ dComp γ κ τ (dWipe δ vs) ck Q (xs.drop i) acc S', ⟨xs.length, S1, [], [], Go.new g1.wd hp, hck, Nat.zero_le _, rfl, upd_same, hS1, rfl, by simpa using q⟩, ?_⟩
  rintro i m H' ⟨S', acc, vacc, g', ck', hi', rfl, hp', hs', ra, q'⟩
  have slw : SlOk K H' (wipe σ vs) (dWipe δ vs) := (((sl.im (g1.im w)).im (g'.im g1.wd)).wiped vs)
  obtain ⟨j1, j2⟩ := hJ S' H' (g'.kp g1.wd) ck' i
  by_cases hlt : i < xs.length
  · obtain ⟨go, yl⟩ := j1 xs[i] (by simp [hlt])
    rw [drop_cons hlt] at q'
    refine .inr ⟨go, fun H2 => ∃ S2 acc2 vacc2, Go K S1 H1 S2 H2 ∧ ck S2 ∧ H2 p = some (.lst vacc2) ∧ S2 p = none ∧ Reps K H2 acc2 vacc2 ∧ dComp γ κ τ (dWipe δ vs) ck Q (xs.drop (i + 1)) acc2 S2, fun H2 ⟨S2, acc2, vacc2, g2, ck2, a2, b2, c2, q2⟩ => ⟨xs.length - (i + 1), by omega, S2, acc2, vacc2, g2, ck2, hlt, rfl, a2, b2, c2, q2⟩, fun x H2 y => ?_⟩
    obtain ⟨g2, rx⟩ := yl x H2 y
    refine hg σ H2 _ S' x xs[i] g2.wd (slw.im (g2.im g'.wd)) rx _ _ (fun σ3 H3 δ3 S3 hw g3 sl3 q3 => ⟨hw, ?_⟩) q'
    refine ht σ3 H3 δ3 S3 g3.wd sl3 _ _ (fun b H4 S4 g4 q4 => ?_) q3
    have g24 : Go K S' H' S4 H4 := (g2.trans g3).trans g4
    cases b with
    | true =>
      rw [if_pos rfl] at q4 ⊢
      refine he σ3 H4 δ3 S4 g4.wd (sl3.im (g4.im g3.wd)) _ _ (fun v H5 d S5 g5 r5 q5 => ?_) q4
      have g25 := g24.trans g5
      have hp5 : H5 p = some (.lst vacc) := g25.ext p _ hp' hs'
      have hs5 : S5 p = none := g25.out p _ hp' hs'
      have ra5 := ra.im (g25.im g'.wd)
      refine ⟨vacc, hp5, by rw [← ra.length]; exact q5.1, S5, acc ++ [d], vacc ++ [v], ?_, q5.2.1, upd_same, hs5, ?_, q5.2.2⟩
      · have g15 := g'.trans g25
        refine ⟨fun a o h1 h2 => ?_, g15.out, fun a o h1 => ?_, fun a h1 => g15.th a (upd_none h1)⟩
        · rw [upd_ne (ne_of_none h1 hp)]
          exact g15.ext a o h1 h2
        · have na : a ≠ p := fun z => by rw [z, hs5] at h1; cases h1
          obtain ⟨ho, e1, r1⟩ := g15.wd a o h1
          refine ⟨ho, by rw [upd_ne na]; exact e1, r1.im ?_⟩
          exact ⟨fun b ys r => by
            rcases r with (r | ⟨o, r⟩) | r
            · exact .inl (.inl (by rw [upd_ne (ne_of r hp5 (by intro z; cases z))]; exact r))
            · exact .inl (.inr ⟨o, by rw [upd_ne (ne_of r hp5 (by intro z; cases z))]; exact r⟩)
            · exact .inr r, fun b ys r => by
            rcases r with ⟨o, r⟩ | r
            · exact .inl ⟨o, by rw [upd_ne (ne_of r hp5 (by intro z; cases z))]; exact r⟩
            · exact .inr r, fun b f r => by rw [upd_ne (ne_of r hp5 (by intro z; cases z))]; exact r⟩
      · have im5 : Im K H5 (upd H5 p (.lst (vacc ++ [v]))) := ⟨fun b ys r => by
            rcases r with (r | ⟨o, r⟩) | r
            · exact .inl (.inl (by rw [upd_ne (ne_of r hp5 (by intro z; cases z))]; exact r))
            · exact .inl (.inr ⟨o, by rw [upd_ne (ne_of r hp5 (by intro z; cases z))]; exact r⟩)
            · exact .inr r, fun b ys r => by
            rcases r with ⟨o, r⟩ | r
            · exact .inl ⟨o, by rw [upd_ne (ne_of r hp5 (by intro z; cases z))]; exact r⟩
            · exact .inr r, fun b f r => by rw [upd_ne (ne_of r hp5 (by intro z; cases z))]; exact r⟩
        exact (ra5.append (Reps.one r5)).im im5
    | false =>
      rw [if_neg Bool.false_ne_true] at q4 ⊢
      exact ⟨S4, acc, vacc, g'.trans g24, q4.1, g24.ext p _ hp' hs', g24.out p _ hp' hs', ra.im (g24.im g'.wd), q4.2⟩
  · have e : xs.drop i = [] := List.drop_eq_nil_of_le (by omega)
    rw [e] at q'
    exact .inl ⟨j2 (by omega), k p H' vacc acc S' (g1.trans g') (g1.th p hp) hp' hs' ra q'⟩

/-! ### the rules -/
section
variable {X : Cx} {a b c e : Expr} {pos : Pos} {τ : ED} {ι : ID} {γ : GD} {κ : TD} {ξ : SD} {tg iter : Expr} {body : List Stmt}
theorem s_for (hi : I X tg iter ι) (hg : G X tg γ) (hb : B X body ξ) (hp : PassesOwn (model X.prog X.w) X.A X.env X.xe := by exact PassesOwn.never) (hc : X.calm = true := by rfl) (hs : ∀ x, foldedSetIterable iter X.env x = pure x := by intro _; rfl) :
    S1 X (.For tg iter body [] pos) (dFor ι γ ξ) := by
  obtain ⟨ti, i1, i2⟩ := hi
  obtain ⟨g', g1, g2⟩ := hg
  obtain ⟨tb, b1, b2⟩ := hb
  exact ⟨_, ps_for hp hc i1 g1 b1 hs, sim_for i2 g2 b2⟩
theorem s_while {c : Expr} (hc : T X c κ) (hb : B X body ξ) (hp : PassesOwn (model X.prog X.w) X.A X.env X.xe := by exact PassesOwn.never) : S1 X (.While c body [] pos) (dWhile κ ξ) := by
  obtain ⟨tc, c1, c2⟩ := hc
  obtain ⟨tb, b1, b2⟩ := hb
  exact ⟨_, ps_while hp c1 b1, sim_while c2 b2⟩
/-- a comprehension's target, by the model's rules in any block of it -/
def Gw (X : Cx) (scope : Scope) (vs : List Nat) (tg : Expr) (γ : GD) : Prop := ∃ g, (∀ (s : Shared) (H : Hp) (C : Addr) (cl : List (Str × Addr)) (fp : List Addr), PG (X.blk s H scope (compEnvC scope cl C X.env) fp) tg g) ∧ SimGw X.K vs g γ
def Tw (X : Cx) (scope : Scope) (ifs : List Expr) (κ : TD) : Prop := ∃ t, (∀ (s : Shared) (H : Hp) (C : Addr) (cl : List (Str × Addr)) (fp : List Addr), PTs (X.blk s H scope (compEnvC scope cl C X.env) fp) ifs t) ∧ SimT X.K t κ
theorem wipe_set_own {σ : L2.St} {x : V} : ∀ {vs : List Nat} {i : Nat}, i ∈ vs → wipe ((wipe σ vs).set i (some x)) vs = wipe σ vs := by
  have key : ∀ (vs : List Nat) (τ : L2.St) (j : Nat), (wipe τ vs)[j]? = if j ∈ vs then (if j < τ.length then some none else none) else τ[j]? := by
    intro vs
    induction vs with
    | nil => intro τ j; simp [wipe]
    | cons v vs ih =>
      intro τ j
      unfold wipe
      by_cases h : v = j
      · subst h
        rw [List.getElem?_set_self', ih]
        by_cases h2 : v ∈ vs
        · simp [h2]
        · simp [h2]
          by_cases h3 : v < τ.length
          · simp [h3]
          · simp [h3]
      · rw [List.getElem?_set_ne h, ih]
        have : j ≠ v := fun z => h z.symm
        simp [this]
  intro vs i hi
  apply List.ext_getElem?
  intro j
  rw [key, key]
  by_cases h : j ∈ vs
  · simp only [h, if_true, List.length_set, wipe_length]
  · simp only [h, if_false]
    have : i ≠ j := fun z => h (z ▸ hi)
    rw [List.getElem?_set_ne this, key]
    simp [h]
theorem gw_name (i : Nat) {x : Str} {scope : Scope} {vs : List Nat} (hN : X.N.Nodup) (hi : X.N[i]? = some x := by rfl) (hm : i ∈ vs := by decide)
    (hx : ∀ (s : Shared) (H : Hp) (C : Addr) (cl : List (Str × Addr)) (fp : List Addr), Loc (X.blk s H scope (compEnvC scope cl C X.env) fp).env.scope x := by intro _ _ _ _ _; first | exact Or.inl rfl | exact Or.inr rfl) 
    (hf : ∀ (s : Shared) (H : Hp) (C : Addr) (cl : List (Str × Addr)) (fp : List Addr), (X.blk s H scope (compEnvC scope cl C X.env) fp).fn x = true ∨ (X.blk s H scope (compEnvC scope cl C X.env) fp).env.scope.names.lookup x = some .local := by intro _ _ _ _ _; first | exact .inr rfl | exact .inl rfl) : Gw X scope vs (.Name x pos) (dName i) :=
  ⟨gName i, fun s H C cl fp => pg_name hN hi (hx s H C cl fp) (hf s H C cl fp), fun σ H δ S v d w sl r Q R k h => k _ H _ S (wipe_set_own hm) (Go.refl w) (sl.set i r) h⟩
def dYes : TD := fun _ S Q => Q true S
theorem tw_nil {scope : Scope} : Tw X scope [] dYes := ⟨tYes, fun _ _ _ _ _ => pts_nil, fun σ H δ S w sl Q R k h => k true H S (Go.refl w) h⟩
theorem tw_one {scope : Scope} {c : Expr} (h : ∀ (s : Shared) (H : Hp) (C : Addr) (cl : List (Str × Addr)) (fp : List Addr), T (X.blk s H scope (compEnvC scope cl C X.env) fp) c κ) : Tw X scope [c] κ :=
  ⟨canT X.K κ, fun s H C cl fp => pts_one (h s H C cl fp).can, sim_canT⟩
theorem n_lc {elt : Expr} {ifs : List Expr} {scope : Scope} {own : List (Str × Nat)} (hN : X.N.Nodup) (hi : I X tg iter ι) (ok : blkC X.N X.env.scope scope own = true)
    (hg : Gw X scope (own.map (·.2)) tg γ) (ht : Tw X scope ifs κ) (he : ∀ (s : Shared) (H : Hp) (C : Addr) (cl : List (Str × Addr)) (fp : List Addr), E (X.blk s H scope (compEnvC scope cl C X.env) fp) elt τ)
    (hc : X.calm = true := by rfl) (hs : ∀ x, foldedSetIterable iter X.env x = pure x := by intro _; rfl) : N X (.ListComp elt [⟨tg, iter, ifs, 0⟩] scope pos) (dLc ι γ κ τ (own.map (·.2))) := by
  obtain ⟨ti, i1, i2⟩ := hi
  obtain ⟨g, g1, g2⟩ := hg
  obtain ⟨t, t1, t2⟩ := ht
  exact ⟨_, pe_lc hc hN i1 (blkOk_by ok) g1 t1 (fun s H C cl fp => (he s H C cl fp).can) hs, sim_lc i2 g2 t2 sim_can⟩
end
end DL

set_option Elab.async false
set_option linter.all false
set_option maxRecDepth 100000
namespace DL
open PySem PySem.Spec L2
section
variable {X : Cx} {a b c e o : Expr} {es : List Expr} {pos p2 : Pos} {τ τa τb τc : ED} {α ν ν' : AD} {ι : ID} {γ : GD} {κ : TD} {ξ : SD} {tg iter : Expr}

/-! ### is of bools, with anything on the left -/
def dIsB : R2D := fun x y S Q => match y with | .bl b => Q (.bl (match x with | .bl a => decide (a = b) | _ => false)) S | _ => False
def dNotB : R2D := fun x y S Q => match y with | .bl b => Q (.bl (match x with | .bl a => !decide (a = b) | _ => true)) S | _ => False
def rIsBV : R2 := fun x y H Q => ∃ b : Bool, y = .bl b ∧ Q (.bl (match x with | .bl a => decide (a = b) | _ => false)) H
def rNotBV : R2 := fun x y H Q => ∃ b : Bool, y = .bl b ∧ Q (.bl (match x with | .bl a => !decide (a = b) | _ => true)) H
theorem plain_bool (v : Value) (b : Bool) (x : V) (r : RelV x v) : plainIs v (.bool b) = true := by
  cases x <;> first | (obtain rfl := r; rfl) | (obtain ⟨t, rfl⟩ := r; rfl)
theorem op_isBV : OpR X (compareOp .Is) rIsBV := by
  intro pins s σ H x y v u Q I rx ry h
  obtain ⟨b, rfl, q⟩ := h
  cases (show u = Value.bool b from ry)
  refine wpAny_is_plain (plain_bool v b x rx) ⟨_, H, I, ?_, q⟩
  cases x <;> first | (obtain rfl := rx; rfl) | (obtain ⟨t, rfl⟩ := rx; rfl) | skip
  rename_i c
  obtain rfl := rx
  show Value.bool _ = Value.bool _
  congr 1
  cases c <;> cases b <;> rfl
theorem op_notBV : OpR X (compareOp .IsNot) rNotBV := by
  intro pins s σ H x y v u Q I rx ry h
  obtain ⟨b, rfl, q⟩ := h
  cases (show u = Value.bool b from ry)
  refine wpAny_isNot_plain (plain_bool v b x rx) ⟨_, H, I, ?_, q⟩
  cases x <;> first | (obtain rfl := rx; rfl) | (obtain ⟨t, rfl⟩ := rx; rfl) | skip
  rename_i c
  obtain rfl := rx
  show Value.bool _ = Value.bool _
  congr 1
  cases c <;> cases b <;> rfl
theorem o_isB : O X (compareOp .Is) dIsB := by
  refine ⟨_, op_isBV, fun H S x y dx dy w rx ry Q R k q => ?_⟩
  cases dy <;> first | exact False.elim q | skip
  obtain rfl := ry
  refine ⟨_, rfl, k _ H _ S (Go.refl w) ?_ q⟩
  cases dx <;> first | (obtain rfl := rx; rfl) | (obtain ⟨_, _, rfl, _⟩ := rx; rfl)
theorem o_notB : O X (compareOp .IsNot) dNotB := by
  refine ⟨_, op_notBV, fun H S x y dx dy w rx ry Q R k q => ?_⟩
  cases dy <;> first | exact False.elim q | skip
  obtain rfl := ry
  refine ⟨_, rfl, k _ H _ S (Go.refl w) ?_ q⟩
  cases dx <;> first | (obtain rfl := rx; rfl) | (obtain ⟨_, _, rfl, _⟩ := rx; rfl)

/-! ### subscripts -/
/-- what is to be subscripted at S -/
def dAt (x : D) (i : Int) (S : Sh) (Q : QD) : Prop := match x with
  | .tup ds => (match atI ds i with | some d => Q d S | none => False)
  | .frz ds => (match atI ds i with | some d => Q d S | none => False)
  | .str s => s.length ≤ sizeLine ∧ (match atI s i with | some c => Q (.str [c]) S | none => False)
  | .rf p => (match S p with | some (.lst ds) => (match atI ds i with | some d => Q d S | none => False) | _ => False)
  | _ => False
def dIx : R2D := fun x y S Q => match y with | .int i => dAt x i S Q | _ => False
theorem atI_rep {K : PySem.W.Frag} {H : Hp} {ds : List D} {vs : List V} {i : Int} {d : D} (r : Reps K H ds vs) (h : atI ds i = some d) : ∃ v, atI vs i = some v ∧ Rep K H d v := by
  unfold atI at h ⊢
  rw [r.length] at h
  cases e : ixN vs.length i with
  | none => rw [e] at h; cases h
  | some j =>
    rw [e] at h
    exact r.get (i := j) h
theorem e_ix (ha : E X a τa) (hb : E X b τb) (hs : PlainIx b := by exact fun _ _ => rfl) : E X (.Subscript a b pos) (dOp dIx τa τb) := by
  obtain ⟨ta, a1, a2⟩ := ha
  obtain ⟨tb, b1, b2⟩ := hb
  refine ⟨_, pe_ix ix_seq a1 b1 hs, sim_op (fun H S x y dx dy w rx ry Q R k q => ?_) a2 b2⟩
  cases dy <;> first | exact False.elim q | skip
  rename_i i
  obtain rfl := ry
  cases dx <;> first | exact False.elim q | skip
  · rename_i s
    obtain rfl := rx
    obtain ⟨q0, q⟩ := q
    refine .inr (.inr ?_)
    cases e : atI s i with
    | none => rw [e] at q; exact q.elim
    | some c =>
      rw [e] at q
      exact ⟨_, i, c, rfl, rfl, by rw [str_len]; exact q0, by simpa using e, k _ H (.str [c]) S (Go.refl w) rfl q⟩
  · rename_i ds
    obtain ⟨p, vs, rfl, hp, rs⟩ := rx
    unfold dIx dAt at q
    simp only at q
    cases e : atI ds i with
    | none => rw [e] at q; exact q.elim
    | some d =>
      rw [e] at q
      obtain ⟨v, e1, r1⟩ := atI_rep rs e
      exact .inr (.inl ⟨p, vs, i, v, rfl, rfl, hp, e1, k v H d S (Go.refl w) r1 q⟩)
  · rename_i ds
    obtain ⟨p, vs, rfl, hp, rs⟩ := rx
    unfold dIx dAt at q
    simp only at q
    cases e : atI ds i with
    | none => rw [e] at q; exact q.elim
    | some d =>
      rw [e] at q
      obtain ⟨v, e1, r1⟩ := atI_rep rs e
      exact .inl ⟨p, vs, i, v, rfl, rfl, hp.l, e1, k v H d S (Go.refl w) r1 q⟩
  · rename_i p
    obtain rfl := rx
    unfold dIx dAt at q
    simp only at q
    split at q
    · rename_i ds es
      cases e : atI ds i with
      | none => rw [e] at q; exact q.elim
      | some d =>
        rw [e] at q
        obtain ⟨ho, e0, vs, rfl, rs⟩ := w _ _ es
        obtain ⟨v, e1, r1⟩ := atI_rep rs e
        exact .inl ⟨p, vs, i, v, rfl, rfl, SqL.of e0, e1, k v H d S (Go.refl w) r1 q⟩
    · exact q.elim
/-- an item of a list on the spot -/
def dIxL (l : AD) (i : ED) : ED := fun δ S Q => l δ S fun ds S1 => i δ S1 fun y S2 => match y with | .int i => (match atI ds i with | some d => Q d S2 | none => False) | _ => False
theorem e_ixN (ha : N X a ν) (hb : E X b τb) (hs : PlainIx b := by exact fun _ _ => rfl) : E X (.Subscript a b pos) (dIxL ν τb) := by
  obtain ⟨ta, a1, a2⟩ := ha
  obtain ⟨tb, b1, b2⟩ := hb
  refine ⟨_, pe_ix ix_list a1 b1 hs, fun σ H δ S w sl Q R k h => ?_⟩
  refine a2 σ H δ S w sl _ _ (fun p H1 vs ds S1 g1 h0 hp hs1 rs q => ?_) h
  refine b2 σ H1 δ S1 g1.wd (sl.im (g1.im w)) _ _ (fun y H2 dy S2 g2 ry q2 => ?_) q
  cases dy <;> first | exact False.elim q2 | skip
  rename_i i
  obtain rfl := ry
  simp only at q2
  cases e : atI ds i with
  | none => rw [e] at q2; exact q2.elim
  | some d =>
    rw [e] at q2
    have rs2 := rs.im (g2.im g1.wd)
    obtain ⟨v, e1, r1⟩ := atI_rep rs2 e
    exact ⟨p, vs, i, v, rfl, rfl, SqL.of (g2.ext p _ hp hs1), e1, k v H2 d S2 (g1.trans g2) r1 q2⟩
/-! ### slices -/
def cutD {β : Type} (xs : List β) (lo hi : Option Int) : List β := (xs.drop (HT.sIx xs.length 0 lo)).take (HT.sIx xs.length xs.length hi - HT.sIx xs.length 0 lo)
abbrev OD := Sl → Sh → (Option Int → Sh → Prop) → Prop
def SimO (K : PySem.W.Frag) (t : TO) (τ : OD) : Prop := ∀ σ H δ S, Wd K H S → SlOk K H σ δ → ∀ (Q : Option Int → Sh → Prop) (R : Option Int → Hp → Prop), (∀ o H' S', Go K S H S' H' → Q o S' → R o H') → τ δ S Q → t σ H R
def Po (X : Cx) (e : Option Expr) (τ : OD) : Prop := ∃ t, PO X e t ∧ SimO X.K t τ
def dNoP : OD := fun _ S Q => Q none S
def dPart (a : ED) : OD := fun δ S Q => a δ S fun x S1 => match x with | .int i => Q (some i) S1 | _ => False
theorem p_none : Po X none dNoP := ⟨_, po_none, fun σ H δ S w sl Q R k h => k none H S (Go.refl w) h⟩
theorem p_some (h : E X e τ) : Po X (some e) (dPart τ) := by
  obtain ⟨t, a1, a2⟩ := h
  refine ⟨_, po_some a1, fun σ H δ S w sl Q R k h => a2 σ H δ S w sl _ _ (fun v H' d S' g r q => ?_) h⟩
  cases d <;> first | exact False.elim q | skip
  exact ⟨_, r, k _ H' S' g q⟩
def dCut (x : D) (l u : Option Int) (S : Sh) (Q : QD) : Prop := match x with
  | .tup ds => Q (.tup (cutD ds l u)) S
  | .str s => s.length ≤ sizeLine ∧ Q (.str (cutD s l u)) S
  | _ => False
def dSlice (a : ED) (l u : OD) : ED := fun δ S Q => a δ S fun x S1 => l δ S1 fun l S2 => u δ S2 fun u S3 => dCut x l u S3 Q
theorem cutV_rep {K : PySem.W.Frag} {H : Hp} {ds : List D} {vs : List V} (r : Reps K H ds vs) (l u : Option Int) : Reps K H (cutD ds l u) (cutV vs l u) := by
  unfold cutD cutV
  rw [r.length]
  exact (r.drop _).take _
variable {lo hi : Option Expr} {ol oh : OD}
theorem e_slice (he : E X e τ) (hl : Po X lo ol) (hu : Po X hi oh) : E X (.Subscript e (.Slice lo hi none p2) pos) (dSlice τ ol oh) := by
  obtain ⟨t, a1, a2⟩ := he
  obtain ⟨tl, l1, l2⟩ := hl
  obtain ⟨tu, u1, u2⟩ := hu
  refine ⟨_, pe_slice (sl_tupA.or sl_str) a1 l1 u1, fun σ H δ S w sl Q R k h => ?_⟩
  refine a2 σ H δ S w sl _ _ (fun v H1 d S1 g1 r1 q => ?_) h
  have sl1 := sl.im (g1.im w)
  refine l2 σ H1 δ S1 g1.wd sl1 _ _ (fun l H2 S2 g2 q => ?_) q
  refine u2 σ H2 δ S2 g2.wd (sl1.im (g2.im g1.wd)) _ _ (fun u H3 S3 g3 q => ?_) q
  have g13 := (g1.trans g2).trans g3
  have r3 : Rep X.K H3 d v := (r1.im (g2.im g1.wd)).im (g3.im g2.wd)
  cases d with
  | str s =>
    obtain rfl := r3
    obtain ⟨q0, q⟩ := q
    refine .inr ⟨_, rfl, by rw [str_len]; exact q0, ?_⟩
    have e : cutS ⟨s.toArray⟩ l u = ⟨(cutD s l u).toArray⟩ := by unfold cutS cutD; rw [str_len]
    rw [e]
    exact k _ H3 (.str (cutD s l u)) S3 g13 rfl q
  | tup ds =>
    obtain ⟨p, vs, rfl, hp, rs⟩ := r3
    refine .inl ⟨p, vs, rfl, hp, fun z => ?_, fun z q' hq => ?_⟩
    · have e : cutD ds l u = ds := by
        unfold cutD
        rw [rs.length, z.1, z.2]
        simp [← rs.length]
      have q : Q (.tup (cutD ds l u)) S3 := q
      rw [e] at q
      exact k _ H3 (.tup ds) S3 g13 ⟨p, vs, rfl, hp, rs⟩ q
    · have g := Go.new (u := .tup (cutV vs l u)) g13.wd hq
      exact k _ _ (.tup (cutD ds l u)) S3 (g13.trans g) ⟨q', _, rfl, SqT.of upd_same, (cutV_rep rs l u).im (g.im g13.wd)⟩ q
  | _ => exact False.elim q
def dSliceL (a : AD) (l u : OD) : AD := fun δ S Q => a δ S fun ds S1 => l δ S1 fun l S2 => u δ S2 fun u S3 => Q (cutD ds l u) S3
/-- a slice of a list at a name: a new list -/
def dSliceE (a : ED) (l u : OD) : AD := fun δ S Q => a δ S fun x S1 => l δ S1 fun l S2 => u δ S2 fun u S3 => match x with
  | .rf p => (match S3 p with | some (.lst ds) => Q (cutD ds l u) S3 | _ => False)
  | .frz ds => Q (cutD ds l u) S3
  | _ => False
theorem n_slice (he : E X e τ) (hl : Po X lo ol) (hu : Po X hi oh) : N X (.Subscript e (.Slice lo hi none p2) pos) (dSliceE τ ol oh) := by
  obtain ⟨t, a1, a2⟩ := he
  obtain ⟨tl, l1, l2⟩ := hl
  obtain ⟨tu, u1, u2⟩ := hu
  refine ⟨_, pe_slice sl_list a1 l1 u1, fun σ H δ S w sl Q R k h => ?_⟩
  refine a2 σ H δ S w sl _ _ (fun v H1 d S1 g1 r1 q => ?_) h
  have sl1 := sl.im (g1.im w)
  refine l2 σ H1 δ S1 g1.wd sl1 _ _ (fun l H2 S2 g2 q => ?_) q
  refine u2 σ H2 δ S2 g2.wd (sl1.im (g2.im g1.wd)) _ _ (fun u H3 S3 g3 q => ?_) q
  have g13 := (g1.trans g2).trans g3
  have r3 : Rep X.K H3 d v := (r1.im (g2.im g1.wd)).im (g3.im g2.wd)
  have fin : ∀ {p : Addr} {ds : List D} {vs : List V}, SqL X.K H3 p vs → Reps X.K H3 ds vs → Q (cutD ds l u) S3 → rSlL X.K (.ref p) l u H3 R := fun {p ds vs} hp rs q =>
    ⟨p, vs, rfl, hp, fun q' hq => by
      have g := Go.new (u := .lst (cutV vs l u)) g13.wd hq
      exact k q' _ _ (cutD ds l u) S3 (g13.trans g) (g13.th _ hq) upd_same (g13.wd.free hq) ((cutV_rep rs l u).im (g.im g13.wd)) q⟩
  cases d <;> first | exact False.elim q | skip
  · obtain ⟨p, vs, rfl, hp, rs⟩ := r3
    exact fin hp.l rs q
  · rename_i p
    obtain rfl := r3
    simp only at q
    split at q
    · rename_i ds es
      obtain ⟨ho, e0, vs, rfl, rs⟩ := g13.wd _ _ es
      exact fin (SqL.of e0) rs q
    · exact q.elim
/-! ### a chain of two comparisons -/
def dChain (ρ ρ' : R2D) (a b c : ED) : ED := fun δ S Q => a δ S fun x S1 => b δ S1 fun y S2 => ρ x y S2 fun z S3 => match z with | .bl k => (if k = true then c δ S3 fun w S4 => ρ' y w S4 Q else Q (.bl false) S3) | _ => False
theorem e_chain {op op' : CmpOp} {ρ ρ' : R2D} (ho : O X (compareOp op) ρ) (ho' : O X (compareOp op') ρ') (ha : E X a τa) (hb : E X b τb) (hc : E X c τc)
    (hm : lastMarks [op, op'] [b, c] = false := by with_unfolding_all rfl) : E X (.Compare a [op, op'] [b, c] pos) (dChain ρ ρ' τa τb τc) := by
  obtain ⟨r, h1, h2⟩ := ho
  obtain ⟨r', h1', h2'⟩ := ho'
  obtain ⟨ta, a1, a2⟩ := ha
  obtain ⟨tb, b1, b2⟩ := hb
  obtain ⟨tc, c1, c2⟩ := hc
  refine ⟨_, pe_chain h1 h1' a1 b1 c1 hm, fun σ H δ S w sl Q R k h => ?_⟩
  refine a2 σ H δ S w sl _ _ (fun x H1 dx S1 g1 rx q => ?_) h
  have sl1 := sl.im (g1.im w)
  refine b2 σ H1 δ S1 g1.wd sl1 _ _ (fun y H2 dy S2 g2 ry q => ?_) q
  have sl2 := sl1.im (g2.im g1.wd)
  refine h2 H2 S2 x y dx dy g2.wd (rx.im (g2.im g1.wd)) ry _ _ (fun z H3 dz S3 g3 rz q => ?_) q
  have g13 := (g1.trans g2).trans g3
  cases dz <;> first | exact False.elim q | skip
  rename_i kk
  refine ⟨kk, rz, ?_⟩
  cases kk with
  | true =>
    refine c2 σ H3 δ S3 g3.wd (sl2.im (g3.im g2.wd)) _ _ (fun w' H4 dw S4 g4 rw q => ?_) q
    exact h2' H4 S4 y w' dy dw g4.wd ((ry.im (g3.im g2.wd)).im (g4.im g3.wd)) rw Q R (fun v H5 d S5 g5 r5 q5 => k v H5 d S5 ((g13.trans g4).trans g5) r5 q5) q
  | false => exact k _ H3 (.bl false) S3 g13 rfl q
theorem t_val (he : E X e τ) (hs : ∀ whole, isTrue e X.env whole = (do let v ← whole; standAt e.pos; holding [v] (truthy v)) := by intro _; rfl) : T X e (dTB τ) := by
  obtain ⟨t, a1, a2⟩ := he
  refine ⟨_, pt_val a1 hs, fun σ H δ S w sl Q R k h => a2 σ H δ S w sl _ _ (fun v H' d S' g r q => ?_) h⟩
  cases d <;> first | exact False.elim q | skip
  exact ⟨_, r, k _ H' S' g q⟩
theorem t_chain {op op' : CmpOp} {ρ ρ' : R2D} (ho : O X (compareOp op) ρ) (ho' : O X (compareOp op') ρ') (ha : E X a τa) (hb : E X b τb) (hc : E X c τc)
    (hm : lastMarks [op, op'] [b, c] = false := by with_unfolding_all rfl) : T X (.Compare a [op, op'] [b, c] pos) (dTB (dChain ρ ρ' τa τb τc)) := by
  obtain ⟨r, h1, h2⟩ := ho
  obtain ⟨r', h1', h2'⟩ := ho'
  obtain ⟨ta, a1, a2⟩ := ha
  obtain ⟨tb, b1, b2⟩ := hb
  obtain ⟨tc, c1, c2⟩ := hc
  refine ⟨_, pt_chain h1 h1' a1 b1 c1 hm, fun σ H δ S w sl Q R k h => ?_⟩
  refine a2 σ H δ S w sl _ _ (fun x H1 dx S1 g1 rx q => ?_) h
  have sl1 := sl.im (g1.im w)
  refine b2 σ H1 δ S1 g1.wd sl1 _ _ (fun y H2 dy S2 g2 ry q => ?_) q
  have sl2 := sl1.im (g2.im g1.wd)
  refine h2 H2 S2 x y dx dy g2.wd (rx.im (g2.im g1.wd)) ry _ _ (fun z H3 dz S3 g3 rz q => ?_) q
  have g13 := (g1.trans g2).trans g3
  cases dz <;> first | exact False.elim q | skip
  rename_i kk
  refine ⟨kk, rz, ?_⟩
  cases kk with
  | true =>
    refine c2 σ H3 δ S3 g3.wd (sl2.im (g3.im g2.wd)) _ _ (fun w' H4 dw S4 g4 rw q => ?_) q
    refine h2' H4 S4 y w' dy dw g4.wd ((ry.im (g3.im g2.wd)).im (g4.im g3.wd)) rw _ _ (fun v H5 d S5 g5 r5 q5 => ?_) q
    cases d <;> first | exact False.elim q5 | skip
    exact ⟨_, r5, k _ H5 S5 ((g13.trans g4).trans g5) q5⟩
  | false => exact ⟨_, rfl, k _ H3 S3 g13 q⟩
end
end DL

set_option Elab.async false
set_option linter.all false
set_option maxRecDepth 100000
namespace DL
open PySem PySem.Spec L2
section
variable {X : Cx} {a b c e o : Expr} {es : List Expr} {pos p2 p q apos cpos : Pos} {τ τa τb τc : ED} {α ν ν' : AD} {ι : ID} {γ : GD} {κ : TD} {ξ : SD} {tg iter : Expr} {x : Str}

/-! ### calls of built-ins with a list -/
def SimCL (K : PySem.W.Frag) (r : List V → Hp → VK → Prop) (ρ : CD) : Prop := ∀ H S a vs ds, Wd K H S → SqL K H a vs → Reps K H ds vs → ∀ (Q : QD) (R : VK), (∀ v H' d S', Go K S H S' H' → Rep K H' d v → Q d S' → R v H') → ρ ds S Q → r [.ref a] H R
abbrev ND := List D → Sh → (List D → Sh → Prop) → Prop
def SimCN (K : PySem.W.Frag) (r : List V → Hp → VK → Prop) (ρ : ND) : Prop := ∀ H S a vs ds, Wd K H S → SqL K H a vs → Reps K H ds vs → ∀ (Q : List D → Sh → Prop) (R : VK), (∀ b H' us es S', Go K S H S' H' → H b = none → H' b = some (.lst us) → S' b = none → Reps K H' es us → Q es S' → R (.ref b) H') → ρ ds S Q → r [.ref a] H R
def CL (X : Cx) (f : Value) (ρ : CD) : Prop := ∃ r, CallR X f r ∧ SimCL X.K r ρ
def CN (X : Cx) (f : Value) (ρ : ND) : Prop := ∃ r, CallR X f r ∧ SimCN X.K r ρ
def dOnL (ρ : CD) (l : AD) : ED := fun δ S Q => l δ S fun ds S1 => ρ ds S1 Q
def dOnN (ρ : ND) (l : AD) : AD := fun δ S Q => l δ S fun ds S1 => ρ ds S1 Q
theorem e_callBL {id : String} {ρ : CD} (hc : CL X (.builtin id) ρ) (hm : X.mg x = none) (ha : L X e ν) (hg : Gl X x := by rfl) (hv : bootBuiltins x = some (.builtin id) := by decide +kernel) (hn : x ≠ "__name__" := by decide) (hdb : (x == ("__debug__" : Str)) = false := by decide)
    (he : starEach (e :: []) X.env = (false, eval e X.env) :: starEach [] X.env := by rfl) (hpl : (backTo pos (starEach [] X.env)).any (·.1) = false := by rfl) : E X (.Call (.Name x p) [e] [] pos) (dOnL ρ ν) := by
  obtain ⟨r, h1, h2⟩ := hc
  obtain ⟨ta, a1, a2⟩ := ha
  refine ⟨_, pe_callB h1 hg hm hv (pa_cons a1 pa_nil he) hn hdb he hpl, fun σ H δ S w sl Q R k h => ?_⟩
  exact a2 σ H δ S w sl _ _ (fun a H1 vs ds S1 g1 hs rs q => h2 H1 S1 a vs ds g1.wd hs rs Q R (fun v H2 d S2 g2 => k v H2 d S2 (g1.trans g2)) q) h
theorem e_callTyL {id : String} {ρ : CD} (hc : CL X (.type id) ρ) (hm : X.mg x = none) (ha : L X e ν) (hg : Gl X x := by rfl) (hv : bootBuiltins x = some (.type id) := by decide +kernel) (hn : x ≠ "__name__" := by decide) (hdb : (x == ("__debug__" : Str)) = false := by decide)
    (he : starEach (e :: []) X.env = (false, eval e X.env) :: starEach [] X.env := by rfl) (hpl : (backTo pos (starEach [] X.env)).any (·.1) = false := by rfl) : E X (.Call (.Name x p) [e] [] pos) (dOnL ρ ν) := by
  obtain ⟨r, h1, h2⟩ := hc
  obtain ⟨ta, a1, a2⟩ := ha
  refine ⟨_, pe_callTy h1 hg hm hv (pa_cons a1 pa_nil he) hn hdb he hpl, fun σ H δ S w sl Q R k h => ?_⟩
  exact a2 σ H δ S w sl _ _ (fun a H1 vs ds S1 g1 hs rs q => h2 H1 S1 a vs ds g1.wd hs rs Q R (fun v H2 d S2 g2 => k v H2 d S2 (g1.trans g2)) q) h
theorem n_callBL {id : String} {ρ : ND} (hc : CN X (.builtin id) ρ) (hm : X.mg x = none) (ha : L X e ν) (hg : Gl X x := by rfl) (hv : bootBuiltins x = some (.builtin id) := by decide +kernel) (hn : x ≠ "__name__" := by decide) (hdb : (x == ("__debug__" : Str)) = false := by decide)
    (he : starEach (e :: []) X.env = (false, eval e X.env) :: starEach [] X.env := by rfl) (hpl : (backTo pos (starEach [] X.env)).any (·.1) = false := by rfl) : N X (.Call (.Name x p) [e] [] pos) (dOnN ρ ν) := by
  obtain ⟨r, h1, h2⟩ := hc
  obtain ⟨ta, a1, a2⟩ := ha
  refine ⟨_, pe_callB h1 hg hm hv (pa_cons a1 pa_nil he) hn hdb he hpl, fun σ H δ S w sl Q R k h => ?_⟩
  exact a2 σ H δ S w sl _ _ (fun a H1 vs ds S1 g1 hs rs q => h2 H1 S1 a vs ds g1.wd hs rs Q R (fun b H2 us es S2 g2 hb => k b H2 us es S2 (g1.trans g2) (g1.th b hb)) q) h
theorem n_callTyL {id : String} {ρ : ND} (hc : CN X (.type id) ρ) (hm : X.mg x = none) (ha : L X e ν) (hg : Gl X x := by rfl) (hv : bootBuiltins x = some (.type id) := by decide +kernel) (hn : x ≠ "__name__" := by decide) (hdb : (x == ("__debug__" : Str)) = false := by decide)
    (he : starEach (e :: []) X.env = (false, eval e X.env) :: starEach [] X.env := by rfl) (hpl : (backTo pos (starEach [] X.env)).any (·.1) = false := by rfl) : N X (.Call (.Name x p) [e] [] pos) (dOnN ρ ν) := by
  obtain ⟨r, h1, h2⟩ := hc
  obtain ⟨ta, a1, a2⟩ := ha
  refine ⟨_, pe_callTy h1 hg hm hv (pa_cons a1 pa_nil he) hn hdb he hpl, fun σ H δ S w sl Q R k h => ?_⟩
  exact a2 σ H δ S w sl _ _ (fun a H1 vs ds S1 g1 hs rs q => h2 H1 S1 a vs ds g1.wd hs rs Q R (fun b H2 us es S2 g2 hb => k b H2 us es S2 (g1.trans g2) (g1.th b hb)) q) h
/-- tuple(l), len(l), list(l), sorted(l) of ints -/
theorem cl_tuple : CL X (.type "tuple") (fun ds S Q => Q (.tup ds) S) := by
  refine ⟨_, call_tuple_of, fun H S a vs ds w hs rs Q R k q => ⟨a, vs, rfl, .inl ⟨hs, fun l hl => ?_⟩⟩⟩
  have g := Go.new (u := .tup vs) w hl
  exact k _ _ (.tup ds) S g ⟨l, vs, rfl, SqT.of upd_same, rs.im (g.im w)⟩ q
theorem cl_len : CL X (.builtin "len") (fun ds S Q => Q (.int ds.length) S) := by
  refine ⟨_, call_len_seq, fun H S a vs ds w hs rs Q R k q => ⟨a, vs, rfl, .inl hs, ?_⟩⟩
  exact k _ H (.int ds.length) S (Go.refl w) (by rw [rs.length]; rfl) q
theorem cn_list : CN X (.type "list") (fun ds S Q => Q ds S) := by
  refine ⟨_, call_list_of, fun H S a vs ds w hs rs Q R k q => ⟨a, vs, rfl, .inl hs, fun l hl => ?_⟩⟩
  have g := Go.new (u := .lst vs) w hl
  exact k l _ _ ds S g hl upd_same (w.free hl) (rs.im (g.im w)) q
def intsOf : List D → Option (List Int)
  | [] => some []
  | .int i :: r => (intsOf r).map (i :: ·)
  | _ :: _ => none
theorem intsOf_map : ∀ ns : List Int, intsOf (ns.map D.int) = some ns
  | [] => rfl
  | n :: ns => by rw [List.map_cons, intsOf, intsOf_map ns]; rfl
theorem of_intsOf : ∀ {ds : List D} {ns : List Int}, intsOf ds = some ns → ds = ns.map D.int
  | [], ns, h => by cases h; rfl
  | .int i :: r, ns, h => by
    unfold intsOf at h
    cases e : intsOf r with
    | none => rw [e] at h; cases h
    | some m => rw [e] at h; cases h; rw [of_intsOf e]; rfl
  | .non :: _, _, h => by cases h
  | .bl _ :: _, _, h => by cases h
  | .str _ :: _, _, h => by cases h
  | .ty _ :: _, _, h => by cases h
  | .tup _ :: _, _, h => by cases h
  | .frz _ :: _, _, h => by cases h
  | .rf _ :: _, _, h => by cases h
  | .kst _ _ :: _, _, h => by cases h
/-- sorted of ints: the one rising list -/
theorem perm_sorted_eq {xs ys : List Int} (h : xs.Perm ys) (hx : xs.Pairwise (· ≤ ·)) (hy : ys.Pairwise (· ≤ ·)) : xs = ys :=
  List.Perm.eq_of_pairwise (fun a b _ _ h1 h2 => Int.le_antisymm h1 h2) hx hy h
def dSortI (ds : List D) (S : Sh) (Q : List D → Sh → Prop) : Prop := match intsOf ds with | some ns => ∀ ms : List Int, ms.Perm ns → ms.Pairwise (· ≤ ·) → Q (ms.map D.int) S | none => False
theorem cn_sortedI : CN X (.builtin "sorted") dSortI := by
  refine ⟨_, cr_sortedI, fun H S a vs ds w hs rs Q R k q => ?_⟩
  unfold dSortI at q
  cases e : intsOf ds with
  | none => rw [e] at q; exact q.elim
  | some ns =>
    rw [e] at q
    obtain rfl := of_intsOf e
    obtain rfl := Reps.ints rs
    refine ⟨a, ns, rfl, hs, fun ms l h1 h2 hl => ?_⟩
    have g := Go.new (u := .lst (ms.map V.int)) w hl
    exact k l _ _ (ms.map D.int) S g hl upd_same (w.free hl) Reps.of_ints (q ms h1 h2)

/-! ### len, int, str, min, max of values -/
def dLen : CD := fun ds S Q => match ds with
  | [.str s] => s.length ≤ sizeLine ∧ Q (.int s.length) S
  | [.tup xs] => Q (.int xs.length) S
  | [.frz xs] => Q (.int xs.length) S
  | [.rf p] => (match S p with | some (.lst xs) => Q (.int xs.length) S | _ => False)
  | _ => False
theorem c_len : C X (.builtin "len") dLen := by
  refine ⟨_, call_len, fun H S vs ds w rs Q R k q => ?_⟩
  rcases ds with _ | ⟨d, _ | ⟨d2, ds⟩⟩
  · exact False.elim q
  · obtain ⟨v, r, rfl, rv, rfl⟩ := rs
    cases d with
    | str s =>
      obtain rfl := rv
      exact ⟨_, s.length, rfl, ⟨by rw [str_len]; exact q.1, by rw [str_len]⟩, k _ H (.int s.length) S (Go.refl w) rfl q.2⟩
    | tup xs =>
      obtain ⟨p, us, rfl, hp, ru⟩ := rv
      exact ⟨_, xs.length, rfl, .inr ⟨us, hp, ru.length⟩, k _ H (.int xs.length) S (Go.refl w) rfl q⟩
    | frz xs =>
      obtain ⟨p, us, rfl, hp, ru⟩ := rv
      exact ⟨_, xs.length, rfl, .inl ⟨us, hp.l, ru.length⟩, k _ H (.int xs.length) S (Go.refl w) rfl q⟩
    | rf p =>
      obtain rfl := rv
      simp only [dLen] at q
      split at q
      · rename_i xs es
        obtain ⟨ho, e0, us, rfl, ru⟩ := w _ _ es
        exact ⟨_, xs.length, rfl, .inl ⟨us, SqL.of e0, ru.length⟩, k _ H (.int xs.length) S (Go.refl w) rfl q⟩
      · exact q.elim
    | _ => exact False.elim q
  · cases d <;> exact False.elim q
def dInt : CD := fun ds S Q => match ds with | [.int i] => Q (.int i) S | [.bl b] => Q (.int (if b then 1 else 0)) S | _ => False
theorem c_int : C X (.type "int") dInt := by
  refine ⟨_, call_int1, fun H S vs ds w rs Q R k q => ?_⟩
  rcases ds with _ | ⟨d, _ | ⟨d2, ds⟩⟩
  · exact False.elim q
  · obtain ⟨v, r, rfl, rv, rfl⟩ := rs
    cases d with
    | int i =>
      obtain rfl := rv
      exact .inl ⟨i, rfl, k _ H (.int i) S (Go.refl w) rfl q⟩
    | bl i =>
      obtain rfl := rv
      exact .inr ⟨i, rfl, k _ H (.int _) S (Go.refl w) rfl q⟩
    | _ => exact False.elim q
  · cases d <;> exact False.elim q
def dIntS : CD := fun ds S Q => match ds with | [.str s] => s.length ≤ 640 ∧ ∃ n, PySem.intText? ⟨s.toArray⟩ = some n ∧ Q (.int n) S | _ => False
theorem c_intS : C X (.type "int") dIntS := by
  refine ⟨_, call_int_str, fun H S vs ds w rs Q R k q => ?_⟩
  rcases ds with _ | ⟨d, _ | ⟨d2, ds⟩⟩
  · exact False.elim q
  · obtain ⟨v, r, rfl, rv, rfl⟩ := rs
    cases d with
    | str s =>
      obtain rfl := rv
      obtain ⟨q1, n, q2, q3⟩ := q
      exact ⟨_, n, rfl, q2, by rw [str_len]; exact q1, k _ H (.int n) S (Go.refl w) rfl q3⟩
    | _ => exact False.elim q
  · cases d <;> exact False.elim q
/-- the digits of an int -/
def decs (i : Int) : List Nat := (Str.ofString (toString i)).cps.toList
def dStr : CD := fun ds S Q => match ds with | [.int i] => i.natAbs.log2 < 1920 ∧ Q (.str (decs i)) S | _ => False
theorem c_str : C X (.type "str") dStr := by
  refine ⟨_, call_str_int, fun H S vs ds w rs Q R k q => ?_⟩
  rcases ds with _ | ⟨d, _ | ⟨d2, ds⟩⟩
  · exact False.elim q
  · obtain ⟨v, r, rfl, rv, rfl⟩ := rs
    cases d with
    | int i =>
      obtain rfl := rv
      exact ⟨i, rfl, q.1, k _ H (.str (decs i)) S (Go.refl w) (by show V.str _ = V.str ⟨(decs i).toArray⟩; unfold decs; rw [Array.toArray_toList]) q.2⟩
    | _ => exact False.elim q
  · cases d <;> exact False.elim q
def dII (f : Int → Int → D) : CD := fun ds S Q => match ds with | [.int i, .int j] => Q (f i j) S | _ => False
theorem c_II {f : Value} {r : List V → Hp → VK → Prop} {g : Int → Int → D} {g' : Int → Int → V} (h : CallR X f r) (hr : ∀ i j H R, R (g' i j) H → r [.int i, .int j] H R) (hg : ∀ K H i j, Rep K H (g i j) (g' i j)) : C X f (dII g) := by
  refine ⟨_, h, fun H S vs ds w rs Q R k q => ?_⟩
  rcases ds with _ | ⟨d, _ | ⟨d2, _ | ⟨d3, ds⟩⟩⟩
  · exact False.elim q
  · cases d <;> exact False.elim q
  · obtain ⟨v, r, rfl, rv, u, r2, rfl, ru, rfl⟩ := rs
    cases d with
    | int i =>
      cases d2 with
      | int j =>
        obtain rfl := rv
        obtain rfl := ru
        exact hr i j H R (k _ H _ S (Go.refl w) (hg _ _ _ _) q)
      | _ => exact False.elim q
    | _ => exact False.elim q
  · cases d with
    | int i => cases d2 <;> exact False.elim q
    | _ => exact False.elim q
def dMax : CD := dII fun i j => .int (if j > i then j else i)
def dMin : CD := dII fun i j => .int (if j < i then j else i)
theorem c_max (hc : X.calm = true := by rfl) : C X (.builtin "max") dMax := c_II (call_max2 hc) (fun i j H R h => ⟨i, j, rfl, h⟩) fun _ _ _ _ => rfl
theorem c_min (hc : X.calm = true := by rfl) : C X (.builtin "min") dMin := c_II (call_min2 hc) (fun i j H R h => ⟨i, j, rfl, h⟩) fun _ _ _ _ => rfl
/-! ### isinstance(e, T) -/
inductive TyN where
  | tNone | tBool | tInt | tStr | tTuple | tList
def TyN.s : TyN → String
  | .tNone => "NoneType" | .tBool => "bool" | .tInt => "int" | .tStr => "str" | .tTuple => "tuple" | .tList => "list"
def tyName (S : Sh) : D → Option TyN
  | .non => some .tNone | .bl _ => some .tBool | .int _ => some .tInt | .str _ => some .tStr | .tup _ => some .tTuple | .frz _ => some .tList
  | .rf p => (match S p with | some (.lst _) => some .tList | _ => none)
  | .ty _ => none
  | .kst _ _ => none
theorem tyx {K : PySem.W.Frag} {H : Hp} {S : Sh} {d : D} {v : V} {n : TyN} (w : Wd K H S) (r : Rep K H d v) (h : tyName S d = some n) : TyX K H v (.type n.s) := by
  cases d with
  | non => obtain rfl := r; cases h; exact .base .non
  | bl b => obtain rfl := r; cases h; exact .base (.bl b)
  | int i => obtain rfl := r; cases h; exact .base (.int i)
  | str s => obtain rfl := r; cases h; exact .base (.str _)
  | tup ds =>
    obtain ⟨p, vs, rfl, hp, _⟩ := r
    cases h
    rcases hp with (hp | ⟨ob, hp⟩) | ⟨ob, its, m, hk, hc, _⟩
    · exact .base (.tup hp)
    · exact .fTuple hp
    · exact .kTuple hk hc
  | frz ds =>
    obtain ⟨p, vs, rfl, hp, _⟩ := r
    cases h
    rcases hp with ⟨ob, hp⟩ | ⟨ob, its, m, hk, hc, _⟩
    · exact .base (.frz hp)
    · exact .kList hk hc
  | rf p =>
    obtain rfl := r
    simp only [tyName] at h
    split at h
    · rename_i ds es
      cases h
      obtain ⟨ho, e0, us, rfl, ru⟩ := w _ _ es
      exact .base (.lst e0)
    · cases h
  | ty _ => cases h
  | kst _ _ => cases h
/-- what isinstance says of the names of types -/
def isT : TyN → TyN → Bool
  | .tNone, .tNone => true | .tBool, .tBool => true | .tBool, .tInt => true | .tInt, .tInt => true | .tStr, .tStr => true | .tTuple, .tTuple => true | .tList, .tList => true
  | _, _ => false
def dIsi (t : TyN) (a : ED) : ED := fun δ S Q => a δ S fun x S1 => match tyName S1 x with | some n => Q (.bl (isT n t)) S1 | none => False
theorem kit_isT (n t : TyN) : kitB n.s t.s = some (isT n t) := by
  cases n <;> cases t <;> decide +kernel
theorem e_isi (t : TyN) {y : Str} (ha : E X a τ) (hm : X.mg "isinstance" = none) (hmt : X.mg y = none)
    (hv : bootBuiltins y = some (.type t.s) := by decide +kernel) (hg : Gl X "isinstance" := by rfl) (hgt : Gl X y := by rfl) (hn : y ≠ "__name__" := by decide) (hdb : (y == ("__debug__" : Str)) = false := by decide)
    (he : starEach (a :: [.Name y q]) X.env = (false, eval a X.env) :: starEach [.Name y q] X.env := by rfl) (he2 : starEach (.Name y q :: []) X.env = (false, eval (.Name y q) X.env) :: starEach [] X.env := by rfl) (hpl : (backTo pos (starEach [.Name y q] X.env)).any (·.1) = false := by rfl) :
    E X (.Call (.Name "isinstance" p) [a, .Name y q] [] pos) (dIsi t τ) := by
  obtain ⟨ta, a1, a2⟩ := ha
  have rt : RelV (.ty t.s) (Value.type t.s) := rfl
  refine ⟨_, pe_callB call_isi hg hm (by decide +kernel) (pa_cons a1 (pa_cons (pe_bltn hgt hmt hv rt hn hdb) pa_nil he2) he) (by decide) (by decide) he hpl, fun σ H δ S w sl Q R k h => ?_⟩
  refine a2 σ H δ S w sl _ _ (fun v H1 d S1 g1 rv q => ?_) h
  cases e : tyName S1 d with
  | none => rw [e] at q; exact q.elim
  | some n =>
    rw [e] at q
    exact ⟨v, .ty t.s, .type n.s, .type t.s, _, rfl, .ty t.s, tyx g1.wd rv e, kit_ty (kit_isT n t), k _ H1 (.bl _) S1 g1 rfl q⟩
end
end DL

set_option Elab.async false
set_option linter.all false
set_option maxRecDepth 100000
namespace DL
open PySem PySem.Spec L2
section
variable {X : Cx} {a b c e o value : Expr} {es : List Expr} {pos p2 p q apos cpos pos' : Pos} {τ τa τb τc : ED} {α ν ν' : AD} {ι : ID} {γ : GD} {κ : TD} {ξ : SD} {tg iter : Expr} {x : Str}

/-! ### what is walked -/
theorem simj_list {K : PySem.W.Frag} {Hb : Hp} {S : Sh} {H : Hp} {a : Addr} {ds : List D} {ck : Sh → Prop} (hl : ∀ S' H', Kp K (fun a => Hb a = none) S H S' H' → ck S' → ∃ vs, SqL K H' a vs ∧ Reps K H' ds vs) : SimJ K Hb S H (Itl K a) ds ck := fun S' H' g hck i => by
  obtain ⟨vs, h1, r1⟩ := hl S' H' g hck
  refine ⟨fun d hd => ?_, fun hi => ⟨vs, h1, by rw [← r1.length]; exact hi⟩⟩
  obtain ⟨v, hv, rv⟩ := r1.get hd
  refine ⟨⟨vs, v, h1, hv⟩, fun x H2 ⟨e, y⟩ => ?_⟩
  subst e
  have := y vs h1
  rw [hv] at this
  cases this
  exact ⟨Go.refl g.wd, rv⟩
theorem i_new (h : N X iter ν) : I X tg iter (fun δ S Q => ν δ S fun ds S1 => Q ds (fun _ => True) S1) := by
  obtain ⟨t, a1, a2⟩ := h
  refine ⟨_, pi_list a1, fun σ H δ S w sl Q R k h => ?_⟩
  refine a2 σ H δ S w sl _ _ (fun a H1 vs ds S1 g1 h0 hp hs rs q => ?_) h
  refine ⟨a, rfl, ⟨vs, SqL.of hp⟩, k _ H1 S1 ds (fun _ => True) g1 (simj_list fun S' H' g _ => ⟨vs, SqL.of (g.ex a _ h0 hp hs), rs.im g.im⟩) trivial q⟩
def dItN (l : AD) : ID := fun δ S Q => l δ S fun ds S1 => Q ds (fun _ => True) S1
theorem i_newD (h : N X iter ν) : I X tg iter (dItN ν) := i_new h
def dIt (a : ED) : ID := fun δ S Q => a δ S fun x S1 => match x with
  | .tup ds => Q ds (fun _ => True) S1
  | .frz ds => Q ds (fun _ => True) S1
  | .str s => Q (s.map fun c => .str [c]) (fun _ => True) S1
  | .rf p => (match S1 p with | some (.lst ds) => Q ds (fun S => S p = some (.lst ds)) S1 | _ => False)
  | _ => False
def iAny (K : PySem.W.Frag) (te : TE) : TI := fun σ H R => te σ H fun x H1 => (∃ a xs, x = .ref a ∧ SqL K H1 a xs ∧ R (Itl K a) H1) ∨ (∃ a xs, x = .ref a ∧ SqT K H1 a xs ∧ R (Itt K a) H1) ∨ (∃ z, x = .str z ∧ R (Its z) H1)
open PyProof.Rows in
theorem pi_any {X : Cx} {tg e : Expr} {te : TE} (he : PE X e te) : PI X tg e (iAny X.K te) := by
  refine ⟨fun pins s σ H R I h => ?_⟩
  refine thn (he.run pins s σ H _ I h) fun v s1 ⟨y, H1, I1, r1, q1⟩ => ?_
  rcases q1 with ⟨a, xs, ex, hq, q⟩ | ⟨a, xs, ex, hq, q⟩ | ⟨z, ex, q⟩
  · subst ex
    cases r1
    obtain ⟨its, rv, p, hz⟩ := I1.list hq
    refine wpAny_pyIter_list p.isList ?_
    refine ⟨s1.heap.objs.size, [s1.heap.objs.size], _, _, H1, rfl, I1.kept (t' := s1.toks) fun b o e => Heap.get?_push_of_some _ e, turn_list a _, ⟨_, Heap.get?_push_size _ rfl, rfl, rfl⟩, fun b hb => ?_, q⟩
    have e : b = s1.heap.objs.size := by simpa using hb
    subst e
    exact I1.fpOk (Nat.le_refl _) (I1.hok.fresh (Nat.le_refl _))
  · subst ex
    cases r1
    obtain ⟨its, rv, p, hz⟩ := I1.tuple hq
    refine wpAny_pyIter_tuple (show s1.heap.IsTuple a its.toArray from p) ?_
    refine ⟨s1.heap.objs.size, [s1.heap.objs.size], _, _, H1, rfl, I1.kept (t' := s1.toks) fun b o e => Heap.get?_push_of_some _ e, turn_tuple a _, ⟨_, Heap.get?_push_size _ rfl, rfl, rfl⟩, fun b hb => ?_, q⟩
    have e : b = s1.heap.objs.size := by simpa using hb
    subst e
    exact I1.fpOk (Nat.le_refl _) (I1.hok.fresh (Nat.le_refl _))
  · subst ex
    obtain ⟨t, rfl⟩ := r1
    cases ha : z.cps.all (· < 128)
    · exact wpAny_pyIter_wide ha (pi_one (tk := s1.toks) I1 _ (turn_str _ z t "str_iterator" (.inr rfl)) ⟨_, Heap.get?_push_size _ rfl, rfl, rfl⟩ q)
    · exact wpAny_pyIter_ascii ha (pi_one (tk := s1.toks) I1 _ (turn_str _ z t "str_ascii_iterator" (.inl rfl)) ⟨_, Heap.get?_push_size _ rfl, rfl, rfl⟩ q)
theorem simj_tup {K : PySem.W.Frag} {Hb : Hp} {S : Sh} {H : Hp} {a : Addr} {vs : List V} {ds : List D} (rs : Reps K H ds vs) (w : Wd K H S) (hl : SqT K H a vs) : SimJ K Hb S H (Itt K a) ds (fun _ => True) := fun S' H' g _ i => by
  have im := g.im
  have h1 := im.t _ _ hl
  have r1 := rs.im im
  refine ⟨fun d hd => ?_, fun hi => ⟨vs, h1, by rw [← rs.length]; exact hi⟩⟩
  obtain ⟨v, hv, rv⟩ := r1.get hd
  refine ⟨⟨vs, v, h1, hv⟩, fun x H2 ⟨e, y⟩ => ?_⟩
  subst e
  have := y vs h1
  rw [hv] at this
  cases this
  exact ⟨Go.refl g.wd, rv⟩
theorem simj_str {K : PySem.W.Frag} {Hb : Hp} {S : Sh} {H : Hp} {s : List Nat} : SimJ K Hb S H (Its ⟨s.toArray⟩) (s.map fun c => .str [c]) (fun _ => True) := fun S' H' g _ i => by
  refine ⟨fun d hd => ?_, fun hi => ?_⟩
  · rw [List.getElem?_map] at hd
    cases e : s[i]? with
    | none => rw [e] at hd; cases hd
    | some c =>
      rw [e] at hd
      cases hd
      refine ⟨by show i < s.toArray.size; simpa using (List.getElem?_eq_some_iff.mp e).1, fun x H2 ⟨e1, c', e2, e3⟩ => ?_⟩
      subst e1
      have : c' = c := by
        have q : s.toArray[i]? = some c' := e2
        rw [List.getElem?_toArray, e] at q
        exact (Option.some.inj q).symm
      subst this
      subst e3
      exact ⟨Go.refl g.wd, rfl⟩
  · show s.toArray.size ≤ i
    simpa using hi
theorem i_of (h : E X iter τ) : I X tg iter (dIt τ) := by
  obtain ⟨t, a1, a2⟩ := h
  refine ⟨_, pi_any a1, fun σ H δ S w sl Q R k h => ?_⟩
  refine a2 σ H δ S w sl _ _ (fun v H1 d S1 g1 r1 q => ?_) h
  cases d with
  | tup ds =>
    obtain ⟨a, vs, rfl, hq, rs⟩ := r1
    exact .inr (.inl ⟨a, vs, rfl, hq, k _ H1 S1 ds _ g1 (simj_tup rs g1.wd hq) trivial q⟩)
  | frz ds =>
    obtain ⟨a, vs, rfl, hq, rs⟩ := r1
    exact .inl ⟨a, vs, rfl, hq.l, k _ H1 S1 ds (fun _ => True) g1 (simj_list fun S' H' g _ => ⟨vs, (g.im.f _ _ hq).l, rs.im g.im⟩) trivial q⟩
  | str s =>
    obtain rfl := r1
    exact .inr (.inr ⟨_, rfl, k _ H1 S1 _ _ g1 simj_str trivial q⟩)
  | rf p =>
    obtain rfl := r1
    simp only at q
    split at q
    · rename_i ds es
      obtain ⟨ho, e0, vs, rfl, rs⟩ := g1.wd _ _ es
      refine .inl ⟨p, vs, rfl, SqL.of e0, k _ H1 S1 ds (fun S => S p = some (.lst ds)) g1 (simj_list fun S' H' g hck => ?_) es q⟩
      obtain ⟨ho2, e2, vs2, rfl, rs2⟩ := g.wd _ _ hck
      exact ⟨vs2, SqL.of e2, rs2⟩
    · exact q.elim
  | _ => exact False.elim q

/-! ### range -/
def rng (lo : Int) (n : Nat) : List D := (List.range n).map fun i : Nat => .int (lo + i)
theorem simj_rng {K : PySem.W.Frag} {Hb : Hp} {S : Sh} {H : Hp} {lo : Int} {n : Nat} : SimJ K Hb S H (Itr lo n) (rng lo n) (fun _ => True) := fun S' H' g _ i => by
  refine ⟨fun d hd => ?_, fun hi => ?_⟩
  · unfold rng at hd
    rw [List.getElem?_map] at hd
    have hl : i < n := by
      cases e : (List.range n)[i]? with
      | none => rw [e] at hd; cases hd
      | some j => have := (List.getElem?_eq_some_iff.mp e).1; simpa using this
    rw [List.getElem?_range hl] at hd
    cases hd
    exact ⟨hl, fun x H2 ⟨e1, e2⟩ => by subst e1; subst e2; exact ⟨Go.refl g.wd, rfl⟩⟩
  · show n ≤ i
    simpa [rng] using hi
def dRng1 (a : AD) : ID := fun δ S Q => a δ S fun ds S1 => match ds with | [.int j] => -(2 ^ 62) ≤ j ∧ j < 2 ^ 62 ∧ Q (rng 0 j.toNat) (fun _ => True) S1 | _ => False
def dRng2 (a : AD) : ID := fun δ S Q => a δ S fun ds S1 => match ds with | [.int i, .int j] => (-(2 ^ 62) ≤ i ∧ i < 2 ^ 62 ∧ -(2 ^ 62) ≤ j ∧ j < 2 ^ 62) ∧ Q (rng i (j - i).toNat) (fun _ => True) S1 | _ => False
theorem i_rng1 (hm : X.mg "range" = none) (ha : A X [a] α) (hg : Gl X "range" := by rfl) (hs : starEach [a] X.env = [(false, eval a X.env)] := by rfl) : I X tg (.Call (.Name "range" p) [a] [] pos) (dRng1 α) := by
  obtain ⟨t, a1, a2⟩ := ha
  refine ⟨_, pi_range1 hg hm a1 hs, fun σ H δ S w sl Q R k h => ?_⟩
  refine a2 σ H δ S w sl _ _ (fun vs H1 ds S1 g1 rs q => ?_) h
  rcases ds with _ | ⟨d, _ | ⟨d2, ds⟩⟩
  · exact False.elim q
  · obtain ⟨v, r, rfl, rv, rfl⟩ := rs
    cases d with
    | int j =>
      obtain rfl := rv
      exact ⟨j, rfl, q.1, q.2.1, k _ H1 S1 _ _ g1 simj_rng trivial q.2.2⟩
    | _ => exact False.elim q
  · cases d <;> exact False.elim q
theorem i_rng2 (hm : X.mg "range" = none) (ha : A X [a, b] α) (hg : Gl X "range" := by rfl) (hs : starEach [a, b] X.env = [(false, eval a X.env), (false, eval b X.env)] := by rfl) (hs2 : starEach [b] X.env = [(false, eval b X.env)] := by rfl) : I X tg (.Call (.Name "range" p) [a, b] [] pos) (dRng2 α) := by
  obtain ⟨t, a1, a2⟩ := ha
  refine ⟨_, pi_range2 hg hm a1 hs hs2, fun σ H δ S w sl Q R k h => ?_⟩
  refine a2 σ H δ S w sl _ _ (fun vs H1 ds S1 g1 rs q => ?_) h
  rcases ds with _ | ⟨d, _ | ⟨d2, _ | ⟨d3, ds⟩⟩⟩
  · exact False.elim q
  · cases d <;> exact False.elim q
  · obtain ⟨v, r, rfl, rv, u, r2, rfl, ru, rfl⟩ := rs
    cases d with
    | int i =>
      cases d2 with
      | int j =>
        obtain rfl := rv
        obtain rfl := ru
        exact ⟨i, j, rfl, q.1, k _ H1 S1 _ _ g1 simj_rng trivial q.2⟩
      | _ => exact False.elim q
    | _ => exact False.elim q
  · cases d with
    | int i => cases d2 <;> exact False.elim q
    | _ => exact False.elim q

/-! ### methods of built-in types -/
def tyD (ty : String) (S : Sh) (x : D) : Prop := match x with
  | .str _ => ty = "str"
  | .frz _ => ty = "list"
  | .rf p => ty = "list" ∧ ∃ ds, S p = some (.lst ds)
  | _ => False
theorem ty_ok {K : PySem.W.Frag} {H : Hp} {S : Sh} {ty : String} {d : D} {v : V} (w : Wd K H S) (r : Rep K H d v) (h : tyD ty S d) : tyV K ty v H := by
  cases d with
  | str s => obtain rfl := r; exact h
  | frz ds =>
    obtain ⟨a, vs, rfl, hf, _⟩ := r
    exact .inl ⟨h, vs, hf.l⟩
  | rf p =>
    obtain rfl := r
    obtain ⟨h1, ds, es⟩ := h
    obtain ⟨ho, e0, vs, rfl, rs⟩ := w _ _ es
    exact .inl ⟨h1, vs, SqL.of e0⟩
  | _ => exact False.elim h
abbrev MD := D → List D → Sh → QD → Prop
def SimM (K : PySem.W.Frag) (r : V → List V → Hp → VK → Prop) (ρ : MD) : Prop := ∀ H S x dx vs ds, Wd K H S → Rep K H dx x → Reps K H ds vs → ∀ (Q : QD) (R : VK), (∀ v H' d S', Go K S H S' H' → Rep K H' d v → Q d S' → R v H') → ρ dx ds S Q → r x vs H R
def M (X : Cx) (id : String) (ρ : MD) : Prop := ∃ r, MtR X id r ∧ SimM X.K r ρ
def dBM0 (ty : String) (ρ : MD) (a : ED) : ED := fun δ S Q => a δ S fun x S1 => tyD ty S1 x ∧ ρ x [] S1 Q
def dBM (ty : String) (ρ : MD) (a : ED) (l : AD) : ED := fun δ S Q => a δ S fun x S1 => tyD ty S1 x ∧ l δ S1 fun ds S2 => ρ x ds S2 Q
theorem e_bm0 {ty id : String} {name : Str} {ρ : MD} (pa : PlainAttrs ty) (slot : Slot ty name id) (hty : typeOf (.builtin id) = pure (.type "method_descriptor")) (hm : M X id ρ) (ho : E X o τ)
    (hbase : attributeBase o name X.env (eval o X.env) = eval o X.env := by rfl) (hline : (apos.endLine == cpos.line) = true := by rfl) : E X (.Call (.Attribute o name apos) [] [] cpos) (dBM0 ty ρ τ) := by
  obtain ⟨r, m1, m2⟩ := hm
  obtain ⟨t, a1, a2⟩ := ho
  refine ⟨_, pe_bm0 pa slot hty m1 a1 hbase hline, fun σ H δ S w sl Q R k h => ?_⟩
  refine a2 σ H δ S w sl _ _ (fun v H1 d S1 g1 rv q => ⟨ty_ok g1.wd rv q.1, ?_⟩) h
  exact m2 H1 S1 v d [] [] g1.wd rv rfl Q R (fun v' H2 d' S2 g2 => k v' H2 d' S2 (g1.trans g2)) q.2
theorem e_bm {ty id : String} {name : Str} {ρ : MD} (pa : PlainAttrs ty) (slot : Slot ty name id) (hty : typeOf (.builtin id) = pure (.type "method_descriptor")) (hm : M X id ρ) (ho : E X o τ) (ha : A X (e :: es) α)
    (hbase : attributeBase o name X.env (eval o X.env) = eval o X.env := by rfl)
    (hfew : ((backTo cpos (starEach (e :: es) X.env)).all (fun x => !x.1) && (backToKw cpos (keywordEach [] X.env)).all (fun x => x.1.isSome)
      && decide ((e :: es).length + ([] : List Keyword).length + (if ([] : List Keyword).isEmpty then 0 else 1) < 30)) = true := by rfl)
    (hline : (apos.endLine == cpos.line) = true := by rfl) (hs : starEach (e :: es) X.env = (false, eval e X.env) :: starEach es X.env := by rfl) (hplain : (backTo cpos (starEach es X.env)).any (·.1) = false := by rfl) :
    E X (.Call (.Attribute o name apos) (e :: es) [] cpos) (dBM ty ρ τ α) := by
  obtain ⟨r, m1, m2⟩ := hm
  obtain ⟨t, a1, a2⟩ := ho
  obtain ⟨ta, b1, b2⟩ := ha
  refine ⟨_, pe_bm pa slot hty m1 a1 b1 hbase hfew hline hs hplain, fun σ H δ S w sl Q R k h => ?_⟩
  refine a2 σ H δ S w sl _ _ (fun v H1 d S1 g1 rv q => ⟨ty_ok g1.wd rv q.1, ?_⟩) h
  refine b2 σ H1 δ S1 g1.wd (sl.im (g1.im w)) _ _ (fun vs H2 ds S2 g2 rs q2 => ?_) q.2
  exact m2 H2 S2 v d vs ds g2.wd (rv.im (g2.im g1.wd)) rs Q R (fun v' H3 d' S3 g3 => k v' H3 d' S3 ((g1.trans g2).trans g3)) q2
/-- a method whose one argument is a list on the spot -/
def SimML (K : PySem.W.Frag) (r : V → List V → Hp → VK → Prop) (ρ : MD) : Prop := ∀ H S x dx a vs ds, Wd K H S → Rep K H dx x → SqL K H a vs → Reps K H ds vs → ∀ (Q : QD) (R : VK), (∀ v H' d S', Go K S H S' H' → Rep K H' d v → Q d S' → R v H') → ρ dx ds S Q → r x [.ref a] H R
def ML (X : Cx) (id : String) (ρ : MD) : Prop := ∃ r, MtR X id r ∧ SimML X.K r ρ
theorem e_bmL {ty id : String} {name : Str} {ρ : MD} (pa : PlainAttrs ty) (slot : Slot ty name id) (hty : typeOf (.builtin id) = pure (.type "method_descriptor")) (hm : ML X id ρ) (ho : E X o τ) (ha : L X e ν)
    (hbase : attributeBase o name X.env (eval o X.env) = eval o X.env := by rfl)
    (hfew : ((backTo cpos (starEach (e :: []) X.env)).all (fun x => !x.1) && (backToKw cpos (keywordEach [] X.env)).all (fun x => x.1.isSome)
      && decide ((e :: ([] : List Expr)).length + ([] : List Keyword).length + (if ([] : List Keyword).isEmpty then 0 else 1) < 30)) = true := by rfl)
    (hline : (apos.endLine == cpos.line) = true := by rfl) (hs : starEach (e :: []) X.env = (false, eval e X.env) :: starEach [] X.env := by rfl) (hplain : (backTo cpos (starEach [] X.env)).any (·.1) = false := by rfl) :
    E X (.Call (.Attribute o name apos) [e] [] cpos) (dBM ty ρ τ ν) := by
  obtain ⟨r, m1, m2⟩ := hm
  obtain ⟨t, a1, a2⟩ := ho
  obtain ⟨ta, b1, b2⟩ := ha
  refine ⟨_, pe_bm pa slot hty m1 a1 (pa_cons b1 pa_nil hs) hbase hfew hline hs hplain, fun σ H δ S w sl Q R k h => ?_⟩
  refine a2 σ H δ S w sl _ _ (fun v H1 d S1 g1 rv q => ⟨ty_ok g1.wd rv q.1, ?_⟩) h
  refine b2 σ H1 δ S1 g1.wd (sl.im (g1.im w)) _ _ (fun p H2 vs ds S2 g2 hq rs q2 => ?_) q.2
  exact m2 H2 S2 v d p vs ds g2.wd (rv.im (g2.im g1.wd)) hq rs Q R (fun v' H3 d' S3 g3 => k v' H3 d' S3 ((g1.trans g2).trans g3)) q2
/-! texts -/
def mS0 (f : List Nat → D) (ok : List Nat → Prop) : MD := fun x ds S Q => match x, ds with | .str s, [] => ok s ∧ Q (f s) S | _, _ => False
theorem m_S0 {id : String} {r : V → List V → Hp → VK → Prop} {f : List Nat → D} {ok : List Nat → Prop} (h : MtR X id r) (hr : ∀ K H (s : List Nat) R, ok s → (∀ v, Rep K H (f s) v → R v H) → r (.str ⟨s.toArray⟩) [] H R) : M X id (mS0 f ok) := by
  refine ⟨_, h, fun H S x dx vs ds w rx rs Q R k q => ?_⟩
  cases dx with
  | str s =>
    obtain rfl := rx
    cases ds with
    | nil =>
      obtain rfl := rs
      exact hr X.K H s R q.1 fun v rv => k v H (f s) S (Go.refl w) rv q.2
    | cons _ _ => exact False.elim q
  | _ => exact False.elim q
def mS1 (f : List Nat → List Nat → D) (ok : List Nat → List Nat → Prop) : MD := fun x ds S Q => match x, ds with | .str s, [.str t] => ok s t ∧ Q (f s t) S | _, _ => False
theorem m_S1 {id : String} {r : V → List V → Hp → VK → Prop} {f : List Nat → List Nat → D} {ok : List Nat → List Nat → Prop} (h : MtR X id r) (hr : ∀ K H (s t : List Nat) R, ok s t → (∀ v, Rep K H (f s t) v → R v H) → r (.str ⟨s.toArray⟩) [.str ⟨t.toArray⟩] H R) : M X id (mS1 f ok) := by
  refine ⟨_, h, fun H S x dx vs ds w rx rs Q R k q => ?_⟩
  cases dx with
  | str s =>
    obtain rfl := rx
    rcases ds with _ | ⟨d, _ | ⟨d2, ds⟩⟩
    · exact False.elim q
    · obtain ⟨v, r2, rfl, rv, rfl⟩ := rs
      cases d with
      | str t =>
        obtain rfl := rv
        exact hr X.K H s t R q.1 fun v rv => k v H (f s t) S (Go.refl w) rv q.2
      | _ => exact False.elim q
    · cases d <;> exact False.elim q
  | _ => exact False.elim q
end
end DL

set_option Elab.async false
set_option linter.all false
set_option maxRecDepth 100000
namespace DL
open PySem PySem.Spec L2
section
variable {X : Cx} {a b c e o value : Expr} {es : List Expr} {pos p2 p q apos cpos pos' : Pos} {τ τa τb τc : ED} {α ν ν' : AD} {ι : ID} {γ : GD} {κ : TD} {ξ : SD} {tg iter : Expr} {x : Str}
abbrev tx (s : List Nat) : Str := ⟨s.toArray⟩

/-! ### texts' methods -/
def okT (s : List Nat) : Prop := s.length ≤ sizeLine
def okU : List Nat → Prop := fun _ => True
def ok2 : List Nat → List Nat → Prop := fun _ _ => True
def dSta : MD := mS1 (fun s t => .bl (Txt.startswith (tx s) (tx t))) ok2
def dEnd : MD := mS1 (fun s t => .bl (Txt.endswith (tx s) (tx t))) ok2
def dFind : MD := mS1 (fun s t => .int (Txt.find (tx s) (tx t))) ok2
def dIsasc : MD := mS0 (fun s => .bl (Txt.isascii (tx s))) okU
def dIsdig : MD := mS0 (fun s => .bl (Txt.isdigit (tx s))) okU
def dIsalp : MD := mS0 (fun s => .bl (Txt.isalpha (tx s))) okU
def dIsaln : MD := mS0 (fun s => .bl (Txt.isalnum (tx s))) okU
def dIslow : MD := mS0 (fun s => .bl (Txt.islower (tx s))) okU
def dIspri : MD := mS0 (fun s => .bl (Txt.isprintable (tx s))) okU
theorem m_sta : M X "str.startswith" dSta := m_S1 mt_startswith fun K H s t R _ k => ⟨_, _, rfl, rfl, k _ rfl⟩
theorem m_end : M X "str.endswith" dEnd := m_S1 mt_endswith fun K H s t R _ k => ⟨_, _, rfl, rfl, k _ rfl⟩
theorem m_find : M X "str.find" dFind := m_S1 mt_find fun K H s t R _ k => ⟨_, _, rfl, rfl, k _ rfl⟩
theorem m_isasc : M X "str.isascii" dIsasc := m_S0 mt_isascii fun K H s R _ k => ⟨_, rfl, rfl, trivial, k _ rfl⟩
theorem m_isdig : M X "str.isdigit" dIsdig := m_S0 mt_isdigit fun K H s R _ k => ⟨_, rfl, rfl, trivial, k _ rfl⟩
theorem m_isalp : M X "str.isalpha" dIsalp := m_S0 mt_isalpha fun K H s R _ k => ⟨_, rfl, rfl, trivial, k _ rfl⟩
theorem m_isaln : M X "str.isalnum" dIsaln := m_S0 mt_isalnum fun K H s R _ k => ⟨_, rfl, rfl, trivial, k _ rfl⟩
theorem m_islow : M X "str.islower" dIslow := m_S0 mt_islower fun K H s R _ k => ⟨_, rfl, rfl, trivial, k _ rfl⟩
theorem m_ispri : M X "str.isprintable" dIspri := m_S0 mt_isprintable fun K H s R _ k => ⟨_, rfl, rfl, trivial, k _ rfl⟩
/-- find within -/
def dFind4 : MD := fun x ds S Q => match x, ds with | .str s, [.str t, .int i, .int j] => Q (.int (Txt.findIn (tx s) (tx t) i j)) S | _, _ => False
theorem m_find4 : M X "str.find" dFind4 := by
  refine ⟨_, mt_find4, fun H S x dx vs ds w rx rs Q R k q => ?_⟩
  cases dx with
  | str s =>
    obtain rfl := rx
    rcases ds with _ | ⟨d, _ | ⟨d2, _ | ⟨d3, _ | ⟨d4, ds⟩⟩⟩⟩
    · exact False.elim q
    · cases d <;> exact False.elim q
    · cases d <;> first | exact False.elim q | (cases d2 <;> exact False.elim q)
    · obtain ⟨v, r2, rfl, rv, v2, r3, rfl, rv2, v3, r4, rfl, rv3, rfl⟩ := rs
      cases d with
      | str t =>
        cases d2 with
        | int i =>
          cases d3 with
          | int j =>
            obtain rfl := rv
            obtain rfl := rv2
            obtain rfl := rv3
            exact ⟨_, _, _, _, rfl, rfl, k _ H (.int _) S (Go.refl w) rfl q⟩
          | _ => exact False.elim q
        | _ => exact False.elim q
      | _ => exact False.elim q
    · cases d <;> first | exact False.elim q | (cases d2 <;> first | exact False.elim q | (cases d3 <;> exact False.elim q))
  | _ => exact False.elim q
/-- split(sep): a new list -/
theorem Reps.strs {K : PySem.W.Frag} {H : Hp} : ∀ ys : List (List Nat), Reps K H (ys.map D.str) ((ys.map tx).map V.str)
  | [] => rfl
  | _ :: ys => ⟨_, _, rfl, rfl, Reps.strs ys⟩
def dSplit (a b : ED) : AD := fun δ S Q => a δ S fun x S1 => match x with
  | .str s => b δ S1 fun y S2 => (match y with
    | .str t => t ≠ [] ∧ t.all (· < 256) = true ∧ s.length + 2 ≤ sizeLine ∧ Q ((TL.spl t 0 [] s).map D.str) S2
    | _ => False)
  | _ => False
theorem n_split (ho : E X o τ) (ha : E X e τa) (hs : starEach [e] X.env = [(false, eval e X.env)] := by rfl) (hbase : attributeBase o "split" X.env (eval o X.env) = eval o X.env := by rfl) (hline : (apos.endLine == pos.line) = true := by rfl) :
    N X (.Call (.Attribute o "split" apos) [e] [] pos) (dSplit τ τa) := by
  obtain ⟨t, a1, a2⟩ := ho
  obtain ⟨ta, b1, b2⟩ := ha
  refine ⟨_, pe_split a1 b1 hs hbase hline, fun σ H δ S w sl Q R k h => ?_⟩
  refine a2 σ H δ S w sl _ _ (fun v H1 d S1 g1 rv q => ?_) h
  cases d with
  | str s =>
    obtain rfl := rv
    refine ⟨⟨_, rfl⟩, b2 σ H1 δ S1 g1.wd (sl.im (g1.im w)) _ _ (fun u H2 d2 S2 g2 ru q2 => ?_) q⟩
    cases d2 with
    | str t =>
      obtain rfl := ru
      obtain ⟨q1, q2, q3, q4⟩ := q2
      refine ⟨tx s, tx t, rfl, rfl, ?_, by rw [str_len]; exact q3, fun p hp => ?_⟩
      · rw [str_len]
        cases t with
        | nil => exact absurd rfl q1
        | cons _ _ => rfl
      · have e : Txt.split (tx s) (tx t) = (TL.spl t 0 [] s).map tx := SX.split_S q1 q2
        rw [e]
        have g := Go.new (u := .lst (((TL.spl t 0 [] s).map tx).map V.str)) g2.wd hp
        exact k p _ _ _ S2 ((g1.trans g2).trans g) ((g1.trans g2).th _ hp) upd_same (g2.wd.free hp) (Reps.strs _) q4
    | _ => exact False.elim q2
  | _ => exact False.elim q
/-- sep.join(l) -/
def strsOf : List D → Option (List (List Nat))
  | [] => some []
  | .str s :: r => (strsOf r).map (s :: ·)
  | _ :: _ => none
theorem strsOf_map : ∀ ns : List (List Nat), strsOf (ns.map D.str) = some ns
  | [] => rfl
  | n :: ns => by rw [List.map_cons, strsOf, strsOf_map ns]; rfl
theorem of_strsOf : ∀ {ds : List D} {ns : List (List Nat)}, strsOf ds = some ns → ds = ns.map D.str
  | [], ns, h => by cases h; rfl
  | .str i :: r, ns, h => by
    unfold strsOf at h
    cases e : strsOf r with
    | none => rw [e] at h; cases h
    | some m => rw [e] at h; cases h; rw [of_strsOf e]; rfl
  | .non :: _, _, h => by cases h
  | .bl _ :: _, _, h => by cases h
  | .int _ :: _, _, h => by cases h
  | .ty _ :: _, _, h => by cases h
  | .tup _ :: _, _, h => by cases h
  | .frz _ :: _, _, h => by cases h
  | .rf _ :: _, _, h => by cases h
  | .kst _ _ :: _, _, h => by cases h
theorem Reps.of_strs {K : PySem.W.Frag} {H : Hp} : ∀ {ys : List (List Nat)} {vs : List V}, Reps K H (ys.map D.str) vs → vs = (ys.map tx).map V.str
  | [], _, h => h
  | _ :: _, _, h => by
    obtain ⟨v, r, rfl, h1, h2⟩ := h
    rw [show v = V.str _ from h1, Reps.of_strs h2]; rfl
def joinOk (s : List Nat) (ys : List (List Nat)) : Prop := (ys.map (·.length)).sum + ys.length * s.length ≤ 16777216
theorem join_tx (s : List Nat) (ys : List (List Nat)) : Txt.join (tx s) (ys.map tx) = tx (TL.joinL s ys) := SX.join_S s ys
theorem lens_tx (ys : List (List Nat)) : (ys.map tx).map (·.length) = ys.map (·.length) := SX.lens ys
/-- of a list -/
def dJoin : MD := fun x ds S Q => match x, strsOf ds with | .str s, some ys => joinOk s ys ∧ Q (.str (TL.joinL s ys)) S | _, _ => False
theorem m_join : ML X "str.join" dJoin := by
  refine ⟨_, mt_join, fun H S x dx a vs ds w rx hq rs Q R k q => ?_⟩
  cases dx with
  | str s =>
    obtain rfl := rx
    unfold dJoin at q
    cases e : strsOf ds with
    | none => rw [e] at q; exact q.elim
    | some ys =>
      rw [e] at q
      obtain rfl := of_strsOf e
      obtain rfl := rs.of_strs
      refine ⟨_, a, ys.map tx, rfl, rfl, .inl hq, ?_, ?_⟩
      · rw [lens_tx, List.length_map, str_len]; exact q.1
      · rw [join_tx]; exact k _ H (.str _) S (Go.refl w) rfl q.2
  | _ => exact False.elim q
/-- of a tuple -/
def dJoinT : MD := fun x ds S Q => match x, ds with | .str s, [.tup es] => (match strsOf es with | some ys => joinOk s ys ∧ Q (.str (TL.joinL s ys)) S | none => False) | _, _ => False
theorem m_joinT : M X "str.join" dJoinT := by
  refine ⟨_, mt_join, fun H S x dx vs ds w rx rs Q R k q => ?_⟩
  cases dx with
  | str s =>
    obtain rfl := rx
    rcases ds with _ | ⟨d, _ | ⟨d2, ds⟩⟩
    · exact False.elim q
    · obtain ⟨v, r, rfl, rv, rfl⟩ := rs
      cases d with
      | tup es =>
        obtain ⟨a, us, rfl, hq, rs⟩ := rv
        simp only [dJoinT] at q
        cases e : strsOf es with
        | none => rw [e] at q; exact q.elim
        | some ys =>
          rw [e] at q
          obtain rfl := of_strsOf e
          obtain rfl := rs.of_strs
          refine ⟨_, a, ys.map tx, rfl, rfl, .inr hq, ?_, ?_⟩
          · rw [lens_tx, List.length_map, str_len]; exact q.1
          · rw [join_tx]; exact k _ H (.str _) S (Go.refl w) rfl q.2
      | _ => exact False.elim q
    · cases d <;> exact False.elim q
  | _ => exact False.elim q

/-! ### lists changed -/
def dApp : MD := fun x ds S Q => match x, ds with | .rf p, [d] => (match S p with | some (.lst xs) => xs.length < sizeLine ∧ Q .non (su S p (.lst (xs ++ [d]))) | _ => False) | _, _ => False
theorem m_app : M X "list.append" dApp := by
  refine ⟨_, mt_append, fun H S x dx vs ds w rx rs Q R k q => ?_⟩
  cases dx with
  | rf p =>
    obtain rfl := rx
    rcases ds with _ | ⟨d, _ | ⟨d2, ds⟩⟩
    · exact False.elim q
    · obtain ⟨v, r, rfl, rv, rfl⟩ := rs
      simp only [dApp] at q
      split at q
      · rename_i xs es
        obtain ⟨ho, e0, us, rfl, ru⟩ := w _ _ es
        refine ⟨p, us, v, rfl, rfl, e0, by rw [← ru.length]; exact q.1, ?_⟩
        exact k _ _ .non _ (Go.wr (o' := .lst (xs ++ [d])) w es fun H' m => ⟨_, rfl, ((ru.append (Reps.one rv)).im m)⟩) rfl q.2
      · exact q.elim
    · exact False.elim q
  | _ => exact False.elim q
/-- l[i] = v -/
def dSetL (o i : ED) : GD := fun d δ S Q => o δ S fun x S1 => i δ S1 fun y S2 => match x, y with
  | .rf p, .int i => (match S2 p with | some (.lst xs) => (match ixN xs.length i with | some j => Q δ (su S2 p (.lst (xs.set j d))) | none => False) | _ => False)
  | _, _ => False
theorem g_setL {i : Expr} {τo τi : ED} (ho : E X o τo) (hi : E X i τi) (ha : ∀ v, assign (.Subscript o i pos) X.env v = (do
      let ov ← holding [v] (eval o X.env)
      let iv ← holding [v, ov] (eval i X.env)
      standAt pos
      holding [v, ov, iv] (setItem ov iv v)
      release [v, ov, iv] []) := by intro _; rfl) : G X (.Subscript o i pos) (dSetL τo τi) := by
  obtain ⟨t, a1, a2⟩ := ho
  obtain ⟨ti, b1, b2⟩ := hi
  refine ⟨_, pg_sub a1 b1 set_list ha, fun σ H δ S v d w sl rv Q R k h => ?_⟩
  refine a2 σ H δ S w sl _ _ (fun vo H1 dx S1 g1 ro q => ?_) h
  have sl1 := sl.im (g1.im w)
  refine b2 σ H1 δ S1 g1.wd sl1 _ _ (fun vi H2 dy S2 g2 ri q => ?_) q
  cases dx with
  | rf p =>
    obtain rfl := ro
    cases dy with
    | int i =>
      obtain rfl := ri
      simp only at q
      split at q
      · rename_i xs es
        cases e : ixN xs.length i with
        | none => rw [e] at q; exact q.elim
        | some j =>
          rw [e] at q
          obtain ⟨ho, e0, us, rfl, ru⟩ := g2.wd _ _ es
          refine ⟨p, us, i, j, rfl, rfl, e0, by rw [← ru.length]; exact e, ?_⟩
          have g3 := Go.wr (u := .lst (us.set j v)) (o' := .lst (xs.set j d)) g2.wd es fun H' m => ⟨_, rfl, (ru.set j ((rv.im (g1.im w)).im (g2.im g1.wd))).im m⟩
          exact k σ _ δ _ ((g1.trans g2).trans g3) ((sl1.im (g2.im g1.wd)).im (g3.im g2.wd)) q
      · exact q.elim
    | _ => exact False.elim q
  | _ => exact False.elim q
/-- targets in a tuple -/
def dGnil : GsD := fun ds δ S Q => match ds with | [] => Q δ S | _ => False
def dGcons (g : GD) (r : GsD) : GsD := fun ds δ S Q => match ds with | d :: ds => g d δ S fun δ1 S1 => r ds δ1 S1 Q | [] => False
def dGtup (r : GsD) (n : Nat) : GD := fun d δ S Q => match d with | .tup ds => ds.length = n ∧ r ds δ S Q | _ => False
variable {γs : GsD}
theorem gs_nil : Gs X [] dGnil := ⟨_, pgs_nil, fun σ H δ S vs ds w sl r Q R k h => by
  cases ds with
  | nil => exact ⟨r, k σ H δ S (Go.refl w) sl h⟩
  | cons _ _ => exact False.elim h⟩
theorem gs_cons (h1 : G X e γ) (h2 : Gs X es γs) (hs : (assignEach (e :: es) X.env).map (·.2) = assign e X.env :: (assignEach es X.env).map (·.2) := by rfl) : Gs X (e :: es) (dGcons γ γs) := by
  obtain ⟨t, a1, a2⟩ := h1
  obtain ⟨ts, b1, b2⟩ := h2
  refine ⟨_, pgs_cons a1 b1 hs, fun σ H δ S vs ds w sl r Q R k h => ?_⟩
  cases ds with
  | nil => exact False.elim h
  | cons d ds =>
    obtain ⟨v, rr, rfl, rv, rs⟩ := r
    refine ⟨v, rr, rfl, a2 σ H δ S v d w sl rv _ _ (fun σ1 H1 δ1 S1 g1 sl1 q => ?_) h⟩
    exact b2 σ1 H1 δ1 S1 rr ds g1.wd sl1 (rs.im (g1.im w)) Q R (fun σ2 H2 δ2 S2 g2 => k σ2 H2 δ2 S2 (g1.trans g2)) q
theorem g_tup {k : Nat} {n : Nat} (h : Gs X es γs) (hc : X.calm = true := by rfl) (hn : (assignEach es X.env).length = n := by rfl) (hst : (assignEach es X.env).findIdx? (·.1) = none := by rfl) : G X (.Tuple es k pos) (dGtup γs n) := by
  obtain ⟨t, a1, a2⟩ := h
  refine ⟨_, pg_tup hc a1 hn hst, fun σ H δ S v d w sl rv Q R k h => ?_⟩
  cases d with
  | tup ds =>
    obtain ⟨a, vs, rfl, hq, rs⟩ := rv
    exact ⟨a, vs, rfl, hq, by rw [← rs.length]; exact h.1, a2 σ H δ S vs ds w sl rs Q R k h.2⟩
  | _ => exact False.elim h
/-- a, b = e1, e2 with plain local names -/
def dPar (i j : Nat) (l : AD) : SD := fun F δ S => l δ S fun ds S1 => match ds with | [d1, d2] => F.nx ((δ.set i (some d1)).set j (some d2)) S1 | _ => False
theorem s_par (i j : Nat) {x y : Str} {px py pt : Pos} {kt k2 : Nat} {pt2 : Pos} (hN : X.N.Nodup) (ha : A X [a, b] α) (hi : X.N[i]? = some x := by rfl) (hj : X.N[j]? = some y := by rfl) (hij : i ≠ j := by decide)
    (hx : X.env.scope.names.lookup x = some .local := by rfl) (hy : X.env.scope.names.lookup y = some .local := by rfl)
    (hw : swappedStores [.Tuple [.Name x px, .Name y py] kt pt] (.Tuple [a, b] k2 pt2) X.env = pure (some [x, y]) := by rfl) (hc : X.calm = true := by rfl)
    (hs : swapsWithSole [.Tuple [.Name x px, .Name y py] kt pt] (.Tuple [a, b] k2 pt2) pos.line X.env = pure false := by rfl) :
    S1 X (.Assign [.Tuple [.Name x px, .Name y py] kt pt] (.Tuple [a, b] k2 pt2) pos) (dPar i j α) := by
  obtain ⟨t, a1, a2⟩ := ha
  refine ⟨_, ps_par hc hN hi hj hij hx hy a1 hw hs, fun σ H δ S w sl F G hn hr hb hct h => ?_⟩
  refine a2 σ H δ S w sl _ _ (fun vs H1 ds S1 g1 rs q => ?_) h
  rcases ds with _ | ⟨d, _ | ⟨d2, _ | ⟨d3, ds⟩⟩⟩
  · exact False.elim q
  · exact False.elim q
  · obtain ⟨v, r, rfl, rv, u, r2, rfl, ru, rfl⟩ := rs
    exact ⟨v, u, rfl, hn _ H1 _ S1 g1 (((sl.im (g1.im w)).set i rv).set j ru) q⟩
  · exact False.elim q

/-! ### in -/
def flatD : D → Bool
  | .non => true | .bl _ => true | .int _ => true | .str _ => true | _ => false
def eqD : D → D → Bool
  | .non, .non => true
  | .bl a, .bl b => a == b
  | .bl a, .int b => (if a then 1 else 0) == b
  | .int a, .bl b => a == (if b then 1 else 0)
  | .int a, .int b => a == b
  | .str a, .str b => a == b
  | _, _ => false
def inD (x : D) (xs : List D) : Bool := xs.any fun y => eqD y x
theorem flat_rep {K : PySem.W.Frag} {H : Hp} {d : D} {v : V} (r : Rep K H d v) (h : flatD d = true) : flatV v = true := by
  cases d <;> first | (obtain rfl := r; rfl) | cases h
theorem eq_rep {K : PySem.W.Frag} {H : Hp} {d e : D} {v u : V} (r : Rep K H d v) (s : Rep K H e u) (h : flatD d = true) (h' : flatD e = true) : eqV v u = eqD d e := by
  cases d <;> cases h <;> cases e <;> cases h' <;> (obtain rfl := r; obtain rfl := s; try rfl)
  show ((⟨_⟩ : Str) == ⟨_⟩) = _
  rw [Bool.eq_iff_iff]
  simp [str_inj, eqD]
theorem flats_rep {K : PySem.W.Frag} {H : Hp} : ∀ {ds : List D} {vs : List V}, Reps K H ds vs → ds.all flatD = true → vs.all flatV = true
  | [], _, r, _ => by rw [show _ = ([] : List V) from r]; rfl
  | d :: ds, _, r, h => by
    obtain ⟨v, rr, rfl, rv, rs⟩ := r
    rw [List.all_cons, Bool.and_eq_true] at h ⊢
    exact ⟨flat_rep rv h.1, flats_rep rs h.2⟩
theorem in_rep {K : PySem.W.Frag} {H : Hp} {d : D} {v : V} (rv : Rep K H d v) (h : flatD d = true) : ∀ {ds : List D} {vs : List V}, Reps K H ds vs → ds.all flatD = true → inV v vs = inD d ds
  | [], _, r, _ => by rw [show _ = ([] : List V) from r]; rfl
  | e :: ds, _, r, h2 => by
    obtain ⟨u, rr, rfl, ru, rs⟩ := r
    rw [List.all_cons, Bool.and_eq_true] at h2
    show (eqV u v || inV v rr) = (eqD e d || inD d ds)
    rw [eq_rep ru rv h2.1 h, in_rep rv h rs h2.2]
/-- in of a tuple, a list, a text (one sign) -/
def dInS (neg : Bool) (x y : D) (S : Sh) (Q : QD) : Prop := match y with
  | .tup ds => flatD x = true ∧ ds.all flatD = true ∧ Q (.bl (if neg then !inD x ds else inD x ds)) S
  | .frz ds => flatD x = true ∧ ds.all flatD = true ∧ Q (.bl (if neg then !inD x ds else inD x ds)) S
  | .rf p => (match S p with | some (.lst ds) => flatD x = true ∧ ds.all flatD = true ∧ Q (.bl (if neg then !inD x ds else inD x ds)) S | _ => False)
  | .str s => (match x with | .str [c] => Q (.bl (if neg then !decide (c ∈ s) else decide (c ∈ s))) S | _ => False)
  | _ => False
def dIn : R2D := dInS false
def dNotIn : R2D := dInS true
theorem in_ok {K : PySem.W.Frag} {H : Hp} {S : Sh} {neg : Bool} {dx dy : D} {x y : V} {Q : QD} {R : VK} (w : Wd K H S) (rx : Rep K H dx x) (ry : Rep K H dy y) (k : ∀ v H' d S', Go K S H S' H' → Rep K H' d v → Q d S' → R v H') (q : dInS neg dx dy S Q) :
    rIn K neg x y H R ∨ (∃ (c : Nat) (z : Str), x = .str ⟨#[c]⟩ ∧ y = .str z ∧ R (.bl (if neg then !decide (c ∈ z.cps.toList) else decide (c ∈ z.cps.toList))) H) := by
  have fin : ∀ {p : Addr} {vs : List V} {ds : List D}, (SqL K H p vs ∨ SqT K H p vs) → Reps K H ds vs → flatD dx = true ∧ ds.all flatD = true ∧ Q (.bl (if neg then !inD dx ds else inD dx ds)) S → rIn K neg x (.ref p) H R := fun {p vs ds} hq rs ⟨h1, h2, q⟩ =>
    ⟨p, vs, rfl, hq, flat_rep rx h1, flats_rep rs h2, by rw [in_rep rx h1 rs h2]; exact k _ H (.bl _) S (Go.refl w) rfl q⟩
  cases dy with
  | tup ds =>
    obtain ⟨p, vs, rfl, hq, rs⟩ := ry
    exact .inl (fin (.inr hq) rs q)
  | frz ds =>
    obtain ⟨p, vs, rfl, hq, rs⟩ := ry
    exact .inl (fin (.inl hq.l) rs q)
  | rf p =>
    obtain rfl := ry
    simp only [dInS] at q
    split at q
    · rename_i ds es
      obtain ⟨ho, e0, vs, rfl, rs⟩ := w _ _ es
      exact .inl (fin (.inl (SqL.of e0)) rs q)
    · exact q.elim
  | str s =>
    obtain rfl := ry
    simp only [dInS] at q
    split at q
    · rename_i c
      obtain rfl := rx
      exact .inr ⟨c, _, rfl, rfl, k _ H (.bl _) S (Go.refl w) rfl q⟩
    · exact q.elim
  | _ => exact False.elim q
theorem o_in : O X (compareOp .In) dIn := by
  refine ⟨_, op_in_seq.or op_in_sign, fun H S x y dx dy w rx ry Q R k q => ?_⟩
  rcases in_ok w rx ry k q with h | ⟨c, z, e1, e2, h⟩
  · exact .inl h
  · exact .inr ⟨c, z, e1, e2, h⟩
theorem o_notIn : O X (compareOp .NotIn) dNotIn := by
  refine ⟨_, op_notIn_seq.or op_notIn_sign, fun H S x y dx dy w rx ry Q R k q => ?_⟩
  rcases in_ok w rx ry k q with h | ⟨c, z, e1, e2, h⟩
  · exact .inl h
  · exact .inr ⟨c, z, e1, e2, h⟩
end
end DL

set_option Elab.async false
set_option linter.all false
set_option maxRecDepth 100000
namespace DL
open PySem PySem.Spec L2 PyProof.Rows
section
variable {X : Cx} {a b c e o value : Expr} {es : List Expr} {pos p2 p q apos cpos pos' : Pos} {τ τa τb τc τv : ED} {α ν ν' : AD} {ι : ID} {γ : GD} {κ : TD} {ξ : SD} {tg iter : Expr} {x f m : Str} {C : Addr}

/-! ### a text some times -/
theorem foldl_rep (s : Array Nat) : ∀ (k : Nat) (acc : Array Nat), (List.replicate k s).foldl (· ++ ·) acc = acc ++ (List.replicate k s.toList).flatten.toArray
  | 0, acc => by simp
  | k + 1, acc => by
    rw [List.replicate_succ, List.foldl_cons, foldl_rep s k, List.replicate_succ, List.flatten_cons]
    apply Array.ext'
    simp
def repS (s : List Nat) (n : Int) : List Nat := (List.replicate n.toNat s).flatten
def rMulS : R2 := fun x y H Q => ∃ z n, x = .str z ∧ y = .int n ∧ -(2 ^ 63) ≤ n ∧ n < 2 ^ 63 ∧ z.length * n.toNat ≤ 16777216 ∧ Q (.str ⟨(repS z.cps.toList n).toArray⟩) H
theorem op_mulS : OpR X (binaryOp .Mult) rMulS := by
  intro pins s σ H x y v u Q I rx ry h
  obtain ⟨z, n, rfl, rfl, h1, h2, h3, h⟩ := h
  obtain ⟨t, rfl⟩ := rx
  obtain ⟨t', rfl⟩ := ry
  refine PySem.P.mul_str ?_ (fun hn hz => ?_) (fun hn hz => ?_) ?_
  · have e1 : ¬ n < -(2 ^ 63 : Int) := by omega
    have e2 : ¬ n ≥ 2 ^ 63 := by omega
    rw [decide_eq_false e1, decide_eq_false e2]; rfl
  · intro hh
    obtain ⟨m, rfl⟩ := Int.eq_ofNat_of_zero_le (show 0 ≤ n by omega)
    have h3' : z.length * m ≤ 16777216 := h3
    have e : ((z.length : Int) * (m : Int)) ≤ 16777216 := by
      have := Int.ofNat_le.mpr h3'
      rw [Int.natCast_mul] at this
      exact this
    have hp : (0 : Int) < (m : Int) := by omega
    have h4 := (Int.le_ediv_iff_mul_le hp (a := (z.length : Int)) (b := 2 ^ 63 - 1)).mpr (Int.le_trans e (by decide))
    exact absurd hh (Int.not_lt.mpr h4)
  · show decide (_ > sizeLine) = false
    exact decide_eq_false (by rw [sizeLine_eq]; omega)
  · have fin : ∀ {z' : Str} {t : Tok} {k : Nat}, z' = ⟨(repS z.cps.toList n).toArray⟩ → EP X pins σ Q (.str z' t) { s with toks := k } := fun {z' t k} e => by
      subst e
      exact ⟨.str _, H, I.tok _, ⟨t, rfl⟩, h⟩
    by_cases c1 : n < 1
    · rw [if_pos c1]
      refine ⟨by decide, fin ?_⟩
      have : n.toNat = 0 := by omega
      unfold repS; rw [this]; rfl
    · rw [if_neg c1]
      by_cases c2 : (n == 1 || z.length == 0) = true
      · rw [if_pos c2]
        refine fin (k := s.toks) ?_
        rw [Bool.or_eq_true] at c2
        rcases c2 with c2 | c2
        · have : n = 1 := by simpa using c2
          subst this
          simp [repS]
        · have hz : z.cps.size = 0 := by simpa [Str.length] using c2
          have hz' : z.cps = #[] := Array.eq_empty_of_size_eq_zero hz
          cases z
          simp only at hz'
          subst hz'
          simp [repS]
      · rw [if_neg c2]
        have e : (⟨(List.replicate n.toNat z.cps).foldl (· ++ ·) #[]⟩ : Str) = ⟨(repS z.cps.toList n).toArray⟩ := by
          rw [foldl_rep]
          simp [repS]
        refine ⟨?_, fin e⟩
        rw [e, str_len]
        unfold repS
        rw [List.length_flatten, List.map_replicate, List.sum_replicate_nat, sizeLine_eq]
        have : z.cps.toList.length = z.length := by simp [Str.length]
        rw [this, Nat.mul_comm]
        omega
def dMulS : R2D := fun x y S Q => match x, y with
  | .str s, .int n => -(2 ^ 63) ≤ n ∧ n < 2 ^ 63 ∧ s.length * n.toNat ≤ 16777216 ∧ Q (.str (repS s n)) S
  | _, _ => False
theorem o_mulS : O X (binaryOp .Mult) dMulS := by
  refine ⟨_, op_mulS, fun H S x y dx dy w rx ry Q R k q => ?_⟩
  cases dx <;> cases dy <;> first | exact False.elim q | skip
  rename_i s n
  obtain rfl := rx
  obtain rfl := ry
  exact ⟨_, n, rfl, rfl, q.1, q.2.1, by rw [str_len]; exact q.2.2.1, k _ H (.str (repS s n)) S (Go.refl w) rfl q.2.2.2⟩

/-! ### lists on the spot: +, ==, in -/
def dCatL (l r : AD) : AD := fun δ S Q => l δ S fun xs S1 => r δ S1 fun ys S2 => xs.length + ys.length ≤ sizeLine ∧ Q (xs ++ ys) S2
/-- a list whose contents stand still while the right side is reckoned: new, or by a check -/
def dCatE (a : ED) (r : AD) : AD := fun δ S Q => a δ S fun x S1 => r δ S1 fun ys S2 => match x with
  | .rf p => (match S2 p with | some (.lst xs) => xs.length + ys.length ≤ sizeLine ∧ Q (xs ++ ys) S2 | _ => False)
  | _ => False
theorem cat_fin {K : PySem.W.Frag} {H : Hp} {S : Sh} {l b : Addr} {vs us : List V} {xs ys : List D} {Q : List D → Sh → Prop} {R : VK} (w : Wd K H S) (hl : H l = some (.lst vs)) (hb : H b = some (.lst us)) (r1 : Reps K H xs vs) (r2 : Reps K H ys us)
    (k : ∀ a H' vs ds S', Go K S H S' H' → H a = none → H' a = some (.lst vs) → S' a = none → Reps K H' ds vs → Q ds S' → R (.ref a) H') (q : xs.length + ys.length ≤ sizeLine ∧ Q (xs ++ ys) S) : rCat (.ref l) (.ref b) H R :=
  ⟨l, b, vs, us, rfl, rfl, hl, hb, by rw [← r1.length, ← r2.length]; exact q.1, fun p hp => by
    have g := Go.new (u := .lst (vs ++ us)) w hp
    exact k p _ _ (xs ++ ys) S g hp upd_same (w.free hp) ((r1.append r2).im (g.im w)) q.2⟩
theorem n_cat (ha : N X a ν) (hb : N X b ν') : N X (.BinOp a .Add b pos) (dCatL ν ν') := by
  obtain ⟨ta, a1, a2⟩ := ha
  obtain ⟨tb, b1, b2⟩ := hb
  refine ⟨_, pe_op op_cat a1 b1, fun σ H δ S w sl Q R k h => ?_⟩
  refine a2 σ H δ S w sl _ _ (fun p H1 vs ds S1 g1 h0 hp hs rs q => ?_) h
  refine b2 σ H1 δ S1 g1.wd (sl.im (g1.im w)) _ _ (fun p2 H2 us es S2 g2 h02 hp2 hs2 rs2 q2 => ?_) q
  exact cat_fin g2.wd (g2.ext p _ hp hs) hp2 (rs.im (g2.im g1.wd)) rs2 (fun a' H3 vs' ds' S3 g3 h3 => k a' H3 vs' ds' S3 ((g1.trans g2).trans g3) ((g1.trans g2).th _ h3)) q2
theorem n_catE (ha : E X a τ) (hb : N X b ν') : N X (.BinOp a .Add b pos) (dCatE τ ν') := by
  obtain ⟨ta, a1, a2⟩ := ha
  obtain ⟨tb, b1, b2⟩ := hb
  refine ⟨_, pe_op op_cat a1 b1, fun σ H δ S w sl Q R k h => ?_⟩
  refine a2 σ H δ S w sl _ _ (fun v H1 d S1 g1 rv q => ?_) h
  refine b2 σ H1 δ S1 g1.wd (sl.im (g1.im w)) _ _ (fun p2 H2 us es S2 g2 h02 hp2 hs2 rs2 q2 => ?_) q
  cases d with
  | rf p =>
    obtain rfl := rv
    simp only at q2
    split at q2
    · rename_i xs es2
      obtain ⟨ho, e0, vs, rfl, rs⟩ := g2.wd _ _ es2
      exact cat_fin g2.wd e0 hp2 rs rs2 (fun a' H3 vs' ds' S3 g3 h3 => k a' H3 vs' ds' S3 ((g1.trans g2).trans g3) ((g1.trans g2).th _ h3)) q2
    · exact q2.elim
  | _ => exact False.elim q2
def dCatR (l : AD) (b : ED) : AD := fun δ S Q => l δ S fun xs S1 => b δ S1 fun y S2 => match y with
  | .rf p => (match S2 p with | some (.lst ys) => xs.length + ys.length ≤ sizeLine ∧ Q (xs ++ ys) S2 | _ => False)
  | _ => False
theorem n_catR (ha : N X a ν) (hb : E X b τ) : N X (.BinOp a .Add b pos) (dCatR ν τ) := by
  obtain ⟨ta, a1, a2⟩ := ha
  obtain ⟨tb, b1, b2⟩ := hb
  refine ⟨_, pe_op op_cat a1 b1, fun σ H δ S w sl Q R k h => ?_⟩
  refine a2 σ H δ S w sl _ _ (fun p H1 vs ds S1 g1 h0 hp hs rs q => ?_) h
  refine b2 σ H1 δ S1 g1.wd (sl.im (g1.im w)) _ _ (fun v H2 d S2 g2 rv q2 => ?_) q
  cases d with
  | rf p2 =>
    obtain rfl := rv
    simp only at q2
    split at q2
    · rename_i ys es2
      obtain ⟨ho, e0, us, rfl, rs2⟩ := g2.wd _ _ es2
      exact cat_fin g2.wd (g2.ext p _ hp hs) e0 (rs.im (g2.im g1.wd)) rs2 (fun a' H3 vs' ds' S3 g3 h3 => k a' H3 vs' ds' S3 ((g1.trans g2).trans g3) ((g1.trans g2).th _ h3)) q2
    · exact q2.elim
  | _ => exact False.elim q2
def dCatEE (a b : ED) : AD := fun δ S Q => a δ S fun x S1 => b δ S1 fun y S2 => match x, y with
  | .rf p, .rf q => (match S2 p, S2 q with | some (.lst xs), some (.lst ys) => xs.length + ys.length ≤ sizeLine ∧ Q (xs ++ ys) S2 | _, _ => False)
  | _, _ => False
theorem n_catEE (ha : E X a τa) (hb : E X b τb) : N X (.BinOp a .Add b pos) (dCatEE τa τb) := by
  obtain ⟨ta, a1, a2⟩ := ha
  obtain ⟨tb, b1, b2⟩ := hb
  refine ⟨_, pe_op op_cat a1 b1, fun σ H δ S w sl Q R k h => ?_⟩
  refine a2 σ H δ S w sl _ _ (fun v H1 d S1 g1 rv q => ?_) h
  refine b2 σ H1 δ S1 g1.wd (sl.im (g1.im w)) _ _ (fun u H2 d2 S2 g2 ru q2 => ?_) q
  cases d with
  | rf p =>
    cases d2 with
    | rf p2 =>
      obtain rfl := rv
      obtain rfl := ru
      simp only at q2
      split at q2
      · rename_i xs ys e1 e2
        obtain ⟨ho, e0, vs, rfl, rs⟩ := g2.wd _ _ e1
        obtain ⟨ho2, e02, us, rfl, rs2⟩ := g2.wd _ _ e2
        exact cat_fin g2.wd e0 e02 rs rs2 (fun a' H3 vs' ds' S3 g3 h3 => k a' H3 vs' ds' S3 ((g1.trans g2).trans g3) ((g1.trans g2).th _ h3)) q2
      · exact q2.elim
    | _ => exact False.elim q2
  | _ => exact False.elim q2
/-- *e among the items -/
def dStar (a : ED) (r : AD) : AD := fun δ S Q => a δ S fun x S1 => match x with
  | .tup xs => r δ S1 fun ys S2 => Q (xs ++ ys) S2
  | _ => False
theorem a_star (ha : E X e τ) (hr : A X es α) (hs : starEach (.Starred e p :: es) X.env = (true, eval e X.env) :: starEach es X.env := by rfl) : A X (.Starred e p :: es) (dStar τ α) := by
  obtain ⟨t, a1, a2⟩ := ha
  obtain ⟨tr, b1, b2⟩ := hr
  refine ⟨_, StX.pa_star a1 b1 hs, fun σ H δ S w sl Q R k h => ?_⟩
  refine a2 σ H δ S w sl _ _ (fun v H1 d S1 g1 rv q => ?_) h
  cases d with
  | tup xs =>
    obtain ⟨pp, vs, rfl, hq, rs⟩ := rv
    refine ⟨pp, vs, rfl, .inl hq, ?_⟩
    refine b2 σ H1 δ S1 g1.wd (sl.im (g1.im w)) _ _ (fun us H2 ys S2 g2 rs2 q2 => ?_) q
    exact k _ H2 (xs ++ ys) S2 (g1.trans g2) ((rs.im (g2.im g1.wd)).append rs2) q2
  | _ => exact False.elim q

/-! ### == of deep data, of lists on the spot -/
mutual
def toPy : D → Option PyData
  | .non => some .none
  | .bl b => some (.bool b)
  | .int i => some (.int i)
  | .str s => some (.str ⟨s.toArray⟩)
  | .tup ds => (toPys ds).map .tuple
  | _ => none
def toPys : List D → Option (List PyData)
  | [] => some []
  | d :: ds => match toPy d, toPys ds with | some x, some xs => some (x :: xs) | _, _ => none
end
mutual
theorem toPy_dp {K : PySem.W.Frag} {H : Hp} : ∀ {d : D} {v : V} {x : PyData}, Rep K H d v → toPy d = some x → Dp K H v x
  | .non, _, _, r, h => by obtain rfl := r; cases h; exact .non
  | .bl b, _, _, r, h => by obtain rfl := r; cases h; exact .bl b
  | .int i, _, _, r, h => by obtain rfl := r; cases h; exact .int i
  | .str s, _, _, r, h => by obtain rfl := r; cases h; exact .str _
  | .tup ds, v, x, r, h => by
    obtain ⟨a, vs, rfl, hq, rs⟩ := r
    unfold toPy at h
    cases e : toPys ds with
    | none => rw [e] at h; cases h
    | some xs =>
      rw [e] at h
      cases h
      exact .tup hq (toPys_dp rs e)
  | .ty _, _, _, _, h => by cases h
  | .frz _, _, _, _, h => by cases h
  | .rf _, _, _, _, h => by cases h
  | .kst _ _, _, _, _, h => by cases h
theorem toPys_dp {K : PySem.W.Frag} {H : Hp} : ∀ {ds : List D} {vs : List V} {xs : List PyData}, Reps K H ds vs → toPys ds = some xs → DpAll K H vs xs
  | [], _, _, r, h => by rw [show _ = ([] : List V) from r]; cases h; exact .nil
  | d :: ds, _, _, r, h => by
    obtain ⟨v, rr, rfl, rv, rs⟩ := r
    unfold toPys at h
    cases e1 : toPy d with
    | none => rw [e1] at h; cases h
    | some x =>
      cases e2 : toPys ds with
      | none => rw [e1, e2] at h; cases h
      | some xs =>
        rw [e1, e2] at h
        cases h
        exact .cons (toPy_dp rv e1) (toPys_dp rs e2)
end
/-- == by the data's own equality -/
def dEqP (neg : Bool) (x y : Option PyData) (S : Sh) (Q : QD) : Prop := match x, y with
  | some d, some e => SeqAt.shaped d = true ∧ SeqAt.shaped e = true ∧ Q (.bl (if neg then !PyData.eqv d e else PyData.eqv d e)) S
  | _, _ => False
def dEqT : R2D := fun x y S Q => dEqP false (toPy x) (toPy y) S Q
def dNeT : R2D := fun x y S Q => dEqP true (toPy x) (toPy y) S Q
theorem o_eqT (hu : X.A.units + 64 < cLine) : O X (compareOp .Eq) dEqT := by
  refine ⟨_, op_eqD hu, fun H S x y dx dy w rx ry Q R k q => ?_⟩
  unfold dEqT dEqP at q
  split at q
  · rename_i d e e1 e2
    exact ⟨d, e, toPy_dp rx e1, toPy_dp ry e2, q.1, q.2.1, k _ H (.bl _) S (Go.refl w) rfl q.2.2⟩
  · exact q.elim
theorem o_neT (hu : X.A.units + 64 < cLine) : O X (compareOp .NotEq) dNeT := by
  refine ⟨_, op_neD hu, fun H S x y dx dy w rx ry Q R k q => ?_⟩
  unfold dNeT dEqP at q
  split at q
  · rename_i d e e1 e2
    exact ⟨d, e, toPy_dp rx e1, toPy_dp ry e2, q.1, q.2.1, k _ H (.bl _) S (Go.refl w) rfl q.2.2⟩
  · exact q.elim
def dEqL (neg : Bool) (l r : AD) : ED := fun δ S Q => l δ S fun xs S1 => r δ S1 fun ys S2 => dEqP neg ((toPys xs).map .list) ((toPys ys).map .list) S2 Q
/-- == of two lists, the left one new -/
theorem eq_l {op : CmpOp} {neg : Bool} {r : R2} (ho : OpR X (compareOp op) r) (hr : ∀ x y H Q, (∃ d e, Dp X.K H x d ∧ Dp X.K H y e ∧ SeqAt.shaped d = true ∧ SeqAt.shaped e = true ∧ Q (.bl (if neg then !PyData.eqv d e else PyData.eqv d e)) H) → r x y H Q)
    (ha : N X a ν) (hb : L X b ν') (hm : behindInMarks op b = false) : E X (.Compare a [op] [b] pos) (dEqL neg ν ν') ∧ T X (.Compare a [op] [b] pos) (dTB (dEqL neg ν ν')) := by
  obtain ⟨ta, a1, a2⟩ := ha
  obtain ⟨tb, b1, b2⟩ := hb
  suffices sim : SimE X.K (tOp r ta tb) (dEqL neg ν ν') by
    refine ⟨⟨_, pe_cmpR ho a1 b1 hm, sim⟩, ⟨_, pt_cmpR ho a1 b1 hm, fun σ H δ S w sl Q R k h => ?_⟩⟩
    refine sim σ H δ S w sl _ _ (fun v H' d S' g r' q => ?_) h
    cases d <;> first | exact False.elim q | skip
    exact ⟨_, r', k _ H' S' g q⟩
  intro σ H δ S w sl Q R k h
  refine a2 σ H δ S w sl _ _ (fun p H1 vs ds S1 g1 h0 hp hs rs q => ?_) h
  refine b2 σ H1 δ S1 g1.wd (sl.im (g1.im w)) _ _ (fun p2 H2 us es S2 g2 hq rs2 q2 => ?_) q
  unfold dEqP at q2
  split at q2
  · rename_i d e e1 e2
    cases f1 : toPys ds with
    | none => rw [f1] at e1; cases e1
    | some xs =>
      cases f2 : toPys es with
      | none => rw [f2] at e2; cases e2
      | some ys =>
        rw [f1] at e1
        rw [f2] at e2
        cases e1
        cases e2
        exact hr _ _ _ _ ⟨.list xs, .list ys, .lst (SqL.of (g2.ext p _ hp hs)) (toPys_dp (rs.im (g2.im g1.wd)) f1), .lst hq (toPys_dp rs2 f2), q2.1, q2.2.1, k _ H2 (.bl _) S2 (g1.trans g2) rfl q2.2.2⟩
  · exact q2.elim
theorem e_eqL (hu : X.A.units + 64 < cLine) (ha : N X a ν) (hb : L X b ν') (hm : behindInMarks .Eq b = false := by exact nomark _) : E X (.Compare a [.Eq] [b] pos) (dEqL false ν ν') := (eq_l (neg := false) (op_eqD hu) (fun _ _ _ _ h => h) ha hb hm).1
theorem t_eqL (hu : X.A.units + 64 < cLine) (ha : N X a ν) (hb : L X b ν') (hm : behindInMarks .Eq b = false := by exact nomark _) : T X (.Compare a [.Eq] [b] pos) (dTB (dEqL false ν ν')) := (eq_l (neg := false) (op_eqD hu) (fun _ _ _ _ h => h) ha hb hm).2
theorem e_neL (hu : X.A.units + 64 < cLine) (ha : N X a ν) (hb : L X b ν') (hm : behindInMarks .NotEq b = false := by exact nomark _) : E X (.Compare a [.NotEq] [b] pos) (dEqL true ν ν') := (eq_l (neg := true) (op_neD hu) (fun _ _ _ _ h => h) ha hb hm).1
theorem t_neL (hu : X.A.units + 64 < cLine) (ha : N X a ν) (hb : L X b ν') (hm : behindInMarks .NotEq b = false := by exact nomark _) : T X (.Compare a [.NotEq] [b] pos) (dTB (dEqL true ν ν')) := (eq_l (neg := true) (op_neD hu) (fun _ _ _ _ h => h) ha hb hm).2

/-! ### own classes -/
def putFD (f : Str) (v : D) : List (Str × D) → List (Str × D)
  | [] => [(f, v)]
  | (g, u) :: r => if g = f then (g, v) :: r else (g, u) :: putFD f v r
theorem RepF.lookup {K : PySem.W.Frag} {H : Hp} {f : Str} : ∀ {ds : List (Str × D)} {fs : List (Str × V)} {d : D}, RepF K H ds fs → ds.lookup f = some d → ∃ v, fs.lookup f = some v ∧ Rep K H d v
  | [], _, _, _, h => by cases h
  | (g, e) :: ds, _, d, r, h => by
    obtain ⟨v, rr, rfl, rv, rs⟩ := r
    rw [List.lookup_cons] at h
    rw [List.lookup_cons]
    cases z : f == g with
    | true => rw [z] at h; cases h; exact ⟨v, rfl, rv⟩
    | false => rw [z] at h; exact RepF.lookup rs h
theorem RepF.none {K : PySem.W.Frag} {H : Hp} {f : Str} : ∀ {ds : List (Str × D)} {fs : List (Str × V)}, RepF K H ds fs → ds.lookup f = none → fs.lookup f = none
  | [], _, r, _ => by rw [show _ = ([] : List (Str × V)) from r]; rfl
  | (g, e) :: ds, _, r, h => by
    obtain ⟨v, rr, rfl, rv, rs⟩ := r
    rw [List.lookup_cons] at h
    rw [List.lookup_cons]
    cases z : f == g with
    | true => rw [z] at h; cases h
    | false => rw [z] at h; exact RepF.none rs h
theorem RepF.put {K : PySem.W.Frag} {H : Hp} {f : Str} {d : D} {v : V} (rv : Rep K H d v) : ∀ {ds : List (Str × D)} {fs : List (Str × V)}, RepF K H ds fs → RepF K H (putFD f d ds) (putF f v fs)
  | [], _, r => by rw [show _ = ([] : List (Str × V)) from r]; exact ⟨v, [], rfl, rv, rfl⟩
  | (g, e) :: ds, _, r => by
    obtain ⟨u, rr, rfl, ru, rs⟩ := r
    by_cases z : g = f
    · have e1 : putF f v ((g, u) :: rr) = (g, v) :: rr := by rw [putF, if_pos z]
      unfold putFD
      rw [if_pos z, e1]
      exact ⟨v, rr, rfl, rv, rs⟩
    · have e1 : putF f v ((g, u) :: rr) = (g, u) :: putF f v rr := by rw [putF, if_neg z]
      unfold putFD
      rw [if_neg z, e1]
      exact ⟨u, _, rfl, ru, RepF.put rv rs⟩
theorem RepF.length {K : PySem.W.Frag} {H : Hp} : ∀ {ds : List (Str × D)} {fs : List (Str × V)}, RepF K H ds fs → ds.length = fs.length
  | [], _, r => by rw [show _ = ([] : List (Str × V)) from r]; rfl
  | (g, e) :: ds, _, r => by
    obtain ⟨u, rr, rfl, ru, rs⟩ := r
    rw [List.length_cons, List.length_cons, RepF.length rs]
def dFld (C : Addr) (a : ED) (f : Str) : ED := fun δ S Q => a δ S fun x S1 => match x with
  | .rf p => ∃ fs d, S1 p = some (.ins C fs) ∧ fs.lookup f = some d ∧ Q d S1
  | _ => False
theorem e_fld (hc : Cls X.K C) (hn : NoAttr X.K C f) (he : E X e τ) (hb : attributeBase e f X.env (eval e X.env) = eval e X.env := by rfl) : E X (.Attribute e f pos) (dFld C τ f) := by
  obtain ⟨t, a1, a2⟩ := he
  refine ⟨_, pe_fld a1 hb, fun σ H δ S w sl Q R k h => ?_⟩
  refine a2 σ H δ S w sl _ _ (fun v H1 d S1 g1 rv q => ?_) h
  cases d with
  | rf p =>
    obtain rfl := rv
    obtain ⟨fs, d, es, el, q⟩ := q
    obtain ⟨ho, e0, dx, us, rfl, rs⟩ := g1.wd _ _ es
    obtain ⟨v, e1, r1⟩ := rs.lookup el
    exact ⟨p, C, dx, us, v, rfl, e0, hc, hn, e1, k v H1 d S1 g1 r1 q⟩
  | _ => exact False.elim q
def dSetF (C : Addr) (a v : ED) (f : Str) : SD := fun F δ S => v δ S fun y S1 => a δ S1 fun x S2 => match x with
  | .rf p => ∃ fs, S2 p = some (.ins C fs) ∧ fs.length < 1000 ∧ F.nx δ (su S2 p (.ins C (putFD f y fs)))
  | _ => False
theorem s_fld (hc : Cls X.K C) (hn : NoAttr X.K C f) (ha : E X o τ) (hv : E X value τv) (hs : swapsWith value (some (.Attribute o f pos')) pos.line X.env = pure false := by rfl) : S1 X (.Assign [.Attribute o f pos'] value pos) (dSetF C τ τv f) := by
  obtain ⟨t, a1, a2⟩ := ha
  obtain ⟨tv, b1, b2⟩ := hv
  refine ⟨_, ps_fld a1 b1 hs, fun σ H δ S w sl F G hnx hr hb hct h => ?_⟩
  refine b2 σ H δ S w sl _ _ (fun y H1 dy S1 g1 ry q => ?_) h
  have sl1 := sl.im (g1.im w)
  refine a2 σ H1 δ S1 g1.wd sl1 _ _ (fun v H2 d S2 g2 rv q => ?_) q
  cases d with
  | rf p =>
    obtain rfl := rv
    obtain ⟨fs, es, el, q⟩ := q
    obtain ⟨ho, e0, dx, us, rfl, rs⟩ := g2.wd _ _ es
    refine ⟨p, C, dx, us, rfl, e0, hc, hn, by rw [← rs.length]; exact el, ?_⟩
    have g3 := Go.wr (u := .ins C dx (putF f y us)) (o' := .ins C (putFD f dy fs)) g2.wd es fun H' m => ⟨dx, _, rfl, (rs.put (ry.im (g2.im g1.wd))).im m⟩
    exact hnx σ _ δ _ ((g1.trans g2).trans g3) ((sl1.im (g2.im g1.wd)).im (g3.im g2.wd)) q
  | _ => exact False.elim q
def dMeth (C : Addr) (m : Str) (n : Nat) (sp : SpD) (a : ED) (l : AD) : ED := fun δ S Q => a δ S fun x S1 => match x with
  | .rf p => ∃ fs, S1 p = some (.ins C fs) ∧ fs.lookup m = none ∧ l δ S1 fun ds S2 => (x :: ds).length = n ∧ sp (x :: ds) S2 Q
  | _ => False
variable {k n : Nat} {g : Addr} {fd : FuncData} {ps : List Str} {sp : SpD}
theorem e_meth {pl : Sem Bool} (c : Cls X.K C) (hm : Meth X.K C m g) (F : FnOk X.prog X.w X.K X.mg X.base CX0 k g fd ps (lift X.K n sp)) (hr : Room k X.A) (hb : Binds X.K fd ps []) (he : E X o τ) (ha : A X (e :: es) α)
    (hst : starEach (e :: es) X.env = (false, eval e X.env) :: starEach es X.env := by rfl) (hpl : (backTo pos (starEach es X.env)).any (·.1) = false := by rfl)
    (ht : eval (.Call (.Attribute o m apos) (e :: es) [] pos) X.env = (do
      let ov ← eval o X.env
      standAt apos.atName
      let (f, first) ← holding [ov] (getMethod ov m pl)
      callWith pos f first (backTo pos (starEach (e :: es) X.env)) (backToKw pos (keywordEach [] X.env))) := by rfl) :
    E X (.Call (.Attribute o m apos) (e :: es) [] pos) (dMeth C m n sp τ α) := by
  obtain ⟨t, a1, a2⟩ := he
  obtain ⟨ta, b1, b2⟩ := ha
  refine ⟨_, pe_meth a1 c hm F hr hb .nil pass0 b1 hst hpl ht, fun σ H δ S w sl Q R k h => ?_⟩
  refine a2 σ H δ S w sl _ _ (fun v H1 d S1 g1 rv q => ?_) h
  cases d with
  | rf p =>
    obtain rfl := rv
    obtain ⟨fs, es2, el, q⟩ := q
    obtain ⟨ho, e0, dx, us, rfl, rs⟩ := g1.wd _ _ es2
    refine ⟨p, dx, us, rfl, e0, rs.none el, ?_⟩
    refine b2 σ H1 δ S1 g1.wd (sl.im (g1.im w)) _ _ (fun vs H2 ds S2 g2 rs2 q2 => ?_) q
    refine ⟨S2, .rf p :: ds, g2.wd, ⟨_, _, rfl, rfl, ?_⟩, q2.1, Q, fun v H3 d S3 g3 r3 q3 => k v H3 d S3 ((g1.trans g2).trans g3) r3 q3, q2.2⟩
    rw [List.append_nil]
    exact rs2
  | _ => exact False.elim q
theorem e_meth0 {pl : Sem Bool} (c : Cls X.K C) (hm : Meth X.K C m g) (F : FnOk X.prog X.w X.K X.mg X.base CX0 k g fd ps (lift X.K n sp)) (hr : Room k X.A) (hb : Binds X.K fd ps []) (he : E X o τ)
    (ht : eval (.Call (.Attribute o m apos) [] [] pos) X.env = (do
      let ov ← eval o X.env
      standAt apos.atName
      let (f, first) ← holding [ov] (getMethod ov m pl)
      callWith pos f first (backTo pos (starEach [] X.env)) (backToKw pos (keywordEach [] X.env))) := by rfl) :
    E X (.Call (.Attribute o m apos) [] [] pos) (dMeth C m n sp τ dNil) := by
  obtain ⟨t, a1, a2⟩ := he
  refine ⟨_, pe_meth0 a1 c hm F hr hb .nil pass0 ht, fun σ H δ S w sl Q R k h => ?_⟩
  refine a2 σ H δ S w sl _ _ (fun v H1 d S1 g1 rv q => ?_) h
  cases d with
  | rf p =>
    obtain rfl := rv
    obtain ⟨fs, es2, el, q⟩ := q
    obtain ⟨ho, e0, dx, us, rfl, rs⟩ := g1.wd _ _ es2
    exact ⟨p, dx, us, rfl, e0, rs.none el, S1, [.rf p], g1.wd, ⟨_, _, rfl, rfl, rfl⟩, q.1, Q, fun v H3 d S3 g3 r3 q3 => k v H3 d S3 (g1.trans g3) r3 q3, q.2⟩
  | _ => exact False.elim q
def dMake (C : Addr) (n : Nat) (sp : SpD) (l : AD) : ED := fun δ S Q => l δ S fun ds S1 => ∀ p, S1 p = none → ds.length + 1 = n ∧ sp (.rf p :: ds) (su S1 p (.ins C [])) fun d S2 => (match d with | .non => Q (.rf p) S2 | _ => False)
theorem e_make {p : Pos} (M : Mk X.K C g) (F : FnOk X.prog X.w X.K X.mg X.base CX0 k g fd ps (lift X.K n sp)) (hr : Room (k + 1) X.A) (hm : X.mg x = some (.ref C)) (hb : Binds X.K fd ps []) (ha : A X (e :: es) α)
    (hg : Gl X x := by rfl) (hdb : (x == ("__debug__" : Str)) = false := by decide) (he : starEach (e :: es) X.env = (false, eval e X.env) :: starEach es X.env := by rfl) (hpl : (backTo pos (starEach es X.env)).any (·.1) = false := by rfl) :
    E X (.Call (.Name x p) (e :: es) [] pos) (dMake C n sp α) := by
  obtain ⟨ta, b1, b2⟩ := ha
  refine ⟨_, pe_make M F hr hg hm hb .nil pass0 b1 hdb he hpl, fun σ H δ S w sl Q R k h => ?_⟩
  refine b2 σ H δ S w sl _ _ (fun vs H1 ds S1 g1 rs q => ?_) h
  intro y dx hy hdx hne
  have hS := g1.wd.free hy
  obtain ⟨q1, q2⟩ := q y hS
  have ga := Go.new (u := .own y) g1.wd hdx
  have hy2 : upd H1 dx (.own y) y = none := by rw [upd_ne (fun z => hne z.symm)]; exact hy
  have gb := Go.newS (u := .ins C dx []) (o := .ins C []) ga.wd hy2 ⟨dx, [], rfl, rfl⟩
  have gab := ga.trans gb
  refine ⟨_, .rf y :: ds, gb.wd, ⟨_, _, rfl, rfl, ?_⟩, q1, _, fun v H3 d S3 g3 r3 q3 => ?_, q2⟩
  · rw [List.append_nil]
    exact rs.im (gab.im g1.wd)
  · cases d with
    | non => exact ⟨r3, k _ H3 (.rf y) S3 ((g1.trans gab).trans g3) rfl q3⟩
    | _ => exact False.elim q3
theorem e_make0 {p : Pos} (M : Mk X.K C g) (F : FnOk X.prog X.w X.K X.mg X.base CX0 k g fd ps (lift X.K n sp)) (hr : Room (k + 1) X.A) (hm : X.mg x = some (.ref C)) (hb : Binds X.K fd ps [])
    (hg : Gl X x := by rfl) (hdb : (x == ("__debug__" : Str)) = false := by decide) : E X (.Call (.Name x p) [] [] pos) (dMake C n sp dNil) := by
  refine ⟨_, pe_make0 M F hr hg hm hb .nil pass0 hdb, fun σ H δ S w sl Q R k h => ?_⟩
  intro y dx hy hdx hne
  have hS := w.free hy
  obtain ⟨q1, q2⟩ := h y hS
  have ga := Go.new (u := .own y) w hdx
  have hy2 : upd H dx (.own y) y = none := by rw [upd_ne (fun z => hne z.symm)]; exact hy
  have gb := Go.newS (u := .ins C dx []) (o := .ins C []) ga.wd hy2 ⟨dx, [], rfl, rfl⟩
  have gab := ga.trans gb
  refine ⟨_, [.rf y], gb.wd, ⟨_, _, rfl, rfl, rfl⟩, q1, _, fun v H3 d S3 g3 r3 q3 => ?_, q2⟩
  cases d with
  | non => exact ⟨r3, k _ H3 (.rf y) S3 (gab.trans g3) rfl q3⟩
  | _ => exact False.elim q3
/-- x += e (a local int) -/
def dAug (i : Nat) (ρ : R2D) (a : ED) : SD := fun F δ S => match δ[i]? with | some (some x) => (a δ S fun y S1 => ρ x y S1 fun d S2 => F.nx (δ.set i (some d)) S2) | _ => False
end

/-! ### a def of the text -/
section
variable {P : Program} {w : World} {K : PySem.W.Frag} {mg : Str → Option Value} {base : Heap}
def startD (N : List Str) (ds : List D) : Sl := ds.map some ++ List.replicate (N.length - ds.length) none
theorem start_ok {K : PySem.W.Frag} {H : Hp} {N : List Str} {ds : List D} {vs : List V} (r : Reps K H ds vs) : SlOk K H (L2.start N vs) (startD N ds) := by
  have hl := r.length
  refine ⟨by unfold L2.start startD; simp [hl], fun i d e => ?_⟩
  unfold startD at e
  unfold L2.start
  by_cases hi : i < ds.length
  · rw [List.getElem?_append_left (by simpa using hi), List.getElem?_map] at e
    cases q : ds[i]? with
    | none => rw [q] at e; cases e
    | some x =>
      rw [q] at e
      cases e
      obtain ⟨v, a, b⟩ := r.get q
      exact ⟨v, by rw [List.getElem?_append_left (by simpa [← hl] using hi), List.getElem?_map, a]; rfl, b⟩
  · rw [List.getElem?_append_right (by simpa using hi), List.getElem?_replicate] at e
    split at e <;> cases e
/-- what is wanted behind a def's body: some of the objects may be forgotten -/
def endsD (Q : QD) : EndsD := { nx := fun _ S => ∃ S', Sle S' S ∧ Q .non S', rt := fun d S => ∃ S', Sle S' S ∧ Q d S' }
theorem fn_lift {x qual : Str} {st : Stmt} {f : Addr} {fd : FuncData} {N ps : List Str} {k : Nat} {sp : SpD} {τ : SD} (F : Fun K x qual st f fd) (Sc : FnScope N ps (defScope st))
    (hd : ∀ (cdv : Value) (A : Around) (outer : List Env) (s : Shared) (H : Hp) (E : XK), Room k (A.deeper (envOfC qual (defScope st) s.heap.objs.size f cdv)) → B (cxOf CX0 P w K mg base N qual (defScope st) f cdv A outer s H E).nox (defBody st) τ)
    (hq : ∀ ds S Q, ds.length = ps.length → sp ds S Q → τ (endsD Q) (startD N ds) S) : FnOk P w K mg base CX0 (k + 1) f fd ps (lift K ps.length sp) := by
  refine F.ok Sc (fun vs H Q E h => ?_) (fun cdv A outer s H vs Q E hr h => ?_)
  · obtain ⟨S, ds, _, r, hl, _⟩ := h
    rw [← r.length, hl]
  · obtain ⟨S, ds, wd, r, hl, Qd, hk, hs⟩ := h
    obtain ⟨t, h1, h2⟩ := hd cdv A outer s H E hr
    refine ⟨t, h1, h2 _ H _ S wd (start_ok r) (endsD Qd) _ (fun σ' H' δ' S' g _ q => ?_) (fun v H' d S' g r' q => ?_) (fun _ _ _ _ _ _ q => q.elim) (fun _ _ _ _ _ _ q => q.elim) (hq ds S Qd hl hs)⟩
    · obtain ⟨S2, le, q⟩ := q
      exact hk _ H' .non S2 (g.le le) rfl q
    · obtain ⟨S2, le, q⟩ := q
      exact hk _ H' d S2 (g.le le) r' q
/-- a weaker promise -/
theorem fn_imp {k : Nat} {f : Addr} {fd : FuncData} {ps : List Str} {n : Nat} {sp sp' : SpD} (F : FnOk P w K mg base CX0 k f fd ps (lift K n sp)) (h : ∀ ds S Q, sp' ds S Q → sp ds S Q) : FnOk P w K mg base CX0 k f fd ps (lift K n sp') :=
  F.imp fun vs H Q E ⟨S, ds, wd, r, hl, Qd, hk, hs⟩ => ⟨S, ds, wd, r, hl, Qd, hk, h _ _ _ hs⟩
/-- a promise that nobody may call in -/
theorem fn_none {k : Nat} {f : Addr} {fd : FuncData} {ps : List Str} {n : Nat} (sp : SpD) (h : ∀ ds S Q, ¬ sp ds S Q) : FnOk P w K mg base CX0 k f fd ps (lift K n sp) :=
  ⟨fun _ _ _ _ ⟨_, _, _, _, _, _, _, hs⟩ => (h _ _ _ hs).elim, fun _ _ _ _ _ _ _ _ _ _ _ _ _ ⟨_, _, _, _, _, _, _, hs⟩ => (h _ _ _ hs).elim⟩
end
end DL

set_option Elab.async false
set_option linter.all false
set_option maxRecDepth 100000
namespace DL
open PySem PySem.Spec L2 PyProof.Rows
section
variable {X : Cx} {a b c e o value elt : Expr} {es : List Expr} {pos p2 p q apos cpos pos' py spos : Pos} {τ τa τb τc τv : ED} {α ν ν' : AD} {ι : ID} {γ : GD} {κ : TD} {ξ : SD} {tg iter : Expr} {x f m y : Str} {C : Addr}
theorem hu {k : Nat} {A : Around} (hr : Room k A) : A.units + 64 < cLine := hr.units
/-- a constant of the module -/
def GlobC (K : PySem.W.Frag) (mg : Str → Option Value) (x : Str) (d : D) : Prop := ∃ u v, mg x = some u ∧ RelV v u ∧ ∀ H, Rep K H d v
theorem e_glob {d : D} (h : GlobC X.K X.mg x d) (hg : Gl X x := by rfl) (hd : (x == ("__debug__" : Str)) = false := by decide) : E X (.Name x pos) (dC d) := by
  obtain ⟨u, v, hm, r, hr⟩ := h
  exact ⟨_, pe_glob hg hm r hd, sim_c hr⟩
theorem glob_int {K : PySem.W.Frag} {mg : Str → Option Value} {i : Int} {t : Tok} (h : mg x = some (.int i t)) : GlobC K mg x (.int i) := ⟨_, .int i, h, ⟨t, rfl⟩, fun _ => rfl⟩
theorem glob_str {K : PySem.W.Frag} {mg : Str → Option Value} {s : Str} {t : Tok} (w : List Nat) (h : mg x = some (.str s t)) (e : s = ⟨w.toArray⟩ := by decide +kernel) : GlobC K mg x (.str w) := ⟨_, .str s, h, ⟨t, rfl⟩, fun _ => by rw [e]; rfl⟩
/-- name = [..] on one line, the name a local -/
theorem s_setLc (i : Nat) {ifs : List Expr} {scope : Scope} {own : List (Str × Nat)} (hN : X.N.Nodup) (hi : I X tg iter ι) (ok : blkC X.N X.env.scope scope own = true)
    (hg : Gw X scope (own.map (·.2)) tg γ) (ht : Tw X scope ifs κ) (he : ∀ (s : Shared) (H : Hp) (C : Addr) (cl : List (Str × Addr)) (fp : List Addr), E (X.blk s H scope (compEnvC scope cl C X.env) fp) elt τ)
    (hy : X.N[i]? = some y := by rfl) (hyl : X.env.scope.names.lookup y = some .local := by rfl)
    (hsw : swapsWith (.ListComp elt [⟨tg, iter, ifs, 0⟩] scope pos) (some (.Name y py)) spos.line X.env = pure true := by exact sw_true rfl rfl rfl (by decide +kernel))
    (hc : X.calm = true := by rfl) (hs : ∀ x, foldedSetIterable iter X.env x = pure x := by intro _; rfl) : S1 X (.Assign [.Name y py] (.ListComp elt [⟨tg, iter, ifs, 0⟩] scope pos) spos) (dAsg (dNew (dLc ι γ κ τ (own.map (·.2)))) (dName i)) := by
  obtain ⟨ti, i1, i2⟩ := hi
  obtain ⟨g, g1, g2⟩ := hg
  obtain ⟨t, t1, t2⟩ := ht
  refine ⟨_, ps_setLc (te := canE X.K τ) hc hN hy hyl hsw i1 (blkOk_by ok) g1 t1 (fun s H C cl fp => (he s H C cl fp).can) hs, fun σ H δ S w sl F G hn hr hb hct h => ?_⟩
  refine sim_lc i2 g2 t2 sim_can σ H δ S w sl _ _ (fun p H' vs ds S' g h0 hp hs r' q => ?_) h
  have g' := g.own h0 hp hs r'
  exact hn _ H' _ _ g' ((sl.im (g.im w)).set i (d := .rf p) rfl) (q p hs)
/-- a comprehension's target of several names -/
def Gws (X : Cx) (scope : Scope) (vs : List Nat) (ts : List Expr) (γ : GsD) : Prop := ∃ g : TGs, (∀ (s : Shared) (H : Hp) (C : Addr) (cl : List (Str × Addr)) (fp : List Addr), PGs (X.blk s H scope (compEnvC scope cl C X.env) fp) ts g) ∧
  ∀ σ σ0 H δ S us ds, Wd X.K H S → SlOk X.K H σ δ → Reps X.K H ds us → wipe σ vs = wipe σ0 vs → ∀ (Q : Sl → Sh → Prop) (R : L2.St → Hp → Prop), (∀ σ' H' δ' S', wipe σ' vs = wipe σ0 vs → Go X.K S H S' H' → SlOk X.K H' σ' δ' → Q δ' S' → R σ' H') → γ ds δ S Q → g us σ H R
theorem wipe_set_any {σ : L2.St} {x : V} {vs : List Nat} {i : Nat} (hi : i ∈ vs) : wipe (σ.set i (some x)) vs = wipe σ vs := by
  have key : ∀ (vs : List Nat) (τ : L2.St) (j : Nat), (wipe τ vs)[j]? = if j ∈ vs then (if j < τ.length then some none else none) else τ[j]? := by
    intro vs
    induction vs with
    | nil => intro τ j; simp [wipe]
    | cons v vs ih =>
      intro τ j
      unfold wipe
      by_cases h : v = j
      · subst h
        rw [List.getElem?_set_self', ih]
        by_cases h2 : v ∈ vs
        · simp [h2]
        · simp [h2]
          by_cases h3 : v < τ.length
          · simp [h3]
          · simp [h3]
      · rw [List.getElem?_set_ne h, ih]
        have : j ≠ v := fun z => h z.symm
        simp [this]
  apply List.ext_getElem?
  intro j
  rw [key, key, List.length_set]
  by_cases h : j ∈ vs
  · simp only [h, if_true]
  · simp only [h, if_false]
    have : i ≠ j := fun z => h (z ▸ hi)
    rw [List.getElem?_set_ne this]
theorem gws_nil {scope : Scope} {vs : List Nat} : Gws X scope vs [] dGnil := ⟨gNil, fun _ _ _ _ _ => pgs_nil, fun σ σ0 H δ S us ds w sl r e Q R k h => by
  cases ds with
  | nil => exact ⟨r, k σ H δ S e (Go.refl w) sl h⟩
  | cons _ _ => exact False.elim h⟩
theorem gws_cons (i : Nat) {scope : Scope} {vs : List Nat} {ts : List Expr} {γs : GsD} (hN : X.N.Nodup) (h2 : Gws X scope vs ts γs) (hi : X.N[i]? = some x := by rfl) (hm : i ∈ vs := by decide)
    (hx : ∀ (s : Shared) (H : Hp) (C : Addr) (cl : List (Str × Addr)) (fp : List Addr), Loc (X.blk s H scope (compEnvC scope cl C X.env) fp).env.scope x := by intro _ _ _ _ _; first | exact Or.inl rfl | exact Or.inr rfl)
    (hf : ∀ (s : Shared) (H : Hp) (C : Addr) (cl : List (Str × Addr)) (fp : List Addr), (X.blk s H scope (compEnvC scope cl C X.env) fp).fn x = true ∨ (X.blk s H scope (compEnvC scope cl C X.env) fp).env.scope.names.lookup x = some .local := by intro _ _ _ _ _; first | exact .inr rfl | exact .inl rfl)
    (hs : ∀ (s : Shared) (H : Hp) (C : Addr) (cl : List (Str × Addr)) (fp : List Addr), (assignEach (.Name x pos :: ts) (X.blk s H scope (compEnvC scope cl C X.env) fp).env).map (·.2) = assign (.Name x pos) (X.blk s H scope (compEnvC scope cl C X.env) fp).env :: (assignEach ts (X.blk s H scope (compEnvC scope cl C X.env) fp).env).map (·.2) := by intro _ _ _ _ _; rfl) :
    Gws X scope vs (.Name x pos :: ts) (dGcons (dName i) γs) := by
  obtain ⟨g, b1, b2⟩ := h2
  refine ⟨gCons (gName i) g, fun s H C cl fp => pgs_cons (pg_name hN hi (hx s H C cl fp) (hf s H C cl fp)) (b1 s H C cl fp) (hs s H C cl fp), fun σ σ0 H δ S us ds w sl r e Q R k h => ?_⟩
  cases ds with
  | nil => exact False.elim h
  | cons d ds =>
    obtain ⟨v, rr, rfl, rv, rs⟩ := r
    exact ⟨v, rr, rfl, b2 _ σ0 H _ S rr ds w (sl.set i rv) rs (by rw [wipe_set_any hm]; exact e) Q R k h⟩
theorem wipe_idem {σ : L2.St} : ∀ {vs : List Nat}, wipe (wipe σ vs) vs = wipe σ vs := by
  have key : ∀ (vs : List Nat) (τ : L2.St) (j : Nat), (wipe τ vs)[j]? = if j ∈ vs then (if j < τ.length then some none else none) else τ[j]? := by
    intro vs
    induction vs with
    | nil => intro τ j; simp [wipe]
    | cons v vs ih =>
      intro τ j
      unfold wipe
      by_cases h : v = j
      · subst h
        rw [List.getElem?_set_self', ih]
        by_cases h2 : v ∈ vs
        · simp [h2]
        · simp [h2]
          by_cases h3 : v < τ.length
          · simp [h3]
          · simp [h3]
      · rw [List.getElem?_set_ne h, ih]
        have : j ≠ v := fun z => h z.symm
        simp [this]
  intro vs
  apply List.ext_getElem?
  intro j
  rw [key, key, wipe_length]
  by_cases h : j ∈ vs
  · simp only [h, if_true]
  · simp only [h, if_false]
theorem gw_tup {k n : Nat} {scope : Scope} {vs : List Nat} {ts : List Expr} {γs : GsD} (h : Gws X scope vs ts γs) (hc : X.calm = true := by rfl)
    (hn : ∀ (s : Shared) (H : Hp) (C : Addr) (cl : List (Str × Addr)) (fp : List Addr), (assignEach ts (X.blk s H scope (compEnvC scope cl C X.env) fp).env).length = n := by intro _ _ _ _ _; rfl)
    (hst : ∀ (s : Shared) (H : Hp) (C : Addr) (cl : List (Str × Addr)) (fp : List Addr), (assignEach ts (X.blk s H scope (compEnvC scope cl C X.env) fp).env).findIdx? (·.1) = none := by intro _ _ _ _ _; rfl) : Gw X scope vs (.Tuple ts k pos) (dGtup γs n) := by
  obtain ⟨g, b1, b2⟩ := h
  refine ⟨gTup X.K n g, fun s H C cl fp => pg_tup hc (b1 s H C cl fp) (hn s H C cl fp) (hst s H C cl fp), fun σ H δ S v d w sl rv Q R k h => ?_⟩
  cases d with
  | tup ds =>
    obtain ⟨a, us, rfl, hq, rs⟩ := rv
    exact ⟨a, us, rfl, hq, by rw [← rs.length]; exact h.1, b2 _ (wipe σ vs) H _ S us ds w sl rs rfl Q R (fun σ' H' δ' S' e => k σ' H' δ' S' (e.trans wipe_idem)) h.2⟩
  | _ => exact False.elim h
end

/-! ### the text's defs behind the top -/
structure Def (K : PySem.W.Frag) (mg : Str → Option Value) (name : Str) (st : Stmt) (ps : List Str) (f : Addr) (fd : FuncData) : Prop where
  fn : Fun K name name st f fd
  mg : mg name = some (.ref f)
  bi : Binds K fd ps []
structure MDef (K : PySem.W.Frag) (name qual : Str) (st : Stmt) (ps : List Str) (f : Addr) (fd : FuncData) : Prop where
  fn : Fun K name qual st f fd
  bi : Binds K fd ps []
theorem only_frz {K : PySem.W.Frag} {H : Hp} {a : Addr} {ns : List Int} (h : Only H) (hs : SqL K H a (ns.map V.int)) : Rep K H (.frz (ns.map D.int)) (.ref a) := by
  refine ⟨a, ns.map V.int, rfl, ?_, Reps.of_ints⟩
  rcases hs with (hs | ⟨o, hs⟩) | hs
  · rcases h a with z | ⟨o, xs, z⟩
    · rw [hs] at z; cases z
    · rw [hs] at z; cases z
  · exact .inl ⟨o, hs⟩
  · exact .inr hs
/-- the law's promise -/
def sp_law : SpD := fun ds S Q => (∃ ns : List Int, ds = [.frz (ns.map D.int)] ∧ ns.length ≤ 63) ∧ Q (.bl true) (fun _ => none)
theorem law_start {K : PySem.W.Frag} {H : Hp} {a : Addr} {ns : List Int} (hl : ns.length ≤ 63) (h : Only H) (hs : SqL K H a (ns.map V.int)) : lift K 1 sp_law [.ref a] H (fun v _ => v = .bl true) fun _ _ _ => False := by
  refine ⟨fun _ => none, [.frz (ns.map D.int)], fun _ _ e => (by cases e), ⟨_, _, rfl, only_frz h hs, rfl⟩, rfl, fun d _ => d = .bl true, fun v H' d S' _ r e => ?_, ⟨ns, rfl, hl⟩, rfl⟩
  subst e
  exact r
end DL

set_option Elab.async false
set_option linter.all false
set_option maxRecDepth 100000
namespace DL
open PySem PySem.Spec L2
/-! ### loops over data -/
theorem loop_inv {γ : GD} {τ : SD} {F : EndsD} {ck : Sh → Prop} (Iv : List D → Sl → Sh → Prop)
    (hs : ∀ x xs δ S (N : Sl → Sh → Prop), Iv (x :: xs) δ S → (∀ δ' S', Iv xs δ' S' → N δ' S') → γ x δ S fun δ1 S1 => τ { F with nx := N, ct := N, bk := F.nx } δ1 S1)
    (hc : ∀ xs δ S, Iv xs δ S → ck S) (hd : ∀ δ S, Iv [] δ S → F.nx δ S) : ∀ xs δ S, Iv xs δ S → dLoop γ τ F ck xs δ S
  | [], δ, S, h => hd δ S h
  | x :: xs, δ, S, h => hs x xs δ S _ h fun δ' S' h' => ⟨hc xs δ' S' h', loop_inv Iv hs hc hd xs δ' S' h'⟩
/-- by the part that is done -/
theorem loop_pre {γ : GD} {τ : SD} {F : EndsD} {ck : Sh → Prop} {all : List D} (Iv : List D → Sl → Sh → Prop) {δ : Sl} {S : Sh} (h0 : Iv [] δ S)
    (hs : ∀ pre x post, all = pre ++ x :: post → ∀ δ S (N : Sl → Sh → Prop), Iv pre δ S → (∀ δ' S', Iv (pre ++ [x]) δ' S' → N δ' S') → γ x δ S fun δ1 S1 => τ { F with nx := N, ct := N, bk := F.nx } δ1 S1)
    (hc : ∀ pre δ S, Iv pre δ S → ck S) (hd : ∀ δ S, Iv all δ S → F.nx δ S) : dLoop γ τ F ck all δ S := by
  refine loop_inv (fun rest δ S => ∃ pre, all = pre ++ rest ∧ Iv pre δ S) ?_ ?_ ?_ all δ S ⟨[], rfl, h0⟩
  · rintro x xs δ S N ⟨pre, e, h⟩ hN
    exact hs pre x xs e δ S N h fun δ' S' h' => hN δ' S' ⟨pre ++ [x], by rw [e, List.append_assoc]; rfl, h'⟩
  · rintro xs δ S ⟨pre, e, h⟩
    exact hc pre δ S h
  · rintro δ S ⟨pre, e, h⟩
    rw [List.append_nil] at e
    subst e
    exact hd δ S h
theorem wh_inv {κ : TD} {τ : SD} {F : EndsD} (Iv : Nat → Sl → Sh → Prop)
    (hs : ∀ n δ S (N : Sl → Sh → Prop), Iv n δ S → (∀ m δ' S', m < n → Iv m δ' S' → N δ' S') → κ δ S fun b S1 => if b = true then τ { F with nx := N, ct := N, bk := F.nx } δ S1 else F.nx δ S1) :
    ∀ n δ S k, Iv n δ S → n < k → dWh κ τ F k δ S := by
  intro n
  induction n using Nat.strongRecOn with
  | ind n ih =>
    intro δ S k h hk
    cases k with
    | zero => omega
    | succ k => exact hs n δ S _ h fun m δ' S' hm h' => ih m hm δ' S' k h' (by omega)
theorem while_inv {κ : TD} {τ : SD} {F : EndsD} (Iv : Nat → Sl → Sh → Prop) {n : Nat} {δ : Sl} {S : Sh} (h0 : Iv n δ S)
    (hs : ∀ n δ S (N : Sl → Sh → Prop), Iv n δ S → (∀ m δ' S', m < n → Iv m δ' S' → N δ' S') → κ δ S fun b S1 => if b = true then τ { F with nx := N, ct := N, bk := F.nx } δ S1 else F.nx δ S1) : dWhile κ τ F δ S :=
  ⟨n + 1, wh_inv Iv hs n δ S _ h0 (Nat.lt_succ_self n)⟩
theorem comp_inv {γ : GD} {κ : TD} {τ : ED} {δ : Sl} {ck : Sh → Prop} {Q : List D → Sh → Prop} (Iv : List D → List D → Sh → Prop)
    (hs : ∀ x xs acc S (Y : D → Sh → Prop) (Z : Sh → Prop), Iv (x :: xs) acc S → (∀ d S', Iv xs (acc ++ [d]) S' → acc.length < sizeLine → Y d S') → (∀ S', Iv xs acc S' → Z S') → γ x δ S fun δ1 S1 => κ δ1 S1 fun b S2 => if b = true then τ δ1 S2 Y else Z S2)
    (hl : ∀ x xs acc S, Iv (x :: xs) acc S → acc.length < sizeLine) (hc : ∀ xs acc S, Iv xs acc S → ck S) (hd : ∀ acc S, Iv [] acc S → Q acc S) : ∀ xs acc S, Iv xs acc S → dComp γ κ τ δ ck Q xs acc S
  | [], acc, S, h => hd acc S h
  | x :: xs, acc, S, h => hs x xs acc S (fun d S3 => acc.length < sizeLine ∧ ck S3 ∧ dComp γ κ τ δ ck Q xs (acc ++ [d]) S3) (fun S2 => ck S2 ∧ dComp γ κ τ δ ck Q xs acc S2) h
      (fun d S' h' hl' => ⟨hl', hc _ _ _ h', comp_inv Iv hs hl hc hd xs (acc ++ [d]) S' h'⟩) fun S' h' => ⟨hc _ _ _ h', comp_inv Iv hs hl hc hd xs acc S' h'⟩
/-- no test, elements that change nothing -/
theorem comp_map {γ : GD} {τ : ED} {δ : Sl} {ck : Sh → Prop} {Q : List D → Sh → Prop} (f : D → D) {S : Sh} (hc : ck S) : ∀ (xs acc : List D), (∀ x ∈ xs, ∀ R : QD, R (f x) S → γ x δ S fun δ1 S1 => τ δ1 S1 R) → acc.length + xs.length ≤ sizeLine → Q (acc ++ xs.map f) S →
    dComp γ dYes τ δ ck Q xs acc S
  | [], acc, _, _, q => by rw [List.map_nil, List.append_nil] at q; exact q
  | x :: xs, acc, h, hl, q => by
    rw [List.length_cons] at hl
    refine h x List.mem_cons_self _ ⟨by omega, hc, comp_map f hc xs (acc ++ [f x]) (fun y hy => h y (List.mem_cons_of_mem _ hy)) (by rw [List.length_append, List.length_singleton]; omega) ?_⟩
    rw [List.append_assoc]
    exact q
/-- with a test -/
theorem comp_filter {γ : GD} {κ : TD} {τ : ED} {δ : Sl} {ck : Sh → Prop} {Q : List D → Sh → Prop} (p : D → Bool) (f : D → D) {S : Sh} (hc : ck S) : ∀ (xs acc : List D),
    (∀ x ∈ xs, ∀ (Y : QD) (Z : Sh → Prop), (p x = true → Y (f x) S) → (p x = false → Z S) → γ x δ S fun δ1 S1 => κ δ1 S1 fun b S2 => if b = true then τ δ1 S2 Y else Z S2) → acc.length + xs.length ≤ sizeLine → Q (acc ++ (xs.filter p).map f) S →
    dComp γ κ τ δ ck Q xs acc S
  | [], acc, _, _, q => by rw [List.filter_nil, List.map_nil, List.append_nil] at q; exact q
  | x :: xs, acc, h, hl, q => by
    rw [List.length_cons] at hl
    refine h x List.mem_cons_self _ _ (fun e => ?_) (fun e => ?_)
    · refine ⟨by omega, hc, comp_filter p f hc xs (acc ++ [f x]) (fun y hy => h y (List.mem_cons_of_mem _ hy)) (by rw [List.length_append, List.length_singleton]; omega) ?_⟩
      rw [List.filter_cons, if_pos e, List.map_cons] at q
      rw [List.append_assoc]
      exact q
    · refine ⟨hc, comp_filter p f hc xs acc (fun y hy => h y (List.mem_cons_of_mem _ hy)) (by omega) ?_⟩
      rw [List.filter_cons, if_neg (by rw [e]; exact Bool.false_ne_true)] at q
      exact q
/-- elements that may do more: each satisfies P, the objects stay in Iv -/
theorem comp_all {γ : GD} {τ : ED} {δ : Sl} {ck : Sh → Prop} {Q : List D → Sh → Prop} (P : D → Prop) (Iv : Sh → Prop) (hck : ∀ S, Iv S → ck S) (hs : ∀ (xs : List D) (x : D), x ∈ xs → ∀ S, Iv S → ∀ R : QD, (∀ d S', P d → Iv S' → R d S') → γ x δ S fun δ1 S1 => τ δ1 S1 R) :
    ∀ (xs acc : List D) (S : Sh), Iv S → (∀ d ∈ acc, P d) → acc.length + xs.length ≤ sizeLine → (∀ ds S', ds.length = acc.length + xs.length → (∀ d ∈ ds, P d) → Iv S' → Q ds S') → dComp γ dYes τ δ ck Q xs acc S
  | [], acc, S, hi, ha, _, q => q acc S (by simp) ha hi
  | x :: xs, acc, S, hi, ha, hl, q => by
    rw [List.length_cons] at hl
    refine hs (x :: xs) x List.mem_cons_self S hi _ fun d S' hp hi' => ⟨by omega, hck S' hi', comp_all P Iv hck hs xs (acc ++ [d]) S' hi' (fun e he => ?_) (by rw [List.length_append, List.length_singleton]; omega) fun ds S2 e1 e2 e3 => q ds S2 (by rw [e1, List.length_append, List.length_singleton, List.length_cons]; omega) e2 e3⟩
    rcases List.mem_append.mp he with z | z
    · exact ha e z
    · rw [List.mem_singleton.mp z]; exact hp
theorem rng_mem {lo : Int} {n : Nat} {x : D} (h : x ∈ rng lo n) : ∃ i : Nat, i < n ∧ x = .int (lo + i) := by
  unfold rng at h
  obtain ⟨i, hi, rfl⟩ := List.mem_map.mp h
  exact ⟨i, List.mem_range.mp hi, rfl⟩
theorem rng_len (lo : Int) (n : Nat) : (rng lo n).length = n := by unfold rng; simp
theorem rng_split {lo : Int} {n : Nat} {pre post : List D} {x : D} (h : rng lo n = pre ++ x :: post) : x = .int (lo + pre.length) ∧ pre.length < n := by
  have h1 : (rng lo n)[pre.length]? = some x := by rw [h, List.getElem?_append_right (Nat.le_refl _), Nat.sub_self]; rfl
  have hl : pre.length < n := by
    have := congrArg List.length h
    rw [rng_len, List.length_append, List.length_cons] at this
    omega
  unfold rng at h1
  rw [List.getElem?_map, List.getElem?_range hl] at h1
  exact ⟨(Option.some.inj h1).symm, hl⟩
theorem ifb {A B : Prop} {c : Prop} [Decidable c] (h1 : c → A) (h2 : ¬ c → B) : if decide c = true then A else B := by
  by_cases h : c
  · rw [if_pos (decide_eq_true h)]; exact h1 h
  · rw [if_neg (by rw [decide_eq_false h]; exact Bool.false_ne_true)]; exact h2 h
theorem ifB {A B : Prop} {b : Bool} (h1 : b = true → A) (h2 : b = false → B) : if b = true then A else B := by
  cases b
  · exact h2 rfl
  · exact h1 rfl
/-! ### where the readings stop -/
/-- holds the rewriting off what it tags -/
inductive Tag {β : Sort _} (a : β) : Type
  | mk : Tag a
def callK (sp : SpD) (ds : List D) (S : Sh) (Q : QD) (_ : Tag Q) : Prop := sp ds S Q
def loopK (γ : GD) (τ : SD) (F : EndsD) (ck : Sh → Prop) (xs : List D) (δ : Sl) (S : Sh) (_ : Tag γ) (_ : Tag τ) (_ : Tag F) (_ : Tag ck) : Prop := dLoop γ τ F ck xs δ S
def whileK (κ : TD) (τ : SD) (F : EndsD) (δ : Sl) (S : Sh) (_ : Tag κ) (_ : Tag τ) (_ : Tag F) : Prop := dWhile κ τ F δ S
def compK (γ : GD) (κ : TD) (τ : ED) (δ : Sl) (ck : Sh → Prop) (Q : List D → Sh → Prop) (xs acc : List D) (S : Sh) (_ : Tag γ) (_ : Tag κ) (_ : Tag τ) (_ : Tag ck) (_ : Tag Q) : Prop := dComp γ κ τ δ ck Q xs acc S
theorem dCall_k (n : Nat) (sp : SpD) (dv : List D) (a : AD) (δ : Sl) (S : Sh) (Q : QD) : dCall n sp dv a δ S Q = a δ S fun ds S1 => (ds ++ dv).length = n ∧ callK sp (ds ++ dv) S1 Q .mk := rfl
theorem dMeth_k (C : Addr) (m : Str) (n : Nat) (sp : SpD) (a : ED) (l : AD) (δ : Sl) (S : Sh) (Q : QD) : dMeth C m n sp a l δ S Q = a δ S fun x S1 => match x with
  | .rf p => ∃ fs, S1 p = some (.ins C fs) ∧ fs.lookup m = none ∧ l δ S1 fun ds S2 => (x :: ds).length = n ∧ callK sp (x :: ds) S2 Q .mk
  | _ => False := rfl
theorem dMake_k (C : Addr) (n : Nat) (sp : SpD) (l : AD) (δ : Sl) (S : Sh) (Q : QD) : dMake C n sp l δ S Q = l δ S fun ds S1 => ∀ p, S1 p = none → ds.length + 1 = n ∧ callK sp (.rf p :: ds) (su S1 p (.ins C [])) (fun d S2 => (match d with | .non => Q (.rf p) S2 | _ => False)) .mk := rfl
theorem dFor_k (ι : ID) (γ : GD) (τ : SD) (F : EndsD) (δ : Sl) (S : Sh) : dFor ι γ τ F δ S = ι δ S fun xs ck S1 => loopK γ τ F ck xs δ S1 .mk .mk .mk .mk := rfl
theorem dWhile_k (κ : TD) (τ : SD) (F : EndsD) (δ : Sl) (S : Sh) : dWhile κ τ F δ S = whileK κ τ F δ S .mk .mk .mk := rfl
theorem dLc_k (ι : ID) (γ : GD) (κ : TD) (τ : ED) (vs : List Nat) (δ : Sl) (S : Sh) (Q : List D → Sh → Prop) : dLc ι γ κ τ vs δ S Q = ι δ S fun xs ck S1 => compK γ κ τ (dWipe δ vs) ck Q xs [] S1 .mk .mk .mk .mk .mk := rfl
end DL

set_option Elab.async false
set_option linter.all false
set_option maxRecDepth 100000
namespace DL
open PySem PySem.Spec L2 PySem.StrLaws PySem.Builtin PySem.Builtin.Str
/-! ### the first place of a sign in a window -/
theorem occ_full (s sub : Str) (hi : Nat) : ∀ (l : List Nat) (st : Array Nat × Nat), 1 ≤ st.fst.size → (forIn l st (occBody s sub hi 1)).run.fst = st.fst
  | [], st, h => rfl
  | a :: l, st, h => by
    rw [List.forIn_cons]
    unfold occBody
    rw [if_neg (by rintro ⟨⟨⟨h1, _⟩, _⟩, _⟩; omega)]
    exact occ_full s sub hi l (st.fst, st.snd) h
theorem occ_find (s sub : Str) (hi : Nat) : ∀ (l : List Nat) (free : Nat), (∀ i ∈ l, free ≤ i) →
    (forIn l ((#[] : Array Nat), free) (occBody s sub hi 1)).run.fst.toList = (l.find? fun i => decide (i + sub.length ≤ hi ∧ subAt s sub i = true)).toList
  | [], free, _ => rfl
  | a :: l, free, hf => by
    rw [List.forIn_cons]
    unfold occBody
    have ha : free ≤ a := hf a (List.mem_cons_self ..)
    by_cases hc : a + sub.length ≤ hi ∧ subAt s sub a = true
    · rw [if_pos ⟨⟨⟨by simp, ha⟩, hc.1⟩, hc.2⟩, List.find?_cons_of_pos (by simpa using hc)]
      exact congrArg Array.toList (occ_full s sub hi l _ (by simp))
    · rw [if_neg (fun h => hc ⟨h.1.2, h.2⟩), List.find?_cons_of_neg (by simpa using hc)]
      exact occ_find s sub hi l free fun i hi' => hf i (List.mem_cons_of_mem _ hi')
theorem occ_one (s sub : Str) (lo hi : Nat) : occurrences s sub lo hi 1 = ((List.range' lo (hi + 1 - lo)).find? fun i => decide (i + sub.length ≤ hi ∧ subAt s sub i = true)).toList := by
  rw [occ_eq]
  exact occ_find s sub hi _ lo fun i hi' => by
    obtain ⟨h1, _⟩ := List.mem_range'_1.mp hi'
    exact h1
theorem subAt_c (t : List Nat) (c i : Nat) : subAt (tx t) (tx [c]) i = true ↔ t[i]? = some c := by
  rw [subAt_eq]
  exact take1_drop
theorem find4_some {t : List Nat} {c a e k : Nat} (h1 : t[k]? = some c) (ha : a ≤ k) (he : k < e) (hm : ∀ j, a ≤ j → j < k → t[j]? ≠ some c) : Txt.findIn (tx t) (tx [c]) a e = k := by
  have hk : k < t.length := (List.getElem?_eq_some_iff.mp h1).1
  have f : fromIndex (tx t).length a = a := by unfold fromIndex; rw [if_neg (by omega)]; omega
  have g : toIndexW (tx t).length e = min e t.length := by unfold toIndexW; rw [if_neg (by omega)]; show min _ (t.toArray.size) = _; rw [List.size_toArray]; omega
  have hf : ((List.range' a (min e t.length + 1 - a)).find? fun i => decide (i + (tx [c]).length ≤ min e t.length ∧ subAt (tx t) (tx [c]) i = true)) = some k := by
    rw [List.find?_eq_some_iff_getElem]
    refine ⟨decide_eq_true ⟨by show k + 1 ≤ _; omega, (subAt_c t c k).mpr h1⟩, k - a, by rw [List.length_range']; omega, by rw [List.getElem_range']; omega, fun j hj => ?_⟩
    rw [List.getElem_range', Bool.not_eq_true', decide_eq_false_iff_not]
    rintro ⟨_, h3⟩
    exact hm (a + 1 * j) (by omega) (by omega) ((subAt_c t c _).mp h3)
  unfold Txt.findIn
  rw [f, g, occ_one, hf]
  rfl
theorem find4_none {t : List Nat} {c a e : Nat} (ha : a ≤ t.length) (hm : ∀ j, a ≤ j → j < e → t[j]? ≠ some c) : Txt.findIn (tx t) (tx [c]) a e = -1 := by
  have f : fromIndex (tx t).length a = a := by unfold fromIndex; rw [if_neg (by omega)]; omega
  have g : toIndexW (tx t).length e = min e t.length := by unfold toIndexW; rw [if_neg (by omega)]; show min _ (t.toArray.size) = _; rw [List.size_toArray]; omega
  have hf : ((List.range' a (min e t.length + 1 - a)).find? fun i => decide (i + (tx [c]).length ≤ min e t.length ∧ subAt (tx t) (tx [c]) i = true)) = none := by
    rw [List.find?_eq_none]
    intro i hi
    obtain ⟨h1, h2⟩ := List.mem_range'_1.mp hi
    rw [decide_eq_true_eq]
    rintro ⟨h3, h4⟩
    have h3' : i + 1 ≤ min e t.length := h3
    exact hm i (by omega) (by omega) ((subAt_c t c _).mp h4)
  unfold Txt.findIn
  rw [f, g, occ_one, hf]
  rfl
/-! ### fields, read on the spot -/
theorem dFld_m (C : Addr) (a : ED) (f : Str) (δ : Sl) (S : Sh) (Q : QD) : dFld C a f δ S Q = a δ S fun x S1 => match x with
  | .rf p => (match S1 p with | some (.ins C' fs) => C' = C ∧ (match fs.lookup f with | some d => Q d S1 | none => False) | _ => False)
  | _ => False := by
  unfold dFld
  congr 1
  funext x S1
  cases x <;> try rfl
  rename_i p
  refine propext ⟨?_, ?_⟩
  · rintro ⟨fs, d, h1, h2, h3⟩
    show (match S1 p with | some (.ins C' fs) => C' = C ∧ (match fs.lookup f with | some d => Q d S1 | none => False) | _ => False)
    rw [h1]
    refine ⟨rfl, ?_⟩
    rw [h2]
    exact h3
  · intro h
    have h' : (match S1 p with | some (.ins C' fs) => C' = C ∧ (match fs.lookup f with | some d => Q d S1 | none => False) | _ => False) := h
    split at h'
    · rename_i C' fs e
      obtain ⟨rfl, h2⟩ := h'
      split at h2
      · rename_i d e2
        exact ⟨fs, d, e, e2, h2⟩
      · exact h2.elim
    · exact h'.elim
theorem dSetF_m (C : Addr) (a v : ED) (f : Str) (F : EndsD) (δ : Sl) (S : Sh) : dSetF C a v f F δ S = v δ S fun y S1 => a δ S1 fun x S2 => match x with
  | .rf p => (match S2 p with | some (.ins C' fs) => C' = C ∧ fs.length < 1000 ∧ F.nx δ (su S2 p (.ins C (putFD f y fs))) | _ => False)
  | _ => False := by
  unfold dSetF
  congr 1
  funext y S1
  congr 1
  funext x S2
  cases x <;> try rfl
  rename_i p
  refine propext ⟨?_, ?_⟩
  · rintro ⟨fs, h1, h2, h3⟩
    show (match S2 p with | some (.ins C' fs) => C' = C ∧ fs.length < 1000 ∧ F.nx δ (su S2 p (.ins C (putFD f y fs))) | _ => False)
    rw [h1]
    exact ⟨rfl, h2, h3⟩
  · intro h
    have h' : (match S2 p with | some (.ins C' fs) => C' = C ∧ fs.length < 1000 ∧ F.nx δ (su S2 p (.ins C (putFD f y fs))) | _ => False) := h
    split at h'
    · rename_i C' fs e
      obtain ⟨rfl, h2⟩ := h'
      exact ⟨fs, e, h2⟩
    · exact h'.elim
theorem dMeth_m (C : Addr) (m : Str) (n : Nat) (sp : SpD) (a : ED) (l : AD) (δ : Sl) (S : Sh) (Q : QD) : dMeth C m n sp a l δ S Q = a δ S fun x S1 => match x with
  | .rf p => (match S1 p with | some (.ins C' fs) => C' = C ∧ fs.lookup m = none ∧ l δ S1 fun ds S2 => (x :: ds).length = n ∧ callK sp (x :: ds) S2 Q .mk | _ => False)
  | _ => False := by
  unfold dMeth
  congr 1
  funext x S1
  cases x <;> try rfl
  rename_i p
  refine propext ⟨?_, ?_⟩
  · rintro ⟨fs, h1, h2, h3⟩
    show (match S1 p with | some (.ins C' fs) => C' = C ∧ fs.lookup m = none ∧ l δ S1 fun ds S2 => (D.rf p :: ds).length = n ∧ callK sp (D.rf p :: ds) S2 Q .mk | _ => False)
    rw [h1]
    exact ⟨rfl, h2, h3⟩
  · intro h
    have h' : (match S1 p with | some (.ins C' fs) => C' = C ∧ fs.lookup m = none ∧ l δ S1 fun ds S2 => (D.rf p :: ds).length = n ∧ callK sp (D.rf p :: ds) S2 Q .mk | _ => False) := h
    split at h'
    · rename_i C' fs e
      obtain ⟨rfl, h2⟩ := h'
      exact ⟨fs, e, h2⟩
    · exact h'.elim
end DL

set_option Elab.async false
set_option linter.all false
set_option maxRecDepth 100000
set_option maxHeartbeats 2000000
namespace DL
open PySem PySem.Spec L2 PyProof.Rows
section
variable {X : Cx} {a b e : Expr} {τa τb τ : ED} {p p2 pos pos2 : Pos}
/-! ### tuple(range), list(range) -/
theorem rgV_rng (K : PySem.W.Frag) (H : Hp) (i j : Int) : Reps K H (rng i (j - i).toNat) (rgV i j) := by
  unfold rng rgV
  generalize (j - i).toNat = n
  have key : ∀ l : List Nat, Reps K H (l.map fun k : Nat => D.int (i + (k : Nat))) (l.map fun k : Nat => V.int (i + (k : Nat))) := fun l => by
    induction l with
    | nil => exact rfl
    | cons x l ih => exact ⟨_, _, rfl, rfl, ih⟩
  exact key _
def dTupRg (a b : ED) : ED := fun δ S Q => a δ S fun x S1 => b δ S1 fun y S2 => match x, y with | .int i, .int j => RgOk i j ∧ Q (.tup (rng i (j - i).toNat)) S2 | _, _ => False
theorem e_tupRg (hm : X.mg "tuple" = none) (hm2 : X.mg "range" = none) (ha : E X a τa) (hb : E X b τb) (hc : X.calm = true := by rfl) (hg : Gl X "tuple" := by rfl) (hg2 : Gl X "range" := by rfl)
    (na : starEach [a, b] X.env = (false, eval a X.env) :: starEach [b] X.env := by rfl) (nb : starEach [b] X.env = (false, eval b X.env) :: starEach [] X.env := by rfl) (hp : (backTo pos2 (starEach [b] X.env)).any (·.1) = false := by rfl)
    (nc : starEach [Expr.Call (.Name "range" p2) [a, b] [] pos2] X.env = (false, eval (.Call (.Name "range" p2) [a, b] [] pos2) X.env) :: starEach [] X.env := by rfl) :
    E X (.Call (.Name "tuple" p) [.Call (.Name "range" p2) [a, b] [] pos2] [] pos) (dTupRg τa τb) := by
  obtain ⟨ta, a1, a2⟩ := ha
  obtain ⟨tb, b1, b2⟩ := hb
  refine ⟨_, pe_tupRg hc hg hm (prg_2 hg2 hm2 a1 b1 na nb hp) nc, fun σ H δ S w sl Q R k h => ?_⟩
  refine a2 σ H δ S w sl _ _ (fun x H1 dx S1 g1 rx q => ?_) h
  refine b2 σ H1 δ S1 g1.wd (sl.im (g1.im w)) _ _ (fun y H2 dy S2 g2 ry q2 => ?_) q
  cases dx <;> cases dy <;> first | exact False.elim q2 | skip
  rename_i i j
  obtain rfl := rx
  obtain rfl := ry
  refine ⟨i, j, rfl, rfl, q2.1, fun t ht => ?_⟩
  have g3 := Go.new (u := .tup (rgV i j)) g2.wd ht
  exact k _ _ (.tup (rng i (j - i).toNat)) S2 ((g1.trans g2).trans g3) ⟨t, _, rfl, SqT.of upd_same, rgV_rng _ _ i j⟩ q2.2
def dLstRg (a b : ED) : AD := fun δ S Q => a δ S fun x S1 => b δ S1 fun y S2 => match x, y with | .int i, .int j => RgOk i j ∧ Q (rng i (j - i).toNat) S2 | _, _ => False
theorem n_lstRg (hm : X.mg "list" = none) (hm2 : X.mg "range" = none) (ha : E X a τa) (hb : E X b τb) (hc : X.calm = true := by rfl) (hg : Gl X "list" := by rfl) (hg2 : Gl X "range" := by rfl)
    (na : starEach [a, b] X.env = (false, eval a X.env) :: starEach [b] X.env := by rfl) (nb : starEach [b] X.env = (false, eval b X.env) :: starEach [] X.env := by rfl) (hp : (backTo pos2 (starEach [b] X.env)).any (·.1) = false := by rfl)
    (nc : starEach [Expr.Call (.Name "range" p2) [a, b] [] pos2] X.env = (false, eval (.Call (.Name "range" p2) [a, b] [] pos2) X.env) :: starEach [] X.env := by rfl) :
    N X (.Call (.Name "list" p) [.Call (.Name "range" p2) [a, b] [] pos2] [] pos) (dLstRg τa τb) := by
  obtain ⟨ta, a1, a2⟩ := ha
  obtain ⟨tb, b1, b2⟩ := hb
  refine ⟨_, pe_listRg hc hg hm (prg_2 hg2 hm2 a1 b1 na nb hp) nc, fun σ H δ S w sl Q R k h => ?_⟩
  refine a2 σ H δ S w sl _ _ (fun x H1 dx S1 g1 rx q => ?_) h
  refine b2 σ H1 δ S1 g1.wd (sl.im (g1.im w)) _ _ (fun y H2 dy S2 g2 ry q2 => ?_) q
  cases dx <;> cases dy <;> first | exact False.elim q2 | skip
  rename_i i j
  obtain rfl := rx
  obtain rfl := ry
  refine ⟨i, j, rfl, rfl, q2.1, fun t ht => ?_⟩
  have g3 := Go.new (u := .lst (rgV i j)) g2.wd ht
  have g := (g1.trans g2).trans g3
  exact k t _ (rgV i j) (rng i (j - i).toNat) S2 g ((g1.trans g2).th t ht) upd_same (g2.wd.free ht) (rgV_rng _ _ i j) q2.2
end
end DL

set_option Elab.async false
set_option linter.all false
set_option maxRecDepth 100000
set_option maxHeartbeats 2000000
namespace DL
open PySem PySem.Spec L2 PyProof.Rows
/-! ### sorted of pairs of ints -/
abbrev lexle (p q : Int × Int) : Prop := p.1 < q.1 ∨ (p.1 = q.1 ∧ p.2 ≤ q.2)
inductive Prs (K : PySem.W.Frag) (H : Hp) : List V → List (Int × Int) → Prop
  | nil : Prs K H [] []
  | cons {t : Addr} {p : Int × Int} {xs : List V} {ps : List (Int × Int)} : SqT K H t [.int p.1, .int p.2] → Prs K H xs ps → Prs K H (.ref t :: xs) (p :: ps)
def rSortedPr (K : PySem.W.Frag) : List V → Hp → VK → Prop := fun vs H Q => ∃ (a : Addr) (xs : List V) (ps : List (Int × Int)), vs = [V.ref a] ∧ SqL K H a xs ∧ Prs K H xs ps ∧
  ∀ (ys : List V) (qs : List (Int × Int)) (l : Addr), qs.Perm ps → qs.Pairwise lexle → Prs K H ys qs → H l = none → Q (.ref l) (upd H l (.lst ys))
open Classical in
/-- the pair that a value is in a heap -/
noncomputable def prOf (h : Heap) (v : Value) : Int × Int := if e : ∃ p : Int × Int, Srt.IsPair h v p.1 p.2 then choose e else (0, 0)
theorem isPair_uniq {h : Heap} {v : Value} {x y x' y' : Int} (a : Srt.IsPair h v x y) (b : Srt.IsPair h v x' y') : (x, y) = (x', y') := by
  obtain ⟨t, o, t1, t2, n, rfl, ho, hc, hd⟩ := a
  obtain ⟨t', o', t1', t2', n', e, ho', hc', hd'⟩ := b
  cases e
  rw [ho] at ho'
  cases ho'
  rw [hd] at hd'
  cases hd'
  rfl
theorem prOf_eq {h : Heap} {v : Value} {p : Int × Int} (a : Srt.IsPair h v p.1 p.2) : prOf h v = p := by
  have e : ∃ p : Int × Int, Srt.IsPair h v p.1 p.2 := ⟨p, a⟩
  unfold prOf
  rw [dif_pos e]
  have := isPair_uniq (Classical.choose_spec e) a
  exact this
section
variable {X : Cx}
theorem prs_vals {pins : List (Addr × Obj)} {σ : L2.St} {H : Hp} {s : Shared} (I : Inv X pins σ H s) : ∀ {xs : List V} {ps : List (Int × Int)} {us : List Value}, Prs X.K H xs ps → Vals xs us →
    us.map (prOf s.heap) = ps ∧ xs = us.map backV ∧ ∀ u ∈ us, ∃ (t : Addr) (p : Int × Int), u = Value.ref t ∧ SqT X.K H t [.int p.1, .int p.2] ∧ Srt.IsPair s.heap u p.1 p.2
  | _, _, _, .nil, .nil => ⟨rfl, rfl, fun u hu => absurd hu List.not_mem_nil⟩
  | _, _, _, .cons (t := t) (p := p) hq hp, .cons r rr => by
    obtain ⟨e1, e2, e3⟩ := prs_vals I hp rr
    cases r
    obtain ⟨its, rv, pt, _⟩ := I.tuple hq
    obtain ⟨u1, u2, rfl, ri, rj⟩ := vals2 rv
    obtain ⟨t1, rfl⟩ := ri
    obtain ⟨t2, rfl⟩ := rj
    obtain ⟨o, ho, hc, n, hd⟩ := pt
    have ip : Srt.IsPair s.heap (.ref t) p.1 p.2 := ⟨t, o, t1, t2, n, rfl, ho, hc, hd⟩
    refine ⟨?_, ?_, fun u hu => ?_⟩
    · rw [List.map_cons, e1, prOf_eq ip]
    · rw [List.map_cons, ← e2]; rfl
    · rcases List.mem_cons.mp hu with rfl | hu
      · exact ⟨t, p, rfl, hq, ip⟩
      · exact e3 u hu
theorem prs_of {K : PySem.W.Frag} {H : Hp} {h : Heap} : ∀ {us : List Value}, (∀ u ∈ us, ∃ (t : Addr) (p : Int × Int), u = Value.ref t ∧ SqT K H t [.int p.1, .int p.2] ∧ Srt.IsPair h u p.1 p.2) → Prs K H (us.map backV) (us.map (prOf h))
  | [], _ => .nil
  | u :: us, h => by
    obtain ⟨t, p, rfl, hq, ip⟩ := h u (List.mem_cons_self ..)
    rw [List.map_cons, List.map_cons, prOf_eq ip]
    exact .cons hq (prs_of fun v hv => h v (List.mem_cons_of_mem _ hv))
theorem cr_sortedPr : CallR X (.builtin "sorted") (rSortedPr X.K) := by
  intro pins s σ H vs us Q I r h
  obtain ⟨a, xs, ps, rfl, hs, hx, q⟩ := h
  obtain ⟨its, rv, hl, hz⟩ := I.list hs
  obtain ⟨u, rfl, ru⟩ := vals1 r
  obtain rfl : u = Value.ref a := ru
  obtain ⟨e1, e2, e3⟩ := prs_vals I hx rv
  refine SrtO.sorted_pairsO (k := prOf s.heap) hl.isList (by rw [← rv.length]; exact hz) (fun v hv => ?_) fun h' d out h1 h2 kp hd hn => ?_
  · obtain ⟨t, p, rfl, hq, ip⟩ := e3 v hv
    rw [prOf_eq ip]
    exact ip
  · have h3 : ∀ u ∈ out, ∃ (t : Addr) (p : Int × Int), u = Value.ref t ∧ SqT X.K H t [.int p.1, .int p.2] ∧ Srt.IsPair s.heap u p.1 p.2 := fun u hu => e3 u (h2.perm.mem_iff.mp hu)
    obtain ⟨n, hn⟩ := hn
    have hperm : (out.map (prOf s.heap)).Perm ps := by rw [← e1]; exact h2.perm.map _
    have hsort : (out.map (prOf s.heap)).Pairwise lexle := by
      refine List.pairwise_map.mpr (List.Pairwise.imp (fun {x y} hxy => ?_) h1)
      have := SrtO.lexB_no.mp hxy
      show _ ∨ _
      omega
    refine ⟨.ref d, upd H d (.lst (out.map backV)), I.laid (t' := s.toks) kp hd ⟨?_, out, n, vals_back (fun u hu => by obtain ⟨t, _, e, _⟩ := h3 u hu; exact ⟨t, e⟩), hn⟩, rfl, q _ _ d hperm hsort (prs_of h3) (I.hok.fresh hd)⟩
    rw [List.length_map, h2.perm.length_eq, ← rv.length]
    exact hz
/-- as data -/
abbrev pD (p : Int × Int) : D := .tup [.int p.1, .int p.2]
def pairsOf : List D → Option (List (Int × Int))
  | [] => some []
  | .tup [.int i, .int j] :: r => (pairsOf r).map ((i, j) :: ·)
  | _ => none
theorem pairsOf_map : ∀ ps : List (Int × Int), pairsOf (ps.map pD) = some ps
  | [] => rfl
  | (i, j) :: ps => by
    show (pairsOf (ps.map pD)).map ((i, j) :: ·) = _
    rw [pairsOf_map ps]; rfl
theorem of_pairsOf : ∀ {ds : List D} {ps : List (Int × Int)}, pairsOf ds = some ps → ds = ps.map pD
  | [], _, h => by cases h; rfl
  | d :: r, ps, h => by
    unfold pairsOf at h
    split at h
    · rename_i e; cases e
    · rename_i i j r' e
      cases e
      cases e2 : pairsOf r with
      | none => rw [e2] at h; cases h
      | some m => rw [e2] at h; cases h; rw [of_pairsOf e2]; rfl
    · cases h
theorem prs_reps {K : PySem.W.Frag} {H : Hp} : ∀ {ps : List (Int × Int)} {xs : List V}, Reps K H (ps.map pD) xs → Prs K H xs ps
  | [], _, r => by rw [show _ = ([] : List V) from r]; exact .nil
  | p :: ps, _, r => by
    obtain ⟨v, rr, rfl, rv, rs⟩ := r
    obtain ⟨t, us, rfl, hq, u1, r1, rfl, rfl, u2, r2, rfl, rfl, rfl⟩ := rv
    exact .cons hq (prs_reps rs)
theorem reps_prs {K : PySem.W.Frag} {H : Hp} : ∀ {ps : List (Int × Int)} {xs : List V}, Prs K H xs ps → Reps K H (ps.map pD) xs
  | _, _, .nil => rfl
  | _, _, .cons hq hp => ⟨_, _, rfl, ⟨_, _, rfl, hq, _, _, rfl, rfl, _, _, rfl, rfl, rfl⟩, reps_prs hp⟩
def dSortP (ds : List D) (S : Sh) (Q : List D → Sh → Prop) : Prop := match pairsOf ds with | some ps => ∀ qs : List (Int × Int), qs.Perm ps → qs.Pairwise lexle → Q (qs.map pD) S | none => False
theorem cn_sortedP : CN X (.builtin "sorted") dSortP := by
  refine ⟨_, cr_sortedPr, fun H S a vs ds w hs rs Q R k q => ?_⟩
  unfold dSortP at q
  cases e : pairsOf ds with
  | none => rw [e] at q; exact q.elim
  | some ps =>
    rw [e] at q
    obtain rfl := of_pairsOf e
    refine ⟨a, vs, ps, rfl, hs, prs_reps rs, fun ys qs l h1 h2 h3 hl => ?_⟩
    have g := Go.new (u := .lst ys) w hl
    exact k l _ ys (qs.map pD) S g hl upd_same (w.free hl) ((reps_prs h3).im (g.im w)) (q qs h1 h2)
end
end DL

set_option Elab.async false
set_option linter.all false
set_option maxRecDepth 100000
set_option maxHeartbeats 2000000
namespace DL
open PySem PySem.Spec L2 PyProof.Rows RZ
section
variable {X : Cx} {a b e : Expr} {τa τb τ : ED} {α : AD} {p p2 pos pos2 tpos : Pos} {elts : List Expr} {kk : Nat}
/-! ### zip of two tuples -/
def zipD : List D → List D → List D
  | x :: xs, y :: ys => .tup [x, y] :: zipD xs ys
  | _, _ => []
theorem zipD_get : ∀ {xs ys : List D} {i : Nat} {d : D}, (zipD xs ys)[i]? = some d → ∃ x y, xs[i]? = some x ∧ ys[i]? = some y ∧ d = .tup [x, y]
  | [], _, i, d, h => by simp [zipD] at h
  | _ :: _, [], i, d, h => by simp [zipD] at h
  | x :: xs, y :: ys, 0, d, h => by
    have h' : some (D.tup [x, y]) = some d := h
    cases h'
    exact ⟨x, y, rfl, rfl, rfl⟩
  | x :: xs, y :: ys, i + 1, d, h => zipD_get (xs := xs) (ys := ys) (i := i) h
theorem zipD_len : ∀ (xs ys : List D), (zipD xs ys).length = min xs.length ys.length
  | [], ys => by simp [zipD]
  | _ :: _, [] => by simp [zipD]
  | x :: xs, y :: ys => by
    show (zipD xs ys).length + 1 = min (xs.length + 1) (ys.length + 1)
    rw [zipD_len xs ys]
    omega
theorem simj_zipT {K : PySem.W.Frag} {Hb : Hp} {S : Sh} {H : Hp} {a b : Addr} {vs us : List V} {xs ys : List D} (rx : Reps K H xs vs) (ry : Reps K H ys us) (w : Wd K H S) (ha : SqT K H a vs) (hb : SqT K H b us) : SimJ K Hb S H (ItzT K a b) (zipD xs ys) (fun _ => True) := fun S' H' g _ i => by
  have im := g.im
  have h1 := im.t _ _ ha
  have h2 := im.t _ _ hb
  have r1 := rx.im im
  have r2 := ry.im im
  refine ⟨fun d hd => ?_, fun hi => ⟨vs, us, h1, h2, ?_⟩⟩
  · obtain ⟨x, y, hx, hy, rfl⟩ := zipD_get hd
    obtain ⟨v, hv, rv⟩ := r1.get hx
    obtain ⟨u, hu, ru⟩ := r2.get hy
    refine ⟨⟨vs, us, v, u, h1, h2, hv, hu⟩, fun z H2 ⟨T, v', u', e1, e2, e3, e4, e5⟩ => ?_⟩
    have f1 := e4 vs h1
    have f2 := e5 us h2
    rw [hv] at f1
    rw [hu] at f2
    cases f1
    cases f2
    subst e1
    subst e3
    have g2 := Go.new (u := .tup [v, u]) g.wd e2
    exact ⟨g2, T, [v, u], rfl, SqT.of upd_same, v, _, rfl, rv.im (g2.im g.wd), u, _, rfl, ru.im (g2.im g.wd), rfl⟩
  · rw [zipD_len, rx.length, ry.length] at hi
    omega
def dZipT (l : AD) : ID := fun δ S Q => l δ S fun ds S1 => match ds with | [.tup xs, .tup ys] => Q (zipD xs ys) (fun _ => True) S1 | _ => False
theorem i_zipT (hm : X.mg "zip" = none) (ha : A X [a, b] α) (hg : Gl X "zip" := by rfl) (hs : starEach [a, b] X.env = (false, eval a X.env) :: starEach [b] X.env := by rfl) (hpl : (backTo pos (starEach [b] X.env)).any (·.1) = false := by rfl) :
    I X (.Tuple elts kk tpos) (.Call (.Name "zip" p) [a, b] [] pos) (dZipT α) := by
  obtain ⟨t, a1, a2⟩ := ha
  refine ⟨_, pi_zipA hg hm a1 hs hpl, fun σ H δ S w sl Q R k h => ?_⟩
  refine a2 σ H δ S w sl _ _ (fun vs H1 ds S1 g1 rs q => ?_) h
  rcases ds with _ | ⟨d, _ | ⟨d2, _ | ⟨d3, ds⟩⟩⟩
  · exact False.elim q
  · cases d <;> exact False.elim q
  · obtain ⟨v, r, rfl, rv, u, r2, rfl, ru, rfl⟩ := rs
    cases d with
    | tup xs =>
      cases d2 with
      | tup ys =>
        obtain ⟨t1, vs1, rfl, q1, rs1⟩ := rv
        obtain ⟨t2, vs2, rfl, q2, rs2⟩ := ru
        exact ⟨t1, t2, vs1, vs2, rfl, .inr ⟨q1, q2, k _ H1 S1 _ _ g1 (simj_zipT rs1 rs2 g1.wd q1 q2) trivial q⟩⟩
      | _ => exact False.elim q
    | _ => exact False.elim q
  · cases d with
    | tup xs => cases d2 <;> exact False.elim q
    | _ => exact False.elim q
end
end DL

set_option Elab.async false
set_option linter.all false
set_option maxRecDepth 100000
set_option maxHeartbeats 2000000
namespace L2
open PySem PySem.Spec PyProof.Rows
open PySem.Builtin
/-! ### l[:] = r -/
section
variable {prog : Program} {w : World} {A : Around} {E : Value → Shared → Prop} {s : Shared}
theorem bounds_all (n : Nat) : sliceBounds none none none n = (((0 : Nat) : Int), (n : Int), 1) := by
  simp only [sliceBounds, Option.getD_none]
  simp
theorem store_all {l b sl : Addr} {old new : Array Value} {n n2 : Nat} {Q : Unit → Shared → Prop} (e : s.heap.get? l = some { cls := .type "list", data := .seq old n }) (e2 : s.heap.get? b = some { cls := .type "list", data := .seq new n2 })
    (dif : l ≠ b) (hs : s.heap.IsSliceOf sl .none .none .none) (big : old.size + new.size ≤ sizeLine) (h : Q () { s with heap := s.heap.update l (Obj.mapSeq fun xs => xs.extract 0 0 ++ new ++ xs.extract old.size xs.size) }) :
    wpAny (model prog w) A (setItem (.ref l) (.ref sl) (.ref b)) Q E s := by
  have one : s.heap.IsList l old := PySem.IsL.isList e
  have two : s.heap.IsList b new := PySem.IsL.isList e2
  obtain ⟨os, is1, is2, is3⟩ := id hs
  have isS : s.TypeIs (.ref sl) "slice" := ⟨os, is1, is2⟩
  have noStep : ¬ ((rawPart none == rawInt 0) = true) := Bool.false_ne_true
  have apart : Builtin.List.listSameRef (.ref l) (.ref b) = false := by unfold Builtin.List.listSameRef; exact beq_eq_false_iff_ne.mpr dif
  have top : (max ((0 : Nat) : Int) (old.size : Int)).toNat = old.size := by omega
  have fits : ((fun xs : Array Value => xs.extract 0 0 ++ new ++ xs.extract old.size xs.size) old).size ≤ sizeLine + 1 := by simp only [Array.size_append, Array.size_extract]; omega
  unfold setItem
  (try with_reducible refine wpAny_holding ?_); (first | refine wpAny_bind (wpAny_pure ?_) | skip)
  refine wpAny_bind (wpAny_sequenceKey one.typeIs (by decide) ?_)
  refine wpAny_bind (wpAny_callSpecial?_slot (name := Str.ofString "__setitem__") one.typeIs slot_list_setitem (wpAny_call_entry slot_list_setitem one.typeIs entry_list_setitem ?_ (args_list_setitem _ _ _)))
  (show wpAny _ _ (Builtin.List.listSubscript? (.ref sl) >>= _) _ _ s); refine wpAny_bind ?_; unfold Builtin.List.listSubscript?
  refine wpAny_bind (wpAny_specialOf isS slice_no_index ?_)
  simp only [Option.isNone_none, if_true]; refine wpAny_pure ?_
  (show wpAny _ _ (typeOf (.ref sl) >>= _) _ _ s); refine wpAny_bind (wpAny_typeOf isS ?_)
  (first | rw [if_neg (by decide)] | refine PySem.W.KFB.if_not (by decide) ?_)
  rw [listSliceParts_eq]; refine wpAny_bind (wpAny_bind (wpAny_field is1 is3 (x := .none) rfl (wpAny_bind (wpAny_listPart .none ?_)))); rw [if_neg noStep]
  refine wpAny_bind (wpAny_field is1 is3 (x := .none) rfl (wpAny_bind (wpAny_listPart .none ?_)))
  refine wpAny_bind (wpAny_field is1 is3 (x := .none) rfl (wpAny_bind (wpAny_listPart .none (wpAny_pure ?_))))
  (first | simp only [apart, Bool.false_eq_true, if_false] | refine PySem.W.KFB.if_not apart ?_ | (dsimp only; rw [if_neg (by rw [apart]; exact Bool.false_ne_true)]))
  refine wpAny_bind (m := Builtin.List.listAllItems (.ref b) "must assign iterable to extended slice") ?_; unfold Builtin.List.listAllItems
  refine wpAny_bind (wpAny_typeOf two.typeIs ?_)
  (first | refine PySem.W.KFB.if_so (by decide) ?_ | rw [if_pos (by decide)] | simp only [beq_self_eq_true, Bool.true_or, if_true]); unfold Builtin.List.listItems
  refine wpAny_bind (wpAny_seqItems e2 rfl (wpAny_pure ?_)); refine wpAny_bind (wpAny_bind (wpAny_seqItems e rfl (wpAny_pure ?_)))
  refine wpAny_bind (wpAny_of_eq ((sliceIndices_raw none none none old.size (by simp)).trans (congrArg (pure : Int × Int × Int → Sem (Int × Int × Int)) (bounds_all old.size))) ?_)
  (show wpAny _ _ (if ((1 : Int) == 1) = true then _ else _) _ _ s); rw [if_pos (by decide)]; refine wpAny_bind (wpAny_rule ?_)
  (first | simp only [notLongL big, Bool.false_eq_true, if_false] | refine PySem.W.KFB.if_not (notLongL big) ?_); (first | refine wpAny_bind (wpAny_pure ?_) | skip)
  show wpAny _ _ (updateSeq l (fun xs => xs.extract 0 (((0 : Nat) : Int)).toNat ++ new ++ xs.extract (max ((0 : Nat) : Int) (old.size : Int)).toNat xs.size) >>= _) _ _ s
  rw [top, Int.toNat_natCast]; refine wpAny_bind (wpAny_updateSeq (hz := Nat.le_trans (Nat.le_add_right _ _) big) (_hz' := fits) e rfl ?_); refine wpAny_bind (wpAny_letGo ?_)
  (first | exact wpAny_bind (wpAny_pure (wpAny_pure ⟨.none, rfl, wpAny_pure h⟩)) | exact wpAny_pure ⟨.none, rfl, wpAny_pure h⟩)
end
end L2

namespace L2
open PySem PySem.Spec PyProof.Rows
section
variable {X : Cx}
/-- o[:] = v, v another list -/
def gAll (to : TE) : TG := fun v σ H Q => to σ H fun x H1 => ∃ (l b : Addr) (xs ys : List V), x = .ref l ∧ v = .ref b ∧ l ≠ b ∧ H1 l = some (.lst xs) ∧ H1 b = some (.lst ys) ∧ xs.length + ys.length ≤ sizeLine ∧ Q σ (upd H1 l (.lst ys))
theorem pg_all {o : Expr} {to : TE} {p2 pos : Pos} (ho : PE X o to)
    (ha : ∀ v, assign (.Subscript o (.Slice none none none p2) pos) X.env v = (do
      let ov ← holding [v] (eval o X.env); let iv ← holding [v, ov] (eval (.Slice none none none p2) X.env)
      standAt pos; holding [v, ov, iv] (setItem ov iv v)
      release [iv, v, ov] []) := by intro _; rfl) : PG X (.Subscript o (.Slice none none none p2) pos) (gAll to) := by
  refine ⟨fun pins s σ H v u Q I r h => ?_⟩
  rw [ha]
  refine wpAny_bind (wpAny_holding (thn (ho.run pins s σ H _ I h) fun ov s1 ⟨x, H1, I1, r1, l, b, xs, ys, e1, e2, dif, hl, hb, big, q⟩ => ?_))
  subst e1
  subst e2
  cases r1
  cases r
  refine wpAny_bind (wpAny_holding (wpAny_Slice ?_)); rw [evalPart_none]; refine wpAny_pure (wpAny_pure (wpAny_pure ?_))
  have I4 : Inv X pins σ H1 { s1 with heap := s1.heap.push { cls := .type "slice", data := .fields #[.none, .none, .none] } } := I1.kept (t' := s1.toks) fun b ob q => Heap.get?_push_of_some _ q
  obtain ⟨z, its, n, rv, hl1, e⟩ := I4.lstM hl
  obtain ⟨z2, its2, n2, rv2, hl2, e2⟩ := I4.lstM hb
  refine wpAny_bind (wpAny_standAt (wpAny_bind (wpAny_holding ?_)))
  refine store_all (sl := s1.heap.objs.size) e e2 dif (Heap.IsSliceOf.new ..) (by rw [List.size_toArray, List.size_toArray, ← rv.length, ← rv2.length]; exact big) (wpAny_release ⟨σ, _, I4.lset (its' := its2) (t' := s1.toks) hl e ?_ rv2 (by omega), q⟩)
  simp
end
end L2
namespace DL
open PySem PySem.Spec L2
section
variable {X : Cx} {o : Expr} {τo : ED} {p2 pos : Pos}
def dSetAll (o : ED) : GD := fun d δ S Q => o δ S fun x S1 => match x, d with
  | .rf l, .rf b => l ≠ b ∧ (match S1 l, S1 b with | some (.lst xs), some (.lst ys) => xs.length + ys.length ≤ sizeLine ∧ Q δ (su S1 l (.lst ys)) | _, _ => False)
  | _, _ => False
theorem g_all (ho : E X o τo) (ha : ∀ v, assign (.Subscript o (.Slice none none none p2) pos) X.env v = (do
      let ov ← holding [v] (eval o X.env); let iv ← holding [v, ov] (eval (.Slice none none none p2) X.env)
      standAt pos; holding [v, ov, iv] (setItem ov iv v)
      release [iv, v, ov] []) := by intro _; rfl) : G X (.Subscript o (.Slice none none none p2) pos) (dSetAll τo) := by
  obtain ⟨t, a1, a2⟩ := ho
  refine ⟨_, pg_all a1 ha, fun σ H δ S v d w sl rv Q R k h => ?_⟩
  refine a2 σ H δ S w sl _ _ (fun vo H1 dx S1 g1 ro q => ?_) h
  cases dx <;> cases d <;> first | exact False.elim q | skip
  rename_i l b
  obtain ⟨dif, q⟩ := q
  obtain rfl := ro
  obtain rfl := rv
  split at q
  · rename_i xs ys ex ey
    obtain ⟨h1, e1, us, rfl, ru⟩ := g1.wd _ _ ex
    obtain ⟨h2, e2, vs, rfl, rv2⟩ := g1.wd _ _ ey
    refine ⟨l, b, us, vs, rfl, rfl, dif, e1, e2, by rw [← ru.length, ← rv2.length]; exact q.1, ?_⟩
    have g3 := Go.wr (u := .lst vs) (o' := .lst ys) g1.wd ex fun H' m => ⟨_, rfl, rv2.im m⟩
    exact k σ _ δ _ (g1.trans g3) ((sl.im (g1.im w)).im (g3.im g1.wd)) q.2
  · exact q.elim
end
end DL

set_option Elab.async false
set_option linter.all false
set_option maxRecDepth 100000
set_option maxHeartbeats 2000000
namespace L2
open PySem PySem.Spec PyProof.Rows
/-! ### t * k, k at most 0 -/
theorem tuple_mul0 (l : Addr) (old : Array Value) (n : Nat) (dd : Option Addr) (sl : Array (Option Value)) (x : Int) (u : Tok) (c0 : (decide (x < -(2 ^ 63)) || decide (x ≥ 2 ^ 63)) = false) (c1 : (old.isEmpty || x == 1) = false) (c2 : (decide (x ≤ 0) || old.isEmpty) = true) :
    Meets (Builtin.«tuple.__mul__» ⟨[.ref l, .int x u], []⟩) (fun _ R s => s.heap.get? l = some { cls := .type "tuple", dict := dd, data := .seq old n, slots := sl } ∧ R (.ok (.ret (Value.ref s.heap.objs.size))) { s with heap := s.heap.push { cls := Value.type "tuple", data := Data.seq #[] }, toks := s.toks }) :=
  .of_wp fun prog w A R s h => by
    obtain ⟨hp, g, d, tk, os⟩ := s; obtain ⟨hl, h⟩ := h
    have f1 := AutoSeq1.idx_int
    wp_walk using PySem.AutoSeq1.wpAny_loadPart' hl
    repeat (first
      | (refine wpAny_ite_false (decide_eq_false (by rw [c0]; exact Bool.false_ne_true)) ?_; (wp_walk using PySem.AutoSeq1.wpAny_loadPart' hl))
      | (refine wpAny_ite_false (decide_eq_false (by rw [c1]; exact Bool.false_ne_true)) ?_; (wp_walk using PySem.AutoSeq1.wpAny_loadPart' hl))
      | (refine wpAny_ite_true (decide_eq_true (by rw [c2])) ?_; (wp_walk using PySem.AutoSeq1.wpAny_loadPart' hl)))
    exact ⟨_, rfl, h⟩
theorem tuple_mul1 (l : Addr) (old : Array Value) (n : Nat) (dd : Option Addr) (sl : Array (Option Value)) (x : Int) (u : Tok) (c0 : (decide (x < -(2 ^ 63)) || decide (x ≥ 2 ^ 63)) = false) (c1 : (old.isEmpty || x == 1) = true) :
    Meets (Builtin.«tuple.__mul__» ⟨[.ref l, .int x u], []⟩) (fun _ R s => s.heap.get? l = some { cls := .type "tuple", dict := dd, data := .seq old n, slots := sl } ∧ R (.ok (.ret (Value.ref l))) s) :=
  .of_wp fun prog w A R s h => by
    obtain ⟨hp, g, d, tk, os⟩ := s; obtain ⟨hl, h⟩ := h
    have f1 := AutoSeq1.idx_int
    wp_walk using PySem.AutoSeq1.wpAny_loadPart' hl
    repeat (first
      | (refine wpAny_ite_false (decide_eq_false (by rw [c0]; exact Bool.false_ne_true)) ?_; (wp_walk using PySem.AutoSeq1.wpAny_loadPart' hl))
      | (refine wpAny_ite_true (decide_eq_true (by rw [c1])) ?_; (wp_walk using PySem.AutoSeq1.wpAny_loadPart' hl)))
    exact ⟨_, rfl, h⟩
end L2
namespace L2
open PySem PySem.Spec PyProof.Rows
def rRep0 (K : PySem.W.Frag) : R2 := fun x y H Q => ∃ (l : Addr) (k : Int) (xs : List V), x = .ref l ∧ y = .int k ∧ SqT K H l xs ∧ xs ≠ [] ∧ -(2 ^ 63) ≤ k ∧ k ≤ 0 ∧ ∀ p, H p = none → Q (.ref p) (upd H p (.tup []))
section
variable {X : Cx}
theorem op_rep0 : OpR X (binaryOp .Mult) (rRep0 X.K) := by
  intro pins s σ H x y v u Q I rx ry h
  obtain ⟨l, k, xs, rfl, rfl, hT, hne, h1, h2, q⟩ := h
  cases rx
  obtain ⟨t, rfl⟩ := ry
  obtain ⟨its, r, ⟨⟨cls, dd, data, sl⟩, ho, hc, n, hd⟩, hs⟩ := I.tuple hT
  simp only at hc hd
  subst hc hd
  have hn : its ≠ [] := fun e => hne (by have := r.length; rw [e] at this; exact List.eq_nil_of_length_eq_zero this)
  have hi : its.toArray.isEmpty = false := by cases its with | nil => exact absurd rfl hn | cons a b => rfl
  have c0 : (decide (k < -(2 ^ 63)) || decide (k ≥ 2 ^ 63)) = false := by rw [decide_eq_false (by omega), decide_eq_false (by omega)] <;> rfl
  have c1 : (its.toArray.isEmpty || k == 1) = false := by rw [hi, Bool.false_or]; exact beq_eq_false_iff_ne.mpr (by omega)
  have c2 : (decide (k ≤ 0) || its.toArray.isEmpty) = true := by rw [decide_eq_true h2]; rfl
  refine wpAny_binaryOp_repeat_ref (T := "tuple") (U := "int") (by decide) ⟨_, ho, rfl⟩ (fun s' => typeIs_int s' k t) noFill_tuple_mul F.fills_int_mul F.slot_int_rmul repeat_tuple F.slot_int_index.lookup
    (call_meets F.slot_int_rmul (typeIs_int s k t) F.entry_int_rmul (F.args_int_rmul_2 _ _) (int_rmul_tuple k t l its.toArray n dd sl) ⟨ho, rfl, ⟨_, ho, rfl⟩, call_meets F.slot_tuple_mul ⟨_, ho, rfl⟩ F.entry_tuple_mul (F.args_tuple_mul_2 _ _) (tuple_mul0 l its.toArray n dd sl k t c0 c1 c2) ⟨ho, ?_⟩⟩)
  refine ⟨.ref s.heap.objs.size, _, I.laid (t' := s.toks) (o := .tup []) (fun b ob q => Heap.get?_push_of_some _ q) (Nat.le_refl _) ?_, rfl, q _ (I.hok.fresh (Nat.le_refl _))⟩
  exact ⟨Nat.zero_le _, [], .nil, IsTup.new _ _⟩
end
end L2
namespace L2
open PySem PySem.Spec PyProof.Rows
def rRepB (K : PySem.W.Frag) : R2 := fun x y H Q => ∃ (l : Addr) (k : Int) (xs : List V), x = .ref l ∧ y = .int k ∧ SqT K H l xs ∧ xs ≠ [] ∧ 2 ≤ k ∧ k ≤ 100000 ∧ xs.length ≤ 10 ∧ ∀ p, H p = none → Q (.ref p) (upd H p (.tup (List.replicate k.toNat xs).flatten))
section
variable {X : Cx}
theorem op_repB : OpR X (binaryOp .Mult) (rRepB X.K) := by
  intro pins s σ H x y v u Q I rx ry h
  obtain ⟨l, k, xs, rfl, rfl, hT, hne, h1, h2, hz, q⟩ := h
  cases rx
  obtain ⟨t, rfl⟩ := ry
  obtain ⟨its, r, ⟨⟨cls, dd, data, sl⟩, ho, hc, n, hd⟩, hs⟩ := I.tuple hT
  simp only at hc hd
  subst hc hd
  have hle : its.length = xs.length := r.length.symm
  have hn : its ≠ [] := fun e => hne (by rw [e] at hle; exact List.eq_nil_of_length_eq_zero hle.symm)
  have hi : its.toArray.isEmpty = false := by cases its with | nil => exact absurd rfl hn | cons a b => rfl
  have hsz0 : its.toArray.size = xs.length := by rw [List.size_toArray, hle]
  have hm : ((its.toArray.size : Nat) : Int) * k ≤ 1000000 := by
    rw [hsz0]
    have a1 : ((xs.length : Nat) : Int) * k ≤ 10 * k := Int.mul_le_mul_of_nonneg_right (by omega) (by omega)
    omega
  have fl0 : k.toNat * xs.length ≤ 1000000 := Nat.le_trans (Nat.mul_le_mul (show k.toNat ≤ 100000 by omega) hz) (by decide)
  have flen : (List.replicate k.toNat its).flatten.length ≤ sizeLine := by
    rw [PyProof.Rows.lm_len_rep_flat, hle, sizeLine_eq]; omega
  have c0 : (decide (k < -(2 ^ 63)) || decide (k ≥ 2 ^ 63)) = false := by rw [decide_eq_false (by omega), decide_eq_false (by omega)] <;> rfl
  have c1 : (its.toArray.isEmpty || k == 1) = false := by rw [hi, Bool.false_or]; exact beq_eq_false_iff_ne.mpr (by omega)
  have c2 : (decide (k ≤ 0) || its.toArray.isEmpty) = false := by rw [hi, Bool.or_false]; exact decide_eq_false (by omega)
  have c4 : Builtin.Tuple.tupleTooMany (((its.toArray.size : Nat) : Int) * k) = false := by
    unfold Builtin.Tuple.tupleTooMany
    rw [sizeLine_eq]
    exact decide_eq_false (by omega)
  refine wpAny_binaryOp_repeat_ref (T := "tuple") (U := "int") (by decide) ⟨_, ho, rfl⟩ (fun s' => typeIs_int s' k t) noFill_tuple_mul F.fills_int_mul F.slot_int_rmul repeat_tuple F.slot_int_index.lookup
    (call_meets F.slot_int_rmul (typeIs_int s k t) F.entry_int_rmul (F.args_int_rmul_2 _ _) (int_rmul_tuple k t l its.toArray n dd sl) ⟨ho, rfl, ⟨_, ho, rfl⟩, call_meets F.slot_tuple_mul ⟨_, ho, rfl⟩ F.entry_tuple_mul (F.args_tuple_mul_2 _ _) (tuple_mulW l its.toArray n dd sl k t c0 c1 c2 (by omega) c4 (by rw [size_rep, List.size_toArray]; exact flen)) ⟨ho, ?_⟩⟩)
  rw [size_rep]
  refine ⟨.ref s.heap.objs.size, _, I.laid (t' := s.toks) (o := .tup (List.replicate k.toNat xs).flatten) (fun b ob q => Heap.get?_push_of_some _ q) (Nat.le_refl _) ?_, rfl, q _ (I.hok.fresh (Nat.le_refl _))⟩
  exact ⟨by rw [PyProof.Rows.lm_len_rep_flat, sizeLine_eq]; omega, _, r.rep k.toNat, IsTup.new _ _⟩
end
def rRep1 (K : PySem.W.Frag) : R2 := fun x y H Q => ∃ (l : Addr) (xs : List V), x = .ref l ∧ y = .int 1 ∧ SqT K H l xs ∧ Q (.ref l) H
section
variable {X : Cx}
theorem op_rep1 : OpR X (binaryOp .Mult) (rRep1 X.K) := by
  intro pins s σ H x y v u Q I rx ry h
  obtain ⟨l, xs, rfl, rfl, hT, q⟩ := h
  cases rx
  obtain ⟨t, rfl⟩ := ry
  obtain ⟨its, r, ⟨⟨cls, dd, data, sl⟩, ho, hc, n, hd⟩, hs⟩ := I.tuple hT
  simp only at hc hd
  subst hc hd
  have c0 : (decide ((1 : Int) < -(2 ^ 63)) || decide ((1 : Int) ≥ 2 ^ 63)) = false := by rw [decide_eq_false (by omega), decide_eq_false (by omega)] <;> rfl
  have c1 : (its.toArray.isEmpty || (1 : Int) == 1) = true := by rw [show ((1 : Int) == 1) = true from rfl, Bool.or_true]
  refine wpAny_binaryOp_repeat_ref (T := "tuple") (U := "int") (by decide) ⟨_, ho, rfl⟩ (fun s' => typeIs_int s' 1 t) noFill_tuple_mul F.fills_int_mul F.slot_int_rmul repeat_tuple F.slot_int_index.lookup
    (call_meets F.slot_int_rmul (typeIs_int s 1 t) F.entry_int_rmul (F.args_int_rmul_2 _ _) (int_rmul_tuple 1 t l its.toArray n dd sl) ⟨ho, rfl, ⟨_, ho, rfl⟩, call_meets F.slot_tuple_mul ⟨_, ho, rfl⟩ F.entry_tuple_mul (F.args_tuple_mul_2 _ _) (tuple_mul1 l its.toArray n dd sl 1 t c0 c1) ⟨ho, ?_⟩⟩)
  exact ⟨.ref l, H, I, rfl, q⟩
end
end L2
namespace DL
open PySem PySem.Spec L2
section
variable {X : Cx} {a b e : Expr} {τa τb τ : ED} {ν ν' : AD} {pos : Pos}
def dMulT : R2D := fun x y S Q => match x, y with
  | .tup xs, .int k => xs ≠ [] ∧ ((2 ≤ k ∧ ((k ≤ 1000 ∧ xs.length ≤ 1000) ∨ (k ≤ 100000 ∧ xs.length ≤ 10)) ∧ Q (.tup (List.replicate k.toNat xs).flatten) S) ∨ (-(2 ^ 63) ≤ k ∧ k ≤ 0 ∧ Q (.tup []) S) ∨ (k = 1 ∧ Q (.tup xs) S))
  | _, _ => False
theorem reps_flat {K : PySem.W.Frag} {H : Hp} {xs : List D} {vs : List V} (r : Reps K H xs vs) : ∀ n, Reps K H (List.replicate n xs).flatten (List.replicate n vs).flatten
  | 0 => rfl
  | n + 1 => by
    rw [List.replicate_succ, List.replicate_succ, List.flatten_cons, List.flatten_cons]
    exact r.append (reps_flat r n)
theorem o_mulT : O X (binaryOp .Mult) dMulT := by
  refine ⟨_, (op_repT.or op_repB).or (op_rep0.or op_rep1), fun H S x y dx dy w rx ry Q R k q => ?_⟩
  cases dx <;> cases dy <;> first | exact False.elim q | skip
  rename_i xs n
  obtain ⟨t, vs, rfl, hq, rs⟩ := rx
  obtain rfl := ry
  obtain ⟨ne, q⟩ := q
  have ne' : vs ≠ [] := fun e => ne (by have := rs.length; rw [e] at this; exact List.eq_nil_of_length_eq_zero this)
  rcases q with ⟨h1, ⟨h2, h3⟩ | ⟨h2, h3⟩, q⟩ | ⟨h1, h2, q⟩ | ⟨h1, q⟩
  · refine .inl (.inl ⟨t, n, vs, rfl, rfl, hq, ne', h1, h2, by rw [← rs.length]; exact h3, fun p hp => ?_⟩)
    have g := Go.new (u := .tup (List.replicate n.toNat vs).flatten) w hp
    exact k _ _ (.tup (List.replicate n.toNat xs).flatten) S g ⟨p, _, rfl, SqT.of upd_same, (reps_flat rs _).im (g.im w)⟩ q
  · refine .inl (.inr ⟨t, n, vs, rfl, rfl, hq, ne', h1, h2, by rw [← rs.length]; exact h3, fun p hp => ?_⟩)
    have g := Go.new (u := .tup (List.replicate n.toNat vs).flatten) w hp
    exact k _ _ (.tup (List.replicate n.toNat xs).flatten) S g ⟨p, _, rfl, SqT.of upd_same, (reps_flat rs _).im (g.im w)⟩ q
  · refine .inr (.inl ⟨t, n, vs, rfl, rfl, hq, ne', h1, h2, fun p hp => ?_⟩)
    have g := Go.new (u := .tup []) w hp
    exact k _ _ (.tup []) S g ⟨p, _, rfl, SqT.of upd_same, rfl⟩ q
  · subst h1
    exact .inr (.inr ⟨t, vs, rfl, rfl, hq, k _ _ (.tup xs) S (Go.refl w) ⟨t, vs, rfl, hq, rs⟩ q⟩)
/-- == of two lists, the left one an object -/
def dEqO (neg : Bool) (a : ED) (r : AD) : ED := fun δ S Q => a δ S fun x S1 => r δ S1 fun ys S2 => match x with
  | .rf p => (match S2 p with | some (.lst xs) => dEqP neg ((toPys xs).map .list) ((toPys ys).map .list) S2 Q | _ => False)
  | _ => False
theorem eq_o {op : CmpOp} {neg : Bool} {r : R2} (ho : OpR X (compareOp op) r) (hr : ∀ x y H Q, (∃ d e, Dp X.K H x d ∧ Dp X.K H y e ∧ SeqAt.shaped d = true ∧ SeqAt.shaped e = true ∧ Q (.bl (if neg then !PyData.eqv d e else PyData.eqv d e)) H) → r x y H Q)
    (ha : E X a τa) (hb : L X b ν') (hm : behindInMarks op b = false) : E X (.Compare a [op] [b] pos) (dEqO neg τa ν') ∧ T X (.Compare a [op] [b] pos) (dTB (dEqO neg τa ν')) := by
  obtain ⟨ta, a1, a2⟩ := ha
  obtain ⟨tb, b1, b2⟩ := hb
  suffices sim : SimE X.K (tOp r ta tb) (dEqO neg τa ν') by
    refine ⟨⟨_, pe_cmpR ho a1 b1 hm, sim⟩, ⟨_, pt_cmpR ho a1 b1 hm, fun σ H δ S w sl Q R k h => ?_⟩⟩
    refine sim σ H δ S w sl _ _ (fun v H' d S' g r' q => ?_) h
    cases d <;> first | exact False.elim q | skip
    exact ⟨_, r', k _ H' S' g q⟩
  intro σ H δ S w sl Q R k h
  refine a2 σ H δ S w sl _ _ (fun v H1 dx S1 g1 rx q => ?_) h
  refine b2 σ H1 δ S1 g1.wd (sl.im (g1.im w)) _ _ (fun p2 H2 us es S2 g2 hq rs2 q2 => ?_) q
  cases dx <;> first | exact False.elim q2 | skip
  rename_i p
  obtain rfl := rx
  simp only at q2
  split at q2
  · rename_i ds ed
    obtain ⟨ho2, e0, vs, rfl, rs⟩ := g2.wd _ _ ed
    unfold dEqP at q2
    split at q2
    · rename_i d e e1 e2
      cases f1 : toPys ds with
      | none => rw [f1] at e1; cases e1
      | some xs =>
        cases f2 : toPys es with
        | none => rw [f2] at e2; cases e2
        | some ys =>
          rw [f1] at e1
          rw [f2] at e2
          cases e1
          cases e2
          exact hr _ _ _ _ ⟨.list xs, .list ys, .lst (SqL.of e0) (toPys_dp rs f1), .lst hq (toPys_dp rs2 f2), q2.1, q2.2.1, k _ H2 (.bl _) S2 (g1.trans g2) rfl q2.2.2⟩
    · exact q2.elim
  · exact q2.elim
theorem e_eqO (hu : X.A.units + 64 < cLine) (ha : E X a τa) (hb : L X b ν') (hm : behindInMarks .Eq b = false := by exact nomark _) : E X (.Compare a [.Eq] [b] pos) (dEqO false τa ν') := (eq_o (neg := false) (op_eqD hu) (fun _ _ _ _ h => h) ha hb hm).1
theorem t_eqO (hu : X.A.units + 64 < cLine) (ha : E X a τa) (hb : L X b ν') (hm : behindInMarks .Eq b = false := by exact nomark _) : T X (.Compare a [.Eq] [b] pos) (dTB (dEqO false τa ν')) := (eq_o (neg := false) (op_eqD hu) (fun _ _ _ _ h => h) ha hb hm).2
theorem e_neO (hu : X.A.units + 64 < cLine) (ha : E X a τa) (hb : L X b ν') (hm : behindInMarks .NotEq b = false := by exact nomark _) : E X (.Compare a [.NotEq] [b] pos) (dEqO true τa ν') := (eq_o (neg := true) (op_neD hu) (fun _ _ _ _ h => h) ha hb hm).1
theorem t_neO (hu : X.A.units + 64 < cLine) (ha : E X a τa) (hb : L X b ν') (hm : behindInMarks .NotEq b = false := by exact nomark _) : T X (.Compare a [.NotEq] [b] pos) (dTB (dEqO true τa ν')) := (eq_o (neg := true) (op_neD hu) (fun _ _ _ _ h => h) ha hb hm).2
end
end DL

set_option Elab.async false
set_option linter.all false
set_option maxRecDepth 100000
set_option maxHeartbeats 2000000
namespace DL
open PySem PySem.Spec L2 DK PyProof.Rows
/-! ### the one sorted list -/
section
variable {α : Type}
structure Slo (lt : α → α → Bool) : Prop where
  asym : ∀ a b, lt a b = true → lt b a = false
  trans : ∀ a b c, lt a b = true → lt b c = true → lt a c = true
  tri : ∀ a b, lt a b = false → lt b a = false → a = b
theorem Slo.irr {lt : α → α → Bool} (h : Slo lt) (a : α) : lt a a = false := by
  cases e : lt a a with
  | false => rfl
  | true => rw [h.asym a a e] at e; cases e
theorem Slo.neg {lt : α → α → Bool} (h : Slo lt) (a b c : α) (h1 : lt b a = false) (h2 : lt c b = false) : lt c a = false := by
  cases e : lt c a with
  | false => rfl
  | true =>
    cases e2 : lt a b with
    | true => rw [h.trans c a b e e2] at h2; cases h2
    | false =>
      have := h.tri a b e2 h1
      subst this
      rw [e] at h2; cases h2
/-- with each member once -/
def uins (lt : α → α → Bool) (x : α) : List α → List α
  | [] => [x]
  | y :: r => if lt x y = true then x :: y :: r else if lt y x = true then y :: uins lt x r else y :: r
def usort (lt : α → α → Bool) (l : List α) : List α := l.foldr (uins lt) []
theorem mem_uins {lt : α → α → Bool} (h : Slo lt) {x y : α} : ∀ {l : List α}, y ∈ uins lt x l ↔ y = x ∨ y ∈ l
  | [] => by unfold uins; simp
  | z :: r => by
    unfold uins
    by_cases h1 : lt x z = true
    · rw [if_pos h1, List.mem_cons]
    · rw [if_neg h1]
      by_cases h2 : lt z x = true
      · rw [if_pos h2, List.mem_cons, mem_uins h, List.mem_cons]
        exact ⟨fun q => q.elim (fun e => .inr (.inl e)) fun q => q.elim .inl fun q => .inr (.inr q), fun q => q.elim (fun e => .inr (.inl e)) fun q => q.elim .inl fun q => .inr (.inr q)⟩
      · rw [if_neg h2]
        have e : x = z := h.tri x z (by simpa using h1) (by simpa using h2)
        subst e
        rw [List.mem_cons]
        exact ⟨.inr, fun q => q.elim .inl id⟩
theorem pw_uins {lt : α → α → Bool} (h : Slo lt) {x : α} : ∀ {l : List α}, l.Pairwise (fun a b => lt a b = true) → (uins lt x l).Pairwise fun a b => lt a b = true
  | [], _ => by unfold uins; simp
  | z :: r, p => by
    obtain ⟨p1, p2⟩ := List.pairwise_cons.mp p
    unfold uins
    by_cases h1 : lt x z = true
    · rw [if_pos h1]
      refine List.pairwise_cons.mpr ⟨fun y hy => ?_, p⟩
      rcases List.mem_cons.mp hy with rfl | hy
      · exact h1
      · exact h.trans _ _ _ h1 (p1 y hy)
    · rw [if_neg h1]
      by_cases h2 : lt z x = true
      · rw [if_pos h2]
        refine List.pairwise_cons.mpr ⟨fun y hy => ?_, pw_uins h p2⟩
        rcases (mem_uins h).mp hy with rfl | hy
        · exact h2
        · exact p1 y hy
      · rw [if_neg h2]; exact p
theorem mem_usort {lt : α → α → Bool} (h : Slo lt) {y : α} : ∀ {l : List α}, y ∈ usort lt l ↔ y ∈ l
  | [] => Iff.rfl
  | x :: l => by
    show y ∈ uins lt x (usort lt l) ↔ _
    rw [mem_uins h, mem_usort h, List.mem_cons]
theorem pw_usort {lt : α → α → Bool} (h : Slo lt) : ∀ l : List α, (usort lt l).Pairwise fun a b => lt a b = true
  | [] => List.Pairwise.nil
  | x :: l => pw_uins h (pw_usort h l)
theorem pw_nodup {lt : α → α → Bool} (h : Slo lt) {l : List α} (p : l.Pairwise fun a b => lt a b = true) : l.Nodup := p.imp fun {a b} q e => by rw [e, h.irr] at q; cases q
theorem pw_uniq [DecidableEq α] {lt : α → α → Bool} (h : Slo lt) {l m : List α} (p : l.Pairwise fun a b => lt a b = true) (q : m.Pairwise fun a b => lt a b = true) (e : ∀ x, x ∈ l ↔ x ∈ m) : l = m :=
  List.Perm.eq_of_pairwise (fun a b _ _ h1 h2 => by rw [h.asym a b h1] at h2; cases h2) p q ((List.perm_ext_iff_of_nodup (pw_nodup h p) (pw_nodup h q)).mpr e)
theorem usort_eq [DecidableEq α] {lt : α → α → Bool} (h : Slo lt) {l m : List α} (p : m.Pairwise fun a b => lt a b = true) (e : ∀ x, x ∈ m ↔ x ∈ l) : m = usort lt l := pw_uniq h p (pw_usort h l) fun x => (e x).trans (mem_usort h).symm
/-- with all members -/
def sins (lt : α → α → Bool) (x : α) : List α → List α
  | [] => [x]
  | y :: r => if lt y x = true then y :: sins lt x r else x :: y :: r
def isort (lt : α → α → Bool) (l : List α) : List α := l.foldr (sins lt) []
theorem sins_perm {lt : α → α → Bool} {x : α} : ∀ {l : List α}, (sins lt x l).Perm (x :: l)
  | [] => List.Perm.refl _
  | y :: r => by
    unfold sins
    by_cases h1 : lt y x = true
    · rw [if_pos h1]; exact (List.Perm.cons y sins_perm).trans (List.Perm.swap x y r)
    · rw [if_neg h1]
theorem isort_perm {lt : α → α → Bool} : ∀ {l : List α}, (isort lt l).Perm l
  | [] => List.Perm.refl _
  | x :: l => (sins_perm (l := isort lt l)).trans (List.Perm.cons x isort_perm)
theorem isort_len {lt : α → α → Bool} {l : List α} : (isort lt l).length = l.length := isort_perm.length_eq
theorem pw_sins {lt : α → α → Bool} (h : Slo lt) {x : α} : ∀ {l : List α}, l.Pairwise (fun a b => lt b a = false) → (sins lt x l).Pairwise fun a b => lt b a = false
  | [], _ => by unfold sins; simp
  | z :: r, p => by
    obtain ⟨p1, p2⟩ := List.pairwise_cons.mp p
    unfold sins
    by_cases h1 : lt z x = true
    · rw [if_pos h1]
      refine List.pairwise_cons.mpr ⟨fun y hy => ?_, pw_sins h p2⟩
      rcases List.mem_cons.mp (sins_perm.mem_iff.mp hy) with rfl | hy
      · exact h.asym _ _ h1
      · exact p1 y hy
    · rw [if_neg h1]
      refine List.pairwise_cons.mpr ⟨fun y hy => ?_, p⟩
      have h1' : lt z x = false := by simpa using h1
      rcases List.mem_cons.mp hy with rfl | hy
      · exact h1'
      · exact h.neg _ _ _ h1' (p1 y hy)
theorem pw_isort {lt : α → α → Bool} (h : Slo lt) : ∀ l : List α, (isort lt l).Pairwise fun a b => lt b a = false
  | [] => List.Pairwise.nil
  | x :: l => pw_sins h (pw_isort h l)
theorem isort_eq {lt : α → α → Bool} (h : Slo lt) {l m : List α} (p : m.Pairwise fun a b => lt b a = false) (e : m.Perm l) : m = isort lt l :=
  List.Perm.eq_of_pairwise (fun a b _ _ h1 h2 => h.tri a b h2 h1) p (pw_isort h l) (e.trans isort_perm.symm)
end
def ltI (a b : Int) : Bool := decide (a < b)
theorem slo_I : Slo ltI := ⟨fun a b h => decide_eq_false (by have := of_decide_eq_true h; omega), fun a b c h1 h2 => decide_eq_true (by have := of_decide_eq_true h1; have := of_decide_eq_true h2; omega), fun a b h1 h2 => by have := of_decide_eq_false h1; have := of_decide_eq_false h2; omega⟩
theorem slo_S : Slo ltCps := by
  refine ⟨fun a b h => ?_, fun a b c h1 h2 => ?_, fun a b h1 h2 => ?_⟩
  · rw [ltCps_eq] at h ⊢
    exact decide_eq_false fun q => List.lt_irrefl a (List.lt_trans (of_decide_eq_true h) q)
  · rw [ltCps_eq] at h1 h2 ⊢
    exact decide_eq_true (List.lt_trans (of_decide_eq_true h1) (of_decide_eq_true h2))
  · rw [ltCps_eq] at h1 h2
    exact List.le_antisymm (List.not_lt.mp (of_decide_eq_false h2)) (List.not_lt.mp (of_decide_eq_false h1))
theorem rising_pw : ∀ {l : List Str} {p : Str}, risingS p l = true → (p :: l).Pairwise fun a b => ltCps b.cps.toList a.cps.toList = false
  | [], p, _ => by simp
  | x :: r, p, h => by
    have h' : (!ltCps x.cps.toList p.cps.toList && risingS x r) = true := h
    rw [Bool.and_eq_true, Bool.not_eq_true'] at h'
    have q := rising_pw h'.2
    refine List.pairwise_cons.mpr ⟨fun y hy => ?_, q⟩
    rcases List.mem_cons.mp hy with rfl | hy
    · exact h'.1
    · exact slo_S.neg _ _ _ h'.1 ((List.pairwise_cons.mp q).1 y hy)
theorem sortedS_pw : ∀ {l : List Str}, sortedS l = true → l.Pairwise fun a b => ltCps b.cps.toList a.cps.toList = false
  | [], _ => List.Pairwise.nil
  | _ :: _, h => rising_pw h
theorem tx_back (y : Str) : tx y.cps.toList = y := by cases y; rfl
theorem tx_cps (s : List Nat) : (tx s).cps.toList = s := by simp
/-! ### sets of keys -/
def kyOf : D → Option Ky
  | .int i => some (.i i)
  | .str s => some (.s s)
  | _ => none
def kysOf : List D → Option (List Ky)
  | [] => some []
  | d :: ds => match kyOf d, kysOf ds with | some k, some ks => some (k :: ks) | _, _ => none
theorem ky_rep {K : PySem.W.Frag} {H : Hp} {d : D} {v : V} {k : Ky} (r : Rep K H d v) (h : kyOf d = some k) : v = kV k.k := by
  cases d <;> first | (cases h; done) | (cases h; exact r)
theorem kys_rep {K : PySem.W.Frag} {H : Hp} : ∀ {ds : List D} {vs : List V} {ks : List Ky}, Reps K H ds vs → kysOf ds = some ks → vs = (ks.map Ky.k).map kV
  | [], _, _, r, h => by cases h; exact r
  | d :: ds, _, ks, r, h => by
    obtain ⟨v, vs, rfl, r1, r2⟩ := r
    unfold kysOf at h
    cases e1 : kyOf d with
    | none => rw [e1] at h; cases h
    | some k =>
      cases e2 : kysOf ds with
      | none => rw [e1, e2] at h; cases h
      | some q =>
        rw [e1, e2] at h
        cases h
        rw [ky_rep r1 e1, kys_rep r2 e2]; rfl
theorem kysOf_ints : ∀ ns : List Int, kysOf (ns.map D.int) = some (ns.map Ky.i)
  | [] => rfl
  | n :: ns => by rw [List.map_cons, kysOf, kysOf_ints ns]; rfl
theorem kysOf_strs : ∀ ns : List (List Nat), kysOf (ns.map D.str) = some (ns.map Ky.s)
  | [] => rfl
  | n :: ns => by rw [List.map_cons, kysOf, kysOf_strs ns]; rfl
theorem kysOf_len : ∀ {ds : List D} {ks : List Ky}, kysOf ds = some ks → ks.length = ds.length
  | [], _, h => by cases h; rfl
  | d :: ds, _, h => by
    unfold kysOf at h
    cases e1 : kyOf d with
    | none => rw [e1] at h; cases h
    | some k =>
      cases e2 : kysOf ds with
      | none => rw [e1, e2] at h; cases h
      | some q => rw [e1, e2] at h; cases h; rw [List.length_cons, List.length_cons, kysOf_len e2]
theorem memKy {ks : List Ky} {k : Ky} : memK (ks.map Ky.k) k.k = decide (k ∈ ks) := by
  rw [Bool.eq_iff_iff, memK_iff, List.mem_map, decide_eq_true_eq]
  exact ⟨fun ⟨j, h, e⟩ => by rw [← Ky.inj e]; exact h, fun h => ⟨k, h, rfl⟩⟩
section
variable {X : Cx} {a b e : Expr} {τa τb τ : ED} {ν : AD} {p p2 pos pos2 : Pos}
def dInT (w : World) (neg : Bool) : R2D := fun x y S Q => match kyOf x, y with | some k, .kst w' ks => w' = w ∧ Q (.bl (if neg then !decide (k ∈ ks) else decide (k ∈ ks))) S | _, _ => False
theorem o_kst {op : CmpOp} {neg : Bool} (h : OpR X (compareOp op) (rInM X.w neg)) : O X (compareOp op) (dInT X.w neg) := by
  refine ⟨_, h, fun H S x y dx dy w rx ry Q R k q => ?_⟩
  unfold dInT at q
  cases e : kyOf dx with
  | none => rw [e] at q; exact q.elim
  | some ky =>
    rw [e] at q
    cases dy with
    | kst w' ks =>
      obtain ⟨rfl, q⟩ := q
      obtain ⟨c, n, rfl, hc⟩ := ry
      refine ⟨ky.k, c, _, n, ky_rep rx e, rfl, hc, ?_⟩
      rw [memKy]
      exact k _ H (.bl _) S (Go.refl w) rfl q
    | _ => exact q.elim
theorem o_inT : O X (compareOp .In) (dInT X.w false) := o_kst or_inM
theorem o_notInT : O X (compareOp .NotIn) (dInT X.w true) := o_kst or_ninM
def dSetK (w : World) (ds : List D) (S : Sh) (Q : QD) : Prop := match kysOf ds with | some ks => ks.length + 1 < scanBound ∧ Q (.kst w ks) S | none => False
def dSetT (w : World) : CD := fun ds S Q => match ds with | [.tup xs] => dSetK w xs S Q | _ => False
theorem c_setT (hc : X.calm = true := by rfl) : C X (.type "set") (dSetT X.w) := by
  refine ⟨_, cr_setK hc, fun H S vs ds w rs Q R k q => ?_⟩
  rcases ds with _ | ⟨d, _ | ⟨d2, ds⟩⟩
  · exact False.elim q
  · cases d with
    | tup xs =>
      obtain ⟨v, r, rfl, rv, rfl⟩ := rs
      obtain ⟨t, us, rfl, hq, ru⟩ := rv
      have q' : dSetK X.w xs S Q := q
      unfold dSetK at q'
      cases e : kysOf xs with
      | none => rw [e] at q'; exact q'.elim
      | some ks =>
        rw [e] at q'
        refine ⟨t, ks.map Ky.k, rfl, .inr (by rw [← kys_rep ru e]; exact hq), by rw [List.length_map]; exact q'.1, fun b c hb => ?_⟩
        have g := Go.new (u := SetM X.w b (memK (ks.map Ky.k)) c) w hb
        exact k _ _ (.kst X.w ks) S g ⟨b, c, rfl, upd_same⟩ q'.2
    | _ => exact False.elim q
  · cases d <;> exact False.elim q
/-- set(xs), xs a list -/
theorem cl_set (hc : X.calm = true := by rfl) : CL X (.type "set") (dSetK X.w) := by
  refine ⟨_, cr_setK hc, fun H S a vs ds w hs rs Q R k q => ?_⟩
  unfold dSetK at q
  cases e : kysOf ds with
  | none => rw [e] at q; exact q.elim
  | some ks =>
    rw [e] at q
    refine ⟨a, ks.map Ky.k, rfl, .inl (by rw [← kys_rep rs e]; exact hs), by rw [List.length_map]; exact q.1, fun b c hb => ?_⟩
    have g := Go.new (u := SetM X.w b (memK (ks.map Ky.k)) c) w hb
    exact k _ _ (.kst X.w ks) S g ⟨b, c, rfl, upd_same⟩ q.2
/-! ### sorted(set) -/
def kint : List Ky → Option (List Int)
  | [] => some []
  | .i n :: r => (kint r).map (n :: ·)
  | .s _ :: _ => none
def kstr : List Ky → Option (List (List Nat))
  | [] => some []
  | .s n :: r => (kstr r).map (n :: ·)
  | .i _ :: _ => none
theorem kint_map : ∀ ns : List Int, kint (ns.map Ky.i) = some ns
  | [] => rfl
  | n :: ns => by rw [List.map_cons, kint, kint_map ns]; rfl
theorem kstr_map : ∀ ns : List (List Nat), kstr (ns.map Ky.s) = some ns
  | [] => rfl
  | n :: ns => by rw [List.map_cons, kstr, kstr_map ns]; rfl
theorem of_kint : ∀ {ks : List Ky} {ns : List Int}, kint ks = some ns → ks = ns.map Ky.i
  | [], _, h => by cases h; rfl
  | .i n :: r, _, h => by
    unfold kint at h
    cases e : kint r with
    | none => rw [e] at h; cases h
    | some m => rw [e] at h; cases h; rw [of_kint e]; rfl
  | .s _ :: _, _, h => by cases h
theorem of_kstr : ∀ {ks : List Ky} {ns : List (List Nat)}, kstr ks = some ns → ks = ns.map Ky.s
  | [], _, h => by cases h; rfl
  | .s n :: r, _, h => by
    unfold kstr at h
    cases e : kstr r with
    | none => rw [e] at h; cases h
    | some m => rw [e] at h; cases h; rw [of_kstr e]; rfl
  | .i _ :: _, _, h => by cases h
def dSortKs (ks : List Ky) (S : Sh) (Q : List D → Sh → Prop) : Prop := match kint ks with
  | some ns => Q ((usort ltI ns).map D.int) S
  | none => match kstr ks with
    | some ns => Q ((usort ltCps ns).map D.str) S
    | none => False
def dSortS (w : World) (a : ED) : AD := fun δ S Q => a δ S fun x S1 => match x with | .kst w' ks => w' = w ∧ dSortKs ks S1 Q | _ => False
def rSortM (w : World) : List V → Hp → VK → Prop := fun vs H Q => rSortMI w vs H Q ∨ rSortMS w vs H Q
theorem cr_sortM (hc : X.calm = true) : CallR X (.builtin "sorted") (rSortM X.w) := CallR.or (cr_sortMI hc) (cr_sortMS hc)
theorem n_sortS {x : Str} (hm : X.mg x = none) (ha : E X a τ) (hc : X.calm = true := by rfl) (hg : Gl X x := by rfl) (hv : bootBuiltins x = some (.builtin "sorted") := by decide +kernel) (hn : x ≠ "__name__" := by decide) (hdb : (x == ("__debug__" : Str)) = false := by decide)
    (he : starEach [a] X.env = (false, eval a X.env) :: starEach [] X.env := by rfl) (hpl : (backTo pos (starEach [] X.env)).any (·.1) = false := by rfl) : N X (.Call (.Name x p) [a] [] pos) (dSortS X.w τ) := by
  obtain ⟨t, a1, a2⟩ := ha
  refine ⟨_, pe_callB (cr_sortM hc) hg hm hv (pa_cons a1 pa_nil he) hn hdb he hpl, fun σ H δ S w sl Q R k h => ?_⟩
  refine a2 σ H δ S w sl _ _ (fun v H1 d S1 g1 r1 q => ?_) h
  cases d with
  | kst w' ks =>
    obtain ⟨rfl, q⟩ := q
    obtain ⟨c, n, rfl, hH⟩ := r1
    unfold dSortKs at q
    cases e : kint ks with
    | some ns =>
      rw [e] at q
      refine .inl ⟨c, _, n, rfl, hH, fun j hj => ?_, fun ms l h1 h2 h3 h4 hl => ?_⟩
      · rw [memK_iff, of_kint e, List.map_map] at hj
        obtain ⟨i, _, ei⟩ := List.mem_map.mp hj
        exact ⟨i, ei.symm⟩
      · have em : ms = usort ltI ns := by
          refine usort_eq slo_I ?_ fun i => ?_
          · exact (h1.and h2).imp fun {x y} z => decide_eq_true (by have := z.1; have := z.2; omega)
          · rw [h3 i, show (Sum.inl i : Key) = (Ky.i i).k from rfl, memKy, decide_eq_true_eq, of_kint e, List.mem_map]
            exact ⟨fun ⟨j, h, z⟩ => by cases z; exact h, fun h => ⟨i, h, rfl⟩⟩
        have g := Go.new (u := .lst (ms.map V.int)) g1.wd hl
        dsimp only at q
        rw [← em] at q
        exact k l _ _ (ms.map D.int) S1 (g1.trans g) (g1.th l hl) upd_same (g1.wd.free hl) Reps.of_ints q
    | none =>
      rw [e] at q
      dsimp only at q
      cases e2 : kstr ks with
      | none => rw [e2] at q; exact q.elim
      | some ns =>
        rw [e2] at q
        refine .inr ⟨c, _, n, rfl, hH, fun j hj => ?_, fun ms l h1 h2 h3 h4 hl => ?_⟩
        · rw [memK_iff, of_kstr e2, List.map_map] at hj
          obtain ⟨i, _, ei⟩ := List.mem_map.mp hj
          exact ⟨_, ei.symm⟩
        · have em : ms.map (fun y => y.cps.toList) = usort ltCps ns := by
            have inj : ∀ {x y : Str}, x.cps.toList = y.cps.toList → x = y := fun {x y} z => by rw [← tx_back x, ← tx_back y, z]
            refine usort_eq slo_S ?_ fun i => ?_
            · refine List.pairwise_map.mpr (((sortedS_pw h1).and h2).imp fun {x y} z => ?_)
              cases e3 : ltCps x.cps.toList y.cps.toList with
              | true => rfl
              | false => exact absurd (inj (slo_S.tri _ _ e3 z.1)) z.2
            · rw [List.mem_map]
              constructor
              · rintro ⟨y, hy, rfl⟩
                have := (h3 y).mp hy
                rw [← tx_back y, show (Sum.inr (tx y.cps.toList) : Key) = (Ky.s y.cps.toList).k from rfl, memKy, decide_eq_true_eq, of_kstr e2, List.mem_map] at this
                obtain ⟨j, hj, z⟩ := this
                cases z; exact hj
              · intro hi
                refine ⟨tx i, (h3 _).mpr ?_, tx_cps i⟩
                rw [show (Sum.inr (tx i) : Key) = (Ky.s i).k from rfl, memKy, decide_eq_true_eq, of_kstr e2, List.mem_map]
                exact ⟨i, hi, rfl⟩
          have em2 : ms.map V.str = ((usort ltCps ns).map tx).map V.str := by rw [← em, List.map_map (l := ms), show (tx ∘ fun y : Str => y.cps.toList) = id from funext tx_back, List.map_id]
          rw [em2]
          have g := Go.new (u := .lst (((usort ltCps ns).map tx).map V.str)) g1.wd hl
          exact k l _ _ ((usort ltCps ns).map D.str) S1 (g1.trans g) (g1.th l hl) upd_same (g1.wd.free hl) (Reps.strs _) q
  | _ => exact q.elim
/-! ### sorted(list) of ints, of texts -/
def rSortedSA (K : PySem.W.Frag) : List V → Hp → VK → Prop := fun vs H Q => ∃ (a : Addr) (xs : List Str), vs = [V.ref a] ∧ SqL K H a (xs.map V.str) ∧ ∀ (ys : List Str) (p : Addr), ys.Perm xs → sortedS ys = true → H p = none → Q (.ref p) (upd H p (.lst (ys.map V.str)))
theorem cr_sortedSA : CallR X (.builtin "sorted") (rSortedSA X.K) := by
  intro pins s σ H vs us Q I r h
  obtain ⟨a, xs, rfl, hs, q⟩ := h
  obtain ⟨its, rv, hl, hz⟩ := I.list hs
  rw [Vals.ref1 r]
  have z0 := rv.length
  refine sorted_strsAny hl.isList rv.strs (by rw [← z0]; exact hz) fun out ys h1 h2 h3 => ?_
  obtain ⟨ep, he'⟩ := PyProof.Rows.sortedAll_at s.heap its out
  have hlen : (ys.map V.str).length ≤ sizeLine := by rw [List.length_map, h2.length_eq, ← List.length_map (f := V.str)]; exact hz
  exact ⟨.ref _, upd H (s.heap.objs.size + 1) (.lst (ys.map V.str)), I.laid (t' := s.toks) (fun _ _ => PyProof.Rows.sortedAll_old) (Nat.le_succ _) ⟨hlen, out.toList, ep, vals_of_strs h1, he'⟩, rfl, q ys _ h2 h3 (I.hok.fresh (Nat.le_succ _))⟩
def dSortA (ds : List D) (S : Sh) (Q : List D → Sh → Prop) : Prop := match intsOf ds with
  | some ns => Q ((isort ltI ns).map D.int) S
  | none => match strsOf ds with
    | some ss => Q ((isort ltCps ss).map D.str) S
    | none => False
theorem cn_sortA : CN X (.builtin "sorted") dSortA := by
  refine ⟨_, CallR.or cr_sortedI cr_sortedSA, fun H S a vs ds w hs rs Q R k q => ?_⟩
  unfold dSortA at q
  cases e : intsOf ds with
  | some ns =>
    rw [e] at q
    obtain rfl := of_intsOf e
    obtain rfl := Reps.ints rs
    refine .inl ⟨a, ns, rfl, hs, fun ms l h1 h2 hl => ?_⟩
    have em : ms = isort ltI ns := isort_eq slo_I (h2.imp fun {x y} z => decide_eq_false (by omega)) h1
    dsimp only at q
    rw [← em] at q
    have g := Go.new (u := .lst (ms.map V.int)) w hl
    exact k l _ _ (ms.map D.int) S g hl upd_same (w.free hl) Reps.of_ints q
  | none =>
    rw [e] at q
    dsimp only at q
    cases e2 : strsOf ds with
    | none => rw [e2] at q; exact q.elim
    | some ss =>
      rw [e2] at q
      obtain rfl := of_strsOf e2
      obtain rfl := Reps.of_strs rs
      refine .inr ⟨a, ss.map tx, rfl, hs, fun ms l h1 h2 hl => ?_⟩
      have em : ms.map (fun y => y.cps.toList) = isort ltCps ss := by
        refine isort_eq slo_S (List.pairwise_map.mpr (sortedS_pw h2)) ?_
        have := h1.map fun y : Str => y.cps.toList
        rw [List.map_map, show ((fun y : Str => y.cps.toList) ∘ tx) = id from funext tx_cps, List.map_id] at this
        exact this
      have em2 : ms.map V.str = ((isort ltCps ss).map tx).map V.str := by rw [← em, List.map_map (l := ms), show (tx ∘ fun y : Str => y.cps.toList) = id from funext tx_back, List.map_id]
      rw [em2]
      have g := Go.new (u := .lst (((isort ltCps ss).map tx).map V.str)) w hl
      exact k l _ _ ((isort ltCps ss).map D.str) S g hl upd_same (w.free hl) (Reps.strs _) q
end
end DL

set_option Elab.async false
set_option linter.all false
set_option maxRecDepth 100000
set_option maxHeartbeats 2000000
namespace DL
open PySem PySem.Spec L2 DK PyProof.Rows
section
variable {X : Cx} {a b e o : Expr} {es : List Expr} {τa τb τ : ED} {ν : AD} {α : AD} {p p2 pos pos2 apos : Pos}
/-! ### f-strings -/
def dFmt (a : ED) : ED := fun δ S Q => a δ S fun x S1 => match x with
  | .str s => s.length ≤ sizeLine ∧ Q (.str s) S1
  | .int i => i.natAbs.log2 < 1920 ∧ Q (.str (decs i)) S1
  | _ => False
theorem e_fmt (ha : E X a τ) : E X (.FormattedValue a (-1) none pos) (dFmt τ) := by
  obtain ⟨t, a1, a2⟩ := ha
  refine ⟨_, pe_fmt a1, fun σ H δ S w sl Q R k h => ?_⟩
  refine a2 σ H δ S w sl _ _ (fun v H1 d S1 g r q => ?_) h
  cases d with
  | str s => obtain rfl := r; exact .inl ⟨_, rfl, by rw [str_len]; exact q.1, k _ H1 (.str s) S1 g rfl q.2⟩
  | int i => obtain rfl := r; exact .inr ⟨i, rfl, q.1, k _ H1 (.str (decs i)) S1 g rfl q.2⟩
  | _ => exact False.elim q
def dJs : List ED → List Nat → Sl → Sh → (List Nat → Sh → Prop) → Prop
  | [], acc, _, S, Q => Q acc S
  | τ :: r, acc, δ, S, Q => τ δ S fun x S1 => match x with | .str s => (acc ++ s).length ≤ sizeLine ∧ dJs r (acc ++ s) δ S1 Q | _ => False
inductive Pj (X : Cx) : List Expr → List ED → Prop
  | nil : Pj X [] []
  | cons {e : Expr} {es : List Expr} {τ : ED} {τs : List ED} : E X e τ → Pj X es τs → Pj X (e :: es) (τ :: τs)
def SimJs (K : PySem.W.Frag) (ts : List TE) (τs : List ED) : Prop := ∀ σ H δ S, Wd K H S → SlOk K H σ δ → ∀ (acc : List Nat) (Q : List Nat → Sh → Prop) (R : Str → Hp → Prop), (∀ s H' S', Go K S H S' H' → Q s S' → R (tx s) H') → dJs τs acc δ S Q → tJs ts (tx acc) σ H R
theorem Pj.run {es : List Expr} {τs : List ED} (h : Pj X es τs) : ∃ ts, PJ X es ts ∧ SimJs X.K ts τs := by
  induction h with
  | nil => exact ⟨[], .nil, fun σ H δ S w sl acc Q R k h => k acc H S (Go.refl w) h⟩
  | cons he _ ih =>
    obtain ⟨t, a1, a2⟩ := he
    obtain ⟨ts, b1, b2⟩ := ih
    refine ⟨t :: ts, .cons a1 b1, fun σ H δ S w sl acc Q R k h => ?_⟩
    refine a2 σ H δ S w sl _ _ (fun v H1 d S1 g r q => ?_) h
    cases d with
    | str s =>
      obtain rfl := r
      refine ⟨_, rfl, by rw [str_app, str_len]; exact q.1, ?_⟩
      rw [str_app]
      exact b2 σ H1 δ S1 g.wd (sl.im (g.im w)) (acc ++ s) Q R (fun s' H' S' g' => k s' H' S' (g.trans g')) q.2
    | _ => exact False.elim q
def dJsE (τs : List ED) : ED := fun δ S Q => dJs τs [] δ S fun s S1 => Q (.str s) S1
theorem e_js {v1 v2 : Expr} {rest : List Expr} {τs : List ED} (h : Pj X (v1 :: v2 :: rest) τs) : E X (.JoinedStr (v1 :: v2 :: rest) pos) (dJsE τs) := by
  obtain ⟨ts, a, b⟩ := h.run
  exact ⟨_, pe_joined a, fun σ H δ S w sl Q R k h => b σ H δ S w sl [] _ _ (fun s H' S' g q => k _ H' (.str s) S' g rfl q) h⟩
theorem e_js1 (h : E X e τ) : E X (.JoinedStr [e] pos) τ := by
  obtain ⟨t, a, b⟩ := h
  exact ⟨_, pe_joined1 a, b⟩
/-! ### sum, all, any of lists -/
def dSumL : CD := fun ds S Q => match intsOf ds with | some ns => Q (.int ns.sum) S | none => False
theorem cl_sum (hc : X.calm = true := by rfl) : CL X (.builtin "sum") dSumL := by
  unfold dSumL
  refine ⟨_, cr_sum hc, fun H S a vs ds w hs rs Q R k q => ?_⟩
  cases e : intsOf ds with
  | none => simp only [e] at q
  | some ns =>
    simp only [e] at q
    obtain rfl := of_intsOf e
    obtain rfl := Reps.ints rs
    exact ⟨a, ns, rfl, hs, k _ H (.int ns.sum) S (Go.refl w) rfl q⟩
def bolsOf : List D → Option (List Bool)
  | [] => some []
  | .bl b :: r => (bolsOf r).map (b :: ·)
  | _ :: _ => none
theorem bolsOf_map : ∀ ns : List Bool, bolsOf (ns.map D.bl) = some ns
  | [] => rfl
  | n :: ns => by rw [List.map_cons, bolsOf, bolsOf_map ns]; rfl
theorem of_bolsOf {K : PySem.W.Frag} {H : Hp} : ∀ {ds : List D} {vs : List V} {ns : List Bool}, Reps K H ds vs → bolsOf ds = some ns → vs = ns.map V.bl
  | [], _, _, r, h => by cases h; exact r
  | d :: ds, _, ns, r, h => by
    obtain ⟨v, vs, rfl, r1, r2⟩ := r
    cases d <;> first | (cases h; done) | skip
    unfold bolsOf at h
    cases e : bolsOf ds with
    | none => rw [e] at h; cases h
    | some m =>
      rw [e] at h; cases h
      rw [of_bolsOf r2 e, show v = _ from r1]; rfl
def dAllL : CD := fun ds S Q => match bolsOf ds with | some ns => Q (.bl (ns.all id)) S | none => False
theorem cl_all (hc : X.calm = true := by rfl) : CL X (.builtin "all") dAllL := by
  unfold dAllL
  refine ⟨_, cr_all hc, fun H S a vs ds w hs rs Q R k q => ?_⟩
  cases e : bolsOf ds with
  | none => simp only [e] at q
  | some ns =>
    simp only [e] at q
    obtain rfl := of_bolsOf rs e
    exact ⟨a, ns, rfl, hs, k _ H (.bl (ns.all id)) S (Go.refl w) rfl q⟩
def dAnyL : CD := fun ds S Q => match bolsOf ds with | some ns => Q (.bl (ns.any id)) S | none => False
theorem cl_any (hc : X.calm = true := by rfl) : CL X (.builtin "any") dAnyL := by
  unfold dAnyL
  refine ⟨_, cr_any hc, fun H S a vs ds w hs rs Q R k q => ?_⟩
  cases e : bolsOf ds with
  | none => simp only [e] at q
  | some ns =>
    simp only [e] at q
    obtain rfl := of_bolsOf rs e
    exact ⟨a, ns, rfl, hs, k _ H (.bl (ns.any id)) S (Go.refl w) rfl q⟩
/-! ### more methods of texts -/
def partL (s t : List Nat) : D := .tup [.str (Txt.partition (tx s) (tx t)).1.cps.toList, .str (Txt.partition (tx s) (tx t)).2.1.cps.toList, .str (Txt.partition (tx s) (tx t)).2.2.cps.toList]
def dPartn : MD := fun x ds S Q => match x, ds with | .str s, [.str t] => t ≠ [] ∧ s.length ≤ sizeLine ∧ Q (partL s t) S | _, _ => False
theorem m_partn : M X "str.partition" dPartn := by
  refine ⟨_, mt_partition, fun H S x dx vs ds w rx rs Q R k q => ?_⟩
  cases dx <;> first | exact False.elim q | skip
  rename_i s
  rcases ds with _ | ⟨d, _ | ⟨d2, ds⟩⟩
  · exact False.elim q
  · cases d <;> first | exact False.elim q | skip
    rename_i t
    obtain rfl := rx
    obtain ⟨v, r, rfl, rv, rfl⟩ := rs
    obtain rfl := rv
    refine ⟨_, _, rfl, rfl, ?_, by rw [str_len]; exact q.2.1, fun p hp => ?_⟩
    · rw [str_len]
      cases t with
      | nil => exact absurd rfl q.1
      | cons c t => rfl
    · have g := Go.new (u := .tup [.str (Txt.partition (tx s) (tx t)).1, .str (Txt.partition (tx s) (tx t)).2.1, .str (Txt.partition (tx s) (tx t)).2.2]) w hp
      exact k _ _ (partL s t) S g ⟨p, _, rfl, SqT.of upd_same, _, _, rfl, rfl, _, _, rfl, rfl, _, _, rfl, rfl, rfl⟩ q.2.2
  · cases d <;> exact False.elim q
def okL (s : List Nat) : Prop := s.length ≤ 5592405
def dStrip : MD := mS0 (fun s => .str (Txt.strip (tx s)).cps.toList) okT
theorem m_strip : M X "str.strip" dStrip := m_S0 mt_strip fun K H s R h k => ⟨_, rfl, rfl, by rw [str_len]; exact h, k _ rfl⟩
def dStripC : MD := mS1 (fun s t => .str (Txt.stripChars (tx s) (tx t)).cps.toList) (fun s _ => okT s)
theorem m_stripC : M X "str.strip" dStripC := m_S1 mt_stripChars fun K H s t R h k => ⟨_, _, rfl, rfl, by rw [str_len]; exact h, k _ rfl⟩
def dLower : MD := mS0 (fun s => .str (Txt.lower (tx s)).cps.toList) okL
theorem m_lower : M X "str.lower" dLower := m_S0 mt_lower fun K H s R h k => ⟨_, rfl, rfl, by rw [str_len]; exact h, k _ rfl⟩
def dUpper : MD := mS0 (fun s => .str (Txt.upper (tx s)).cps.toList) okL
theorem m_upper : M X "str.upper" dUpper := m_S0 mt_upper fun K H s R h k => ⟨_, rfl, rfl, by rw [str_len]; exact h, k _ rfl⟩
def dRfind : MD := mS1 (fun s t => .int (Txt.rfind (tx s) (tx t))) ok2
theorem m_rfind : M X "str.rfind" dRfind := m_S1 mt_rfind fun K H s t R _ k => ⟨_, _, rfl, rfl, k _ rfl⟩
def dCount : MD := mS1 (fun s t => .int (Txt.count (tx s) (tx t))) ok2
theorem m_count : M X "str.count" dCount := m_S1 mt_count fun K H s t R _ k => ⟨_, _, rfl, rfl, k _ rfl⟩
/-! ### a list taken apart into names -/
def dGunl (r : GsD) (n : Nat) : GD := fun d δ S Q => match d with
  | .rf p => (match S p with | some (.lst ds) => ds.length = n ∧ r ds δ S Q | _ => False)
  | _ => False
theorem g_unl {γs : GsD} {k n : Nat} (h : Gs X es γs) (hc : X.calm = true := by rfl) (hn : (assignEach es X.env).length = n := by rfl) (hst : (assignEach es X.env).findIdx? (·.1) = none := by rfl) : G X (.Tuple es k pos) (dGunl γs n) := by
  obtain ⟨t, a1, a2⟩ := h
  refine ⟨_, pg_unl hc a1 hn hst, fun σ H δ S v d w sl r Q R k h => ?_⟩
  cases d with
  | rf q =>
    obtain rfl := r
    have h' : (match S q with | some (.lst ds) => ds.length = n ∧ γs ds δ S Q | _ => False) := h
    cases e : S q with
    | none => rw [e] at h'; exact h'.elim
    | some o =>
      cases o with
      | lst ds =>
        rw [e] at h'
        obtain ⟨ho, e1, vs, rfl, rs⟩ := w _ _ e
        exact ⟨q, vs, rfl, SqL.of e1, by rw [← rs.length]; exact h'.1, a2 σ H δ S vs ds w sl rs Q R k h'.2⟩
      | ins _ _ => rw [e] at h'; exact h'.elim
      | dic _ => rw [e] at h'; exact h'.elim
  | _ => exact False.elim h
theorem gw_unl {k n : Nat} {scope : Scope} {vs : List Nat} {ts : List Expr} {γs : GsD} (h : Gws X scope vs ts γs) (hc : X.calm = true := by rfl)
    (hn : ∀ (s : Shared) (H : Hp) (C : Addr) (cl : List (Str × Addr)) (fp : List Addr), (assignEach ts (X.blk s H scope (compEnvC scope cl C X.env) fp).env).length = n := by intro _ _ _ _ _; rfl)
    (hst : ∀ (s : Shared) (H : Hp) (C : Addr) (cl : List (Str × Addr)) (fp : List Addr), (assignEach ts (X.blk s H scope (compEnvC scope cl C X.env) fp).env).findIdx? (·.1) = none := by intro _ _ _ _ _; rfl) : Gw X scope vs (.Tuple ts k pos) (dGunl γs n) := by
  obtain ⟨g, b1, b2⟩ := h
  refine ⟨gUnl X.K n g, fun s H C cl fp => pg_unl hc (b1 s H C cl fp) (hn s H C cl fp) (hst s H C cl fp), fun σ H δ S v d w sl rv Q R k h => ?_⟩
  cases d with
  | rf q =>
    obtain rfl := rv
    have h' : (match S q with | some (.lst ds) => ds.length = n ∧ γs ds δ S Q | _ => False) := h
    cases e : S q with
    | none => rw [e] at h'; exact h'.elim
    | some o =>
      cases o with
      | lst ds =>
        rw [e] at h'
        obtain ⟨ho, e1, us, rfl, rs⟩ := w _ _ e
        exact ⟨q, us, rfl, SqL.of e1, by rw [← rs.length]; exact h'.1, b2 _ (wipe σ vs) H _ S us ds w sl rs rfl Q R (fun σ' H' δ' S' e => k σ' H' δ' S' (e.trans wipe_idem)) h'.2⟩
      | ins _ _ => rw [e] at h'; exact h'.elim
      | dic _ => rw [e] at h'; exact h'.elim
  | _ => exact False.elim h
/-! ### a comprehension of two clauses -/
def dComp2 (γ : GD) (κ : TD) (ι1 : ID) (γ1 : GD) (κ1 : TD) (τ : ED) (vs1 : List Nat) (δ : Sl) (ck : Sh → Prop) (Q : List D → Sh → Prop) : List D → List D → Sh → Prop
  | [], acc, S => Q acc S
  | x :: xs, acc, S => γ x δ S fun δ1 S1 => κ δ1 S1 fun b S2 => if b = true then ι1 δ1 S2 fun ys ck1 S3 => dComp γ1 κ1 τ (dWipe δ1 vs1) ck1 (fun acc' S4 => ck S4 ∧ dComp2 γ κ ι1 γ1 κ1 τ vs1 δ ck Q xs acc' S4) ys acc S3
      else ck S2 ∧ dComp2 γ κ ι1 γ1 κ1 τ vs1 δ ck Q xs acc S2
def dLc2 (ι : ID) (γ : GD) (κ : TD) (ι1 : ID) (γ1 : GD) (κ1 : TD) (τ : ED) (vs vs1 : List Nat) : AD := fun δ S Q => ι δ S fun xs ck S1 => dComp2 γ κ ι1 γ1 κ1 τ vs1 (dWipe δ vs) ck Q xs [] S1
def canI (K : PySem.W.Frag) (τ : ID) : TI := fun σ H R => ∃ δ S Q, Wd K H S ∧ SlOk K H σ δ ∧ (∀ J H' S' xs ck, Go K S H S' H' → SimJ K H S' H' J xs ck → ck S' → Q xs ck S' → R J H') ∧ τ δ S Q
theorem sim_canI {K : PySem.W.Frag} {τ : ID} : SimI K (canI K τ) τ := fun σ H δ S w sl Q R k h => ⟨δ, S, Q, w, sl, k, h⟩
theorem I.can {tg iter : Expr} {τ : ID} (h : I X tg iter τ) : PI X tg iter (canI X.K τ) := by
  obtain ⟨t, h1, h2⟩ := h
  refine ⟨fun pins s σ H R I q => ?_⟩
  obtain ⟨δ, S, Q, w, sl, k, q⟩ := q
  exact h1.run pins s σ H R I (h2 σ H δ S w sl Q R k q)
/-- the list in the making grows -/
theorem im_app {K : PySem.W.Frag} {H : Hp} {q : Addr} {xs ys : List V} (hp : H q = some (.lst xs)) : Im K H (upd H q (.lst ys)) := ⟨fun b zs r => by
    rcases r with (r | ⟨o, r⟩) | r
    · exact .inl (.inl (by rw [upd_ne (ne_of r hp (by intro z; cases z))]; exact r))
    · exact .inl (.inr ⟨o, by rw [upd_ne (ne_of r hp (by intro z; cases z))]; exact r⟩)
    · exact .inr r, fun b zs r => by
    rcases r with ⟨o, r⟩ | r
    · exact .inl ⟨o, by rw [upd_ne (ne_of r hp (by intro z; cases z))]; exact r⟩
    · exact .inr r, fun b f r => by rw [upd_ne (ne_of r hp (by intro z; cases z))]; exact r⟩
theorem go_app {K : PySem.W.Frag} {S1 S5 : Sh} {H1 H5 : Hp} {q : Addr} {xs ys : List V} (g : Go K S1 H1 S5 H5) (h1 : H1 q = none) (h5 : H5 q = some (.lst xs)) (s5 : S5 q = none) : Go K S1 H1 S5 (upd H5 q (.lst ys)) := by
  refine ⟨fun a o e1 e2 => ?_, g.out, fun a o e1 => ?_, fun a e => g.th a (upd_none e)⟩
  · rw [upd_ne (ne_of_none e1 h1)]; exact g.ext a o e1 e2
  · have na : a ≠ q := fun z => by rw [z, s5] at e1; cases e1
    obtain ⟨ho, e2, r⟩ := g.wd a o e1
    exact ⟨ho, by rw [upd_ne na]; exact e2, r.im (im_app h5)⟩
theorem Im.trans {K : PySem.W.Frag} {H H1 H2 : Hp} (a : Im K H H1) (b : Im K H1 H2) : Im K H H2 := ⟨fun x xs h => b.t x xs (a.t x xs h), fun x xs h => b.f x xs (a.f x xs h), fun x f h => b.s x f (a.s x f h)⟩
/-- what the inner walk needs, while the list at p grows -/
structure KpB (K : PySem.W.Frag) (p : Addr) (S0 : Sh) (H0 : Hp) (S : Sh) (H : Hp) : Prop where
  im : Im K H0 H
  ex : ∀ a o, a ≠ p → H0 a = some o → S0 a = none → H a = some o ∧ S a = none
theorem KpB.go {K : PySem.W.Frag} {p : Addr} {S0 S S' : Sh} {H0 H H' : Hp} (a : KpB K p S0 H0 S H) (w : Wd K H S) (g : Go K S H S' H') : KpB K p S0 H0 S' H' :=
  ⟨a.im.trans (g.im w), fun x o h1 h2 h3 => let ⟨e1, e2⟩ := a.ex x o h1 h2 h3; ⟨g.ext x o e1 e2, g.out x o e1 e2⟩⟩
theorem KpB.app {K : PySem.W.Frag} {p : Addr} {S0 S : Sh} {H0 H : Hp} {xs ys : List V} (a : KpB K p S0 H0 S H) (hp : H p = some (.lst xs)) : KpB K p S0 H0 S (upd H p (.lst ys)) :=
  ⟨a.im.trans (im_app hp), fun x o h1 h2 h3 => let ⟨e1, e2⟩ := a.ex x o h1 h2 h3; ⟨by rw [upd_ne h1]; exact e1, e2⟩⟩
theorem sim_lc2 {K : PySem.W.Frag} {wi wi1 : TI} {g g1 : TG} {tt tt1 : TT} {te : TE} {ι ι1 : ID} {γ γ1 : GD} {κ κ1 : TD} {τ : ED} {vs vs1 : List Nat} (hi : SimI K wi ι) (hg : SimGw K vs g γ) (ht : SimT K tt κ) (hi1 : SimI K wi1 ι1) (hg1 : SimGw K vs1 g1 γ1) (ht1 : SimT K tt1 κ1) (he : SimE K te τ) :
    SimN K (tLc2 wi g tt wi1 g1 tt1 te vs vs1) (dLc2 ι γ κ ι1 γ1 κ1 τ vs vs1) := by
  intro σ H δ S w sl Q R k h
  refine hi σ H δ S w sl _ _ (fun J H1 S1 xs ck g0 hJ hck q => ?_) h
  intro p hp
  have hS1 : S1 p = none := g0.wd.free hp
  refine ⟨fun i m H' => ∃ S' acc vacc, Go K S1 H1 S' H' ∧ ck S' ∧ i ≤ xs.length ∧ m = xs.length - i ∧ H' p = some (.lst vacc) ∧ S' p = none ∧ Reps K H' acc vacc ∧ dComp2 γ κ ι1 γ1 κ1 τ vs1 (dWipe δ vs) ck Q (xs.drop i) acc S', ⟨xs.length, S1, [], [], Go.new g0.wd hp, hck, Nat.zero_le _, rfl, upd_same, hS1, rfl, by simpa using q⟩, ?_⟩
  rintro i m H' ⟨S', acc, vacc, g', ck', hi', rfl, hp', hs', ra, q'⟩
  have slw : SlOk K H' (wipe σ vs) (dWipe δ vs) := (((sl.im (g0.im w)).im (g'.im g0.wd)).wiped vs)
  obtain ⟨j1, j2⟩ := hJ S' H' (g'.kp g0.wd) ck' i
  by_cases hlt : i < xs.length
  · obtain ⟨go, yl⟩ := j1 xs[i] (by simp [hlt])
    rw [drop_cons hlt] at q'
    refine .inr ⟨go, fun H2 => ∃ S2 acc2 vacc2, Go K S1 H1 S2 H2 ∧ ck S2 ∧ H2 p = some (.lst vacc2) ∧ S2 p = none ∧ Reps K H2 acc2 vacc2 ∧ dComp2 γ κ ι1 γ1 κ1 τ vs1 (dWipe δ vs) ck Q (xs.drop (i + 1)) acc2 S2, fun H2 ⟨S2, acc2, vacc2, g2, ck2, a2, b2, c2, q2⟩ => ⟨xs.length - (i + 1), by omega, S2, acc2, vacc2, g2, ck2, hlt, rfl, a2, b2, c2, q2⟩, fun x H2 y => ?_⟩
    obtain ⟨g2, rx⟩ := yl x H2 y
    refine hg σ H2 _ S' x xs[i] g2.wd (slw.im (g2.im g'.wd)) rx _ _ (fun σ3 H3 δ3 S3 hw g3 sl3 q3 => ⟨hw, ?_⟩) q'
    refine ht σ3 H3 δ3 S3 g3.wd sl3 _ _ (fun b H4 S4 g4 q4 => ?_) q3
    have g24 : Go K S' H' S4 H4 := (g2.trans g3).trans g4
    have sl4 : SlOk K H4 σ3 δ3 := sl3.im (g4.im g3.wd)
    cases b with
    | true =>
      rw [if_pos rfl] at q4 ⊢
      refine hi1 σ3 H4 δ3 S4 g4.wd sl4 _ _ (fun J1 H5 S5 ys ck1 g5 hJ1 hck1 q5 => ?_) q4
      have g15 : Go K S1 H1 S5 H5 := g'.trans (g24.trans g5)
      have g25 := g24.trans g5
      refine ⟨fun j k' H6 => ∃ S6 acc6 vacc6, KpB K p S5 H5 S6 H6 ∧ Go K S1 H1 S6 H6 ∧ ck1 S6 ∧ j ≤ ys.length ∧ k' = ys.length - j ∧ H6 p = some (.lst vacc6) ∧ S6 p = none ∧ Reps K H6 acc6 vacc6 ∧ dComp γ1 κ1 τ (dWipe δ3 vs1) ck1 (fun acc' S4 => ck S4 ∧ dComp2 γ κ ι1 γ1 κ1 τ vs1 (dWipe δ vs) ck Q (xs.drop (i + 1)) acc' S4) (ys.drop j) acc6 S6,
        ⟨ys.length, S5, acc, vacc, ⟨Im.refl K H5, fun a o _ h1 h2 => ⟨h1, h2⟩⟩, g15, hck1, Nat.zero_le _, rfl, g25.ext p _ hp' hs', g25.out p _ hp' hs', ra.im (g25.im g'.wd), by simpa using q5⟩, ?_⟩
      rintro j k' H6 ⟨S6, acc6, vacc6, g56, g16, ck6, hj', rfl, hp6, hs6, ra6, q6⟩
      have slw1 : SlOk K H6 (wipe σ3 vs1) (dWipe δ3 vs1) := (((sl4.im (g5.im g4.wd)).im g56.im).wiped vs1)
      obtain ⟨l1, l2⟩ := hJ1 S6 H6 ⟨g16.wd, g56.im, fun a o h1 h2 h3 => (g56.ex a o (fun e => by rw [e, g24.ext p _ hp' hs'] at h1; cases h1) h2 h3).1⟩ ck6 j
      by_cases hlt2 : j < ys.length
      · obtain ⟨go2, yl2⟩ := l1 ys[j] (by simp [hlt2])
        rw [drop_cons hlt2] at q6
        refine .inr ⟨go2, fun H7 => ∃ S7 acc7 vacc7, KpB K p S5 H5 S7 H7 ∧ Go K S1 H1 S7 H7 ∧ ck1 S7 ∧ H7 p = some (.lst vacc7) ∧ S7 p = none ∧ Reps K H7 acc7 vacc7 ∧ dComp γ1 κ1 τ (dWipe δ3 vs1) ck1 (fun acc' S4 => ck S4 ∧ dComp2 γ κ ι1 γ1 κ1 τ vs1 (dWipe δ vs) ck Q (xs.drop (i + 1)) acc' S4) (ys.drop (j + 1)) acc7 S7,
          fun H7 ⟨S7, acc7, vacc7, g7, g17, ck7, a7, b7, c7, q7⟩ => ⟨ys.length - (j + 1), by omega, S7, acc7, vacc7, g7, g17, ck7, hlt2, rfl, a7, b7, c7, q7⟩, fun x2 H7 y2 => ?_⟩
        obtain ⟨g7, rx2⟩ := yl2 x2 H7 y2
        refine hg1 σ3 H7 _ S6 x2 ys[j] g7.wd (slw1.im (g7.im g16.wd)) rx2 _ _ (fun σ8 H8 δ8 S8 hw8 g8 sl8 q8 => ⟨hw8, ?_⟩) q6
        refine ht1 σ8 H8 δ8 S8 g8.wd sl8 _ _ (fun b2 H9 S9 g9 q9 => ?_) q8
        have g69 : Go K S6 H6 S9 H9 := (g7.trans g8).trans g9
        cases b2 with
        | true =>
          rw [if_pos rfl] at q9 ⊢
          refine he σ8 H9 δ8 S9 g9.wd (sl8.im (g9.im g8.wd)) _ _ (fun v H10 d S10 g10 r10 q10 => ?_) q9
          have g610 := g69.trans g10
          have hp10 : H10 p = some (.lst vacc6) := g610.ext p _ hp6 hs6
          have hs10 : S10 p = none := g610.out p _ hp6 hs6
          have ra10 := ra6.im (g610.im g16.wd)
          have ge : KpB K p S5 H5 S10 (upd H10 p (.lst (vacc6 ++ [v]))) := (g56.go g16.wd g610).app hp10
          exact ⟨vacc6, hp10, by rw [← ra6.length]; exact q10.1, S10, acc6 ++ [d], vacc6 ++ [v], ge, go_app (g16.trans g610) hp hp10 hs10, q10.2.1, upd_same, hs10, (ra10.append (Reps.one r10)).im (im_app hp10), q10.2.2⟩
        | false =>
          rw [if_neg Bool.false_ne_true] at q9 ⊢
          exact ⟨S9, acc6, vacc6, g56.go g16.wd g69, g16.trans g69, q9.1, g69.ext p _ hp6 hs6, g69.out p _ hp6 hs6, ra6.im (g69.im g16.wd), q9.2⟩
      · have e : ys.drop j = [] := List.drop_eq_nil_of_le (by omega)
        rw [e] at q6
        exact .inl ⟨l2 (by omega), S6, acc6, vacc6, g16, q6.1, hp6, hs6, ra6, q6.2⟩
    | false =>
      rw [if_neg Bool.false_ne_true] at q4 ⊢
      exact ⟨S4, acc, vacc, g'.trans g24, q4.1, g24.ext p _ hp' hs', g24.out p _ hp' hs', ra.im (g24.im g'.wd), q4.2⟩
  · have e : xs.drop i = [] := List.drop_eq_nil_of_le (by omega)
    rw [e] at q'
    exact .inl ⟨j2 (by omega), k p H' vacc acc S' (g0.trans g') (g0.th p hp) hp' hs' ra q'⟩
theorem n_lc2 {elt tg iter tg1 iter1 : Expr} {ifs ifs1 : List Expr} {scope : Scope} {own : List (Str × Nat)} (vs1 : List Nat) {ι ι1 : ID} {γ γ1 : GD} {κ κ1 : TD} {τ : ED} (hN : X.N.Nodup) (hi : I X tg iter ι) (ok : blkC X.N X.env.scope scope own = true)
    (hg : Gw X scope (own.map (·.2)) tg γ) (ht : Tw X scope ifs κ) (hi1 : ∀ (s : Shared) (H : Hp) (C : Addr) (cl : List (Str × Addr)) (fp : List Addr), I (X.blk s H scope (compEnvC scope cl C X.env) fp) tg1 iter1 ι1)
    (hg1 : Gw X scope vs1 tg1 γ1) (ht1 : Tw X scope ifs1 κ1) (he : ∀ (s : Shared) (H : Hp) (C : Addr) (cl : List (Str × Addr)) (fp : List Addr), E (X.blk s H scope (compEnvC scope cl C X.env) fp) elt τ)
    (hv : ∀ i ∈ vs1, i ∈ own.map (·.2) := by decide) (hc : X.calm = true := by rfl) (hs : ∀ x, foldedSetIterable iter X.env x = pure x := by intro _; rfl) (hs1 : ∀ env x, foldedSetIterable iter1 env x = pure x := by intro _ _; rfl) :
    N X (.ListComp elt [⟨tg, iter, ifs, 0⟩, ⟨tg1, iter1, ifs1, 0⟩] scope pos) (dLc2 ι γ κ ι1 γ1 κ1 τ (own.map (·.2)) vs1) := by
  obtain ⟨ti, i1, i2⟩ := hi
  obtain ⟨g, g1, g2⟩ := hg
  obtain ⟨t, t1, t2⟩ := ht
  obtain ⟨h, h1, h2⟩ := hg1
  obtain ⟨u, u1, u2⟩ := ht1
  exact ⟨_, pe_lc2 hc hN i1 (blkOk_by ok) hv g1 t1 (fun s H C cl fp => (hi1 s H C cl fp).can) h1 u1 (fun s H C cl fp => (he s H C cl fp).can) hs hs1, sim_lc2 i2 g2 t2 sim_canI h2 u2 sim_can⟩
end
end DL

set_option Elab.async false
set_option linter.all false
set_option maxRecDepth 100000
set_option maxHeartbeats 2000000
namespace DL
open PySem PySem.Spec L2 DK PyProof.Rows
section
variable {X : Cx} {a b e o i : Expr} {es : List Expr} {τa τb τ τd τi : ED} {ν : AD} {α : AD} {p p2 pos pos2 apos cpos : Pos}
/-! ### what is never reckoned -/
def dNevE : ED := fun _ _ _ => False
def dNevT : TD := fun _ _ _ => False
theorem e_never : E X e dNevE := ⟨fun _ _ _ => False, ⟨fun pins s σ H Q I h => h.elim⟩, fun _ _ _ _ _ _ _ _ _ h => h.elim⟩
theorem t_never : T X e dNevT := ⟨fun _ _ _ => False, ⟨fun pins s σ H Q I h => h.elim⟩, fun _ _ _ _ _ _ _ _ _ h => h.elim⟩
/-! ### *e of a list -/
def dStarL (l : AD) (r : AD) : AD := fun δ S Q => l δ S fun xs S1 => r δ S1 fun ys S2 => Q (xs ++ ys) S2
theorem a_starL (ha : L X e ν) (hr : A X es α) (hs : starEach (.Starred e p :: es) X.env = (true, eval e X.env) :: starEach es X.env := by rfl) : A X (.Starred e p :: es) (dStarL ν α) := by
  obtain ⟨t, a1, a2⟩ := ha
  obtain ⟨tr, b1, b2⟩ := hr
  refine ⟨_, StX.pa_star a1 b1 hs, fun σ H δ S w sl Q R k h => ?_⟩
  refine a2 σ H δ S w sl _ _ (fun l H1 vs ds S1 g1 hq rs q => ?_) h
  refine ⟨l, vs, rfl, .inr hq, ?_⟩
  refine b2 σ H1 δ S1 g1.wd (sl.im (g1.im w)) _ _ (fun us H2 ys S2 g2 rs2 q2 => ?_) q
  exact k _ H2 (ds ++ ys) S2 (g1.trans g2) ((rs.im (g2.im g1.wd)).append rs2) q2
/-! ### list(tuple), tuple(tuple) -/
def dListT (a : ED) : AD := fun δ S Q => a δ S fun x S1 => match x with | .tup ds => Q ds S1 | _ => False
theorem n_listT {x : Str} (hm : X.mg x = none) (ha : E X a τ) (hg : Gl X x := by rfl) (hv : bootBuiltins x = some (.type "list") := by decide +kernel) (hn : x ≠ "__name__" := by decide) (hdb : (x == ("__debug__" : Str)) = false := by decide)
    (he : starEach [a] X.env = (false, eval a X.env) :: starEach [] X.env := by rfl) (hpl : (backTo pos (starEach [] X.env)).any (·.1) = false := by rfl) : N X (.Call (.Name x p) [a] [] pos) (dListT τ) := by
  obtain ⟨t, a1, a2⟩ := ha
  refine ⟨_, pe_callTy call_list_of hg hm hv (pa_cons a1 pa_nil he) hn hdb he hpl, fun σ H δ S w sl Q R k h => ?_⟩
  refine a2 σ H δ S w sl _ _ (fun v H1 d S1 g1 r1 q => ?_) h
  cases d with
  | tup ds =>
    obtain ⟨l, vs, rfl, hq, rs⟩ := r1
    refine ⟨l, vs, rfl, .inr hq, fun l2 hl2 => ?_⟩
    have g := Go.new (u := .lst vs) g1.wd hl2
    exact k l2 _ vs ds S1 (g1.trans g) (g1.th l2 hl2) upd_same (g1.wd.free hl2) (rs.im (g.im g1.wd)) q
  | _ => exact q.elim
def dTupT : CD := fun ds S Q => match ds with | [.tup xs] => Q (.tup xs) S | _ => False
theorem c_tupT : C X (.type "tuple") dTupT := by
  refine ⟨_, call_tupleT, fun H S vs ds w rs Q R k q => ?_⟩
  rcases ds with _ | ⟨d, _ | ⟨d2, ds⟩⟩
  · exact False.elim q
  · cases d with
    | tup xs =>
      obtain ⟨v, r, rfl, rv, rfl⟩ := rs
      obtain ⟨t, us, rfl, hq, ru⟩ := rv
      exact ⟨t, us, rfl, hq, k _ H (.tup xs) S (Go.refl w) ⟨t, us, rfl, hq, ru⟩ q⟩
    | _ => exact False.elim q
  · cases d <;> exact False.elim q
end
/-! stops for the walk -/
def comp2K (γ : GD) (κ : TD) (ι1 : ID) (γ1 : GD) (κ1 : TD) (τ : ED) (vs1 : List Nat) (δ : Sl) (ck : Sh → Prop) (Q : List D → Sh → Prop) (xs acc : List D) (S : Sh) (_ : Tag γ) (_ : Tag κ) (_ : Tag ι1) (_ : Tag γ1) (_ : Tag κ1) (_ : Tag τ) (_ : Tag ck) (_ : Tag Q) : Prop := dComp2 γ κ ι1 γ1 κ1 τ vs1 δ ck Q xs acc S
theorem dLc2_k (ι : ID) (γ : GD) (κ : TD) (ι1 : ID) (γ1 : GD) (κ1 : TD) (τ : ED) (vs vs1 : List Nat) (δ : Sl) (S : Sh) (Q : List D → Sh → Prop) : dLc2 ι γ κ ι1 γ1 κ1 τ vs vs1 δ S Q = ι δ S fun xs ck S1 => comp2K γ κ ι1 γ1 κ1 τ vs1 (dWipe δ vs) ck Q xs [] S1 .mk .mk .mk .mk .mk .mk .mk .mk := rfl
def nK (ρ : ND) (ds : List D) (S : Sh) (Q : List D → Sh → Prop) (_ : Tag Q) : Prop := ρ ds S Q
theorem dOnN_k (ρ : ND) (l : AD) (δ : Sl) (S : Sh) (Q : List D → Sh → Prop) : dOnN ρ l δ S Q = l δ S fun ds S1 => nK ρ ds S1 Q .mk := rfl
def newK (ds : List D) (S : Sh) (Q : QD) (_ : Tag Q) : Prop := ∀ p, S p = none → Q (.rf p) (su S p (.lst ds))
theorem dNew_k (a : AD) (δ : Sl) (S : Sh) (Q : QD) : dNew a δ S Q = a δ S fun ds S1 => newK ds S1 Q .mk := rfl
end DL

set_option Elab.async false
set_option linter.all false
set_option maxRecDepth 100000
set_option maxHeartbeats 2000000
namespace DL
open PySem PySem.Spec L2 DK PyProof.Rows
section
variable {X : Cx}
/-! ### sum of a tuple -/
def rSumT (K : PySem.W.Frag) : List V → Hp → VK → Prop := fun vs H Q => ∃ (a : Addr) (ns : List Int), vs = [V.ref a] ∧ SqT K H a (ns.map V.int) ∧ Q (.int ns.sum) H
theorem cr_sumT (hc : X.calm = true) : CallR X (.builtin "sum") (rSumT X.K) := by
  intro pins s σ H vs us Q I r h
  obtain ⟨a, ns, rfl, hs, q⟩ := h
  obtain ⟨its, rv, pt, hz⟩ := I.tuple hs
  rw [Vals.ref1 r]
  have hi := intsAre_of rv
  -- the items
  obtain ⟨xs, e⟩ := hi.allInts.items
  have hn : numsOf (intItems xs).toList = ns := by rw [← e]; exact hi.numsOf
  rw [nums_intItems] at hn
  have ht : s.heap.IsTuple a its.toArray := pt
  rw [e] at ht
  refine PySem.W.ktm_sumG (I.ok.hd hc) ht fun h' tk t' hk => ?_
  rw [preSum_eq, List.take_of_length_le (by simp), hn]
  exact ⟨.int _, H, I.kept hk, ⟨_, rfl⟩, q⟩
def dSumT : CD := fun ds S Q => match ds with | [.tup xs] => (match intsOf xs with | some ns => Q (.int ns.sum) S | none => False) | _ => False
theorem c_sumT (hc : X.calm = true := by rfl) : C X (.builtin "sum") dSumT := by
  refine ⟨_, cr_sumT hc, fun H S vs ds w rs Q R k q => ?_⟩
  rcases ds with _ | ⟨d, _ | ⟨d2, ds⟩⟩
  · exact False.elim q
  · cases d with
    | tup xs =>
      obtain ⟨v, r, rfl, rv, rfl⟩ := rs
      obtain ⟨t, us, rfl, hq, ru⟩ := rv
      have q' : (match intsOf xs with | some ns => Q (.int ns.sum) S | none => False) := q
      cases e : intsOf xs with
      | none => rw [e] at q'; exact q'.elim
      | some ns =>
        rw [e] at q'
        obtain rfl := of_intsOf e
        obtain rfl := Reps.ints ru
        exact ⟨t, ns, rfl, hq, k _ H (.int ns.sum) S (Go.refl w) rfl q'⟩
    | _ => exact False.elim q
  · cases d <;> exact False.elim q
/-- name = [.. for .. for ..] on one line, the name a local -/
theorem s_setLc2 (i : Nat) {y : Str} {py pos spos : Pos} {elt tg iter tg1 iter1 : Expr} {ifs ifs1 : List Expr} {scope : Scope} {own : List (Str × Nat)} (vs1 : List Nat) {ι ι1 : ID} {γ γ1 : GD} {κ κ1 : TD} {τ : ED} (hN : X.N.Nodup) (hi : I X tg iter ι) (ok : blkC X.N X.env.scope scope own = true)
    (hg : Gw X scope (own.map (·.2)) tg γ) (ht : Tw X scope ifs κ) (hi1 : ∀ (s : Shared) (H : Hp) (C : Addr) (cl : List (Str × Addr)) (fp : List Addr), I (X.blk s H scope (compEnvC scope cl C X.env) fp) tg1 iter1 ι1)
    (hg1 : Gw X scope vs1 tg1 γ1) (ht1 : Tw X scope ifs1 κ1) (he : ∀ (s : Shared) (H : Hp) (C : Addr) (cl : List (Str × Addr)) (fp : List Addr), E (X.blk s H scope (compEnvC scope cl C X.env) fp) elt τ)
    (hv : ∀ i ∈ vs1, i ∈ own.map (·.2) := by decide) (hy : X.N[i]? = some y := by rfl) (hyl : X.env.scope.names.lookup y = some .local := by rfl)
    (hsw : swapsWith (.ListComp elt [⟨tg, iter, ifs, 0⟩, ⟨tg1, iter1, ifs1, 0⟩] scope pos) (some (.Name y py)) spos.line X.env = pure true := by exact sw_true rfl rfl rfl (by decide +kernel))
    (hc : X.calm = true := by rfl) (hs : ∀ x, foldedSetIterable iter X.env x = pure x := by intro _; rfl) (hs1 : ∀ env x, foldedSetIterable iter1 env x = pure x := by intro _ _; rfl) :
    S1 X (.Assign [.Name y py] (.ListComp elt [⟨tg, iter, ifs, 0⟩, ⟨tg1, iter1, ifs1, 0⟩] scope pos) spos) (dAsg (dNew (dLc2 ι γ κ ι1 γ1 κ1 τ (own.map (·.2)) vs1)) (dName i)) := by
  obtain ⟨ti, i1, i2⟩ := hi
  obtain ⟨g, g1, g2⟩ := hg
  obtain ⟨t, t1, t2⟩ := ht
  obtain ⟨h, h1, h2⟩ := hg1
  obtain ⟨u, u1, u2⟩ := ht1
  refine ⟨_, ps_setLc2 (te := canE X.K τ) (wi1 := canI X.K ι1) hc hN hy hyl hsw i1 (blkOk_by ok) hv g1 t1 (fun s H C cl fp => (hi1 s H C cl fp).can) h1 u1 (fun s H C cl fp => (he s H C cl fp).can) hs hs1, fun σ H δ S w sl F G hn hr hb hct h => ?_⟩
  refine sim_lc2 i2 g2 t2 sim_canI h2 u2 sim_can σ H δ S w sl _ _ (fun p H' vs ds S' g h0 hp hs r' q => ?_) h
  have g' := g.own h0 hp hs r'
  exact hn _ H' _ _ g' ((sl.im (g.im w)).set i (d := .rf p) rfl) (q p hs)
end
end DL

set_option Elab.async false
set_option linter.all false
set_option maxRecDepth 100000

namespace LW
open PySem PySem.Spec L2 DL

def top (i : Nat) : Stmt := PySem.Challenge.pw_oncemail_k30_boxes_rows_and_changes.main.body.getD i (.Pass ⟨0, 0, 0, 0⟩)
abbrev s_folded : Stmt := (top 4)
abbrev s_header_lines : Stmt := (top 5)
abbrev s_lines_of : Stmt := (top 8)
abbrev s_write_letter : Stmt := (top 9)
abbrev s_size_of : Stmt := (top 10)
abbrev s_new_box : Stmt := (top 15)
abbrev s_signs_of : Stmt := (top 16)
abbrev s_record_of : Stmt := (top 17)
abbrev s_fits : Stmt := (top 18)
abbrev s_has_room : Stmt := (top 19)
abbrev s_put_in : Stmt := (top 20)
abbrev s_new_flags : Stmt := (top 21)
abbrev s_with_flags : Stmt := (top 22)
abbrev s_flagged : Stmt := (top 23)
abbrev s_taken_out : Stmt := (top 24)
abbrev s_llaw_cell : Stmt := (top 26)
abbrev s_llaw_digits : Stmt := (top 27)
abbrev s_llaw_draw : Stmt := (top 28)
abbrev s_llaw_pick : Stmt := (top 29)
abbrev s_llaw_same : Stmt := (top 30)
abbrev s_llaw_letter : Stmt := (top 31)
abbrev s_llaw_text : Stmt := (top 32)
abbrev s_llaw_put : Stmt := (top 33)
abbrev s_llaw_take : Stmt := (top 34)
abbrev s_llaw_flags : Stmt := (top 35)
abbrev s_llaw_told : Stmt := (top 36)
abbrev s_llaw_step : Stmt := (top 37)
abbrev s_law : Stmt := (top 38)
abbrev N_folded : List Str := ["line", "least", "lines", "at"]
abbrev P_folded : List Str := ["line", "least"]
theorem sc_folded : FnScope N_folded P_folded (defScope s_folded) := ⟨rfl, rfl, rfl, by decide +kernel, rfl, by decide +kernel, by decide +kernel⟩
abbrev N_header_lines : List Str := ["name", "text"]
abbrev P_header_lines : List Str := ["name", "text"]
theorem sc_header_lines : FnScope N_header_lines P_header_lines (defScope s_header_lines) := ⟨rfl, rfl, rfl, by decide +kernel, rfl, by decide +kernel, by decide +kernel⟩
abbrev N_lines_of : List Str := ["letter", "lines", "parts", "word", "part", "_", "headers", "kind", "things", "line", "name", "text"]
abbrev P_lines_of : List Str := ["letter"]
theorem sc_lines_of : FnScope N_lines_of P_lines_of (defScope s_lines_of) := ⟨rfl, rfl, rfl, by decide +kernel, rfl, by decide +kernel, by decide +kernel⟩
abbrev N_write_letter : List Str := ["letter", "line"]
abbrev P_write_letter : List Str := ["letter"]
theorem sc_write_letter : FnScope N_write_letter P_write_letter (defScope s_write_letter) := ⟨rfl, rfl, rfl, by decide +kernel, rfl, by decide +kernel, by decide +kernel⟩
abbrev N_size_of : List Str := ["letter"]
abbrev P_size_of : List Str := ["letter"]
theorem sc_size_of : FnScope N_size_of P_size_of (defScope s_size_of) := ⟨rfl, rfl, rfl, by decide +kernel, rfl, by decide +kernel, by decide +kernel⟩
abbrev N_new_box : List Str := []
abbrev P_new_box : List Str := []
theorem sc_new_box : FnScope N_new_box P_new_box (defScope s_new_box) := ⟨rfl, rfl, rfl, by decide +kernel, rfl, by decide +kernel, by decide +kernel⟩
abbrev N_signs_of : List Str := ["box", "record"]
abbrev P_signs_of : List Str := ["box"]
theorem sc_signs_of : FnScope N_signs_of P_signs_of (defScope s_signs_of) := ⟨rfl, rfl, rfl, by decide +kernel, rfl, by decide +kernel, by decide +kernel⟩
abbrev N_record_of : List Str := ["box", "uid", "record"]
abbrev P_record_of : List Str := ["box", "uid"]
theorem sc_record_of : FnScope N_record_of P_record_of (defScope s_record_of) := ⟨rfl, rfl, rfl, by decide +kernel, rfl, by decide +kernel, by decide +kernel⟩
abbrev N_fits : List Str := ["letters", "signs"]
abbrev P_fits : List Str := ["letters", "signs"]
theorem sc_fits : FnScope N_fits P_fits (defScope s_fits) := ⟨rfl, rfl, rfl, by decide +kernel, rfl, by decide +kernel, by decide +kernel⟩
abbrev N_has_room : List Str := ["box", "sizes"]
abbrev P_has_room : List Str := ["box", "sizes"]
theorem sc_has_room : FnScope N_has_room P_has_room (defScope s_has_room) := ⟨rfl, rfl, rfl, by decide +kernel, rfl, by decide +kernel, by decide +kernel⟩
abbrev N_put_in : List Str := ["box", "rows", "change", "uids", "records", "_", "coming", "floor", "kept", "gone", "uid", "row"]
abbrev P_put_in : List Str := ["box", "rows"]
theorem sc_put_in : FnScope N_put_in P_put_in (defScope s_put_in) := ⟨rfl, rfl, rfl, by decide +kernel, rfl, by decide +kernel, by decide +kernel⟩
abbrev N_new_flags : List Str := ["old", "mode", "flags", "flag"]
abbrev P_new_flags : List Str := ["old", "mode", "flags"]
theorem sc_new_flags : FnScope N_new_flags P_new_flags (defScope s_new_flags) := ⟨rfl, rfl, rfl, by decide +kernel, rfl, by decide +kernel, by decide +kernel⟩
abbrev N_with_flags : List Str := ["record", "change", "mode", "flags", "found", "_", "uid", "old", "turn", "letter"]
abbrev P_with_flags : List Str := ["record", "change", "mode", "flags"]
theorem sc_with_flags : FnScope N_with_flags P_with_flags (defScope s_with_flags) := ⟨rfl, rfl, rfl, by decide +kernel, rfl, by decide +kernel, by decide +kernel⟩
abbrev N_flagged : List Str := ["box", "uids", "mode", "flags", "wanted", "records", "_", "coming", "change", "floor", "kept", "gone", "record"]
abbrev P_flagged : List Str := ["box", "uids", "mode", "flags"]
theorem sc_flagged : FnScope N_flagged P_flagged (defScope s_flagged) := ⟨rfl, rfl, rfl, by decide +kernel, rfl, by decide +kernel, by decide +kernel⟩
abbrev N_taken_out : List Str := ["box", "uids", "change", "wanted", "left", "pairs", "forgotten", "gone", "_", "coming", "floor", "kept", "record", "uid", "when"]
abbrev P_taken_out : List Str := ["box", "uids"]
theorem sc_taken_out : FnScope N_taken_out P_taken_out (defScope s_taken_out) := ⟨rfl, rfl, rfl, by decide +kernel, rfl, by decide +kernel, by decide +kernel⟩
abbrev N_llaw_cell : List Str := ["script", "k"]
abbrev P_llaw_cell : List Str := ["script", "k"]
theorem sc_llaw_cell : FnScope N_llaw_cell P_llaw_cell (defScope s_llaw_cell) := ⟨rfl, rfl, rfl, by decide +kernel, rfl, by decide +kernel, by decide +kernel⟩
abbrev N_llaw_digits : List Str := ["script", "first", "last", "digits", "k", "cell", "turn", "seed"]
abbrev P_llaw_digits : List Str := ["script", "first", "last"]
theorem sc_llaw_digits : FnScope N_llaw_digits P_llaw_digits (defScope s_llaw_digits) := ⟨rfl, rfl, rfl, by decide +kernel, rfl, by decide +kernel, by decide +kernel⟩
abbrev N_llaw_draw : List Str := ["box", "many", "at"]
abbrev P_llaw_draw : List Str := ["box", "many"]
theorem sc_llaw_draw : FnScope N_llaw_draw P_llaw_draw (defScope s_llaw_draw) := ⟨rfl, rfl, rfl, by decide +kernel, rfl, by decide +kernel, by decide +kernel⟩
abbrev N_llaw_pick : List Str := ["box", "things"]
abbrev P_llaw_pick : List Str := ["box", "things"]
theorem sc_llaw_pick : FnScope N_llaw_pick P_llaw_pick (defScope s_llaw_pick) := ⟨rfl, rfl, rfl, by decide +kernel, rfl, by decide +kernel, by decide +kernel⟩
abbrev N_llaw_same : List Str := ["actual", "due", "k"]
abbrev P_llaw_same : List Str := ["actual", "due"]
theorem sc_llaw_same : FnScope N_llaw_same P_llaw_same (defScope s_llaw_same) := ⟨rfl, rfl, rfl, by decide +kernel, rfl, by decide +kernel, by decide +kernel⟩
abbrev N_llaw_letter : List Str := ["number", "lines"]
abbrev P_llaw_letter : List Str := ["number", "lines"]
theorem sc_llaw_letter : FnScope N_llaw_letter P_llaw_letter (defScope s_llaw_letter) := ⟨rfl, rfl, rfl, by decide +kernel, rfl, by decide +kernel, by decide +kernel⟩
abbrev N_llaw_text : List Str := ["letter", "text", "line", "name", "words"]
abbrev P_llaw_text : List Str := ["letter"]
theorem sc_llaw_text : FnScope N_llaw_text P_llaw_text (defScope s_llaw_text) := ⟨rfl, rfl, rfl, by decide +kernel, rfl, by decide +kernel, by decide +kernel⟩
abbrev N_llaw_put : List Str := ["box", "rows", "uids", "flags", "turn", "letter"]
abbrev P_llaw_put : List Str := ["box", "rows"]
theorem sc_llaw_put : FnScope N_llaw_put P_llaw_put (defScope s_llaw_put) := ⟨rfl, rfl, rfl, by decide +kernel, rfl, by decide +kernel, by decide +kernel⟩
abbrev N_llaw_take : List Str := ["box", "uids", "gone", "record", "uid", "change"]
abbrev P_llaw_take : List Str := ["box", "uids"]
theorem sc_llaw_take : FnScope N_llaw_take P_llaw_take (defScope s_llaw_take) := ⟨rfl, rfl, rfl, by decide +kernel, rfl, by decide +kernel, by decide +kernel⟩
abbrev N_llaw_flags : List Str := ["old", "mode", "flags", "flag"]
abbrev P_llaw_flags : List Str := ["old", "mode", "flags"]
theorem sc_llaw_flags : FnScope N_llaw_flags P_llaw_flags (defScope s_llaw_flags) := ⟨rfl, rfl, rfl, by decide +kernel, rfl, by decide +kernel, by decide +kernel⟩
abbrev N_llaw_told : List Str := ["box"]
abbrev P_llaw_told : List Str := ["box"]
theorem sc_llaw_told : FnScope N_llaw_told P_llaw_told (defScope s_llaw_told) := ⟨rfl, rfl, rfl, by decide +kernel, rfl, by decide +kernel, by decide +kernel⟩
abbrev N_llaw_step : List Str := ["box", "model", "thing", "turn", "kind", "uids", "mode", "flags", "after", "record", "k", "rows", "pair", "due"]
abbrev P_llaw_step : List Str := ["box", "model", "thing", "turn"]
theorem sc_llaw_step : FnScope N_llaw_step P_llaw_step (defScope s_llaw_step) := ⟨rfl, rfl, rfl, by decide +kernel, rfl, by decide +kernel, by decide +kernel⟩
abbrev N_law : List Str := ["script", "box", "model", "thing", "turn", "record", "signs", "left", "ahead", "handed"]
abbrev P_law : List Str := ["script"]
theorem sc_law : FnScope N_law P_law (defScope s_law) := ⟨rfl, rfl, rfl, by decide +kernel, rfl, by decide +kernel, by decide +kernel⟩
end LW

set_option Elab.async false
set_option linter.all false
set_option maxRecDepth 100000
namespace LW
open PySem PySem.Spec L2 DL
/-! ### what every law shares -/
def sp_llaw_cell : SpD := fun ds S Q => ∃ (ns : List Int) (k : Int), ds = [.frz (ns.map D.int), .int k] ∧ 0 ≤ k ∧ ∀ i, Q (.int i) S
def Dig (gs : List Int) : Prop := (∀ g ∈ gs, 0 ≤ g ∧ g < 1000) ∧ gs.length ≤ 100000
def sp_llaw_digits : SpD := fun ds S Q => ∃ (ns : List Int), ds = [.frz (ns.map D.int), .int 0, .int 63] ∧ ∀ gs p, Dig gs → S p = none → Q (.rf p) (su S p (.lst (gs.map D.int)))
/-- the box of draws stands at b -/
def Box (S : Sh) (b : Addr) : Prop := ∃ (dg : Addr) (gs : List Int) (at' : Int), S b = some (.lst [.rf dg, .int at']) ∧ S dg = some (.lst (gs.map D.int)) ∧ Dig gs ∧ 0 ≤ at' ∧ dg ≠ b
/-- draws alone: nothing else has changed -/
def Bx (b : Addr) (S S' : Sh) : Prop := Box S' b ∧ (∀ p, p ≠ b → S' p = S p) ∧ ∃ (dg : Addr) (a a' : Int), S b = some (.lst [.rf dg, .int a]) ∧ S' b = some (.lst [.rf dg, .int a'])
def sp_llaw_draw : SpD := fun ds S Q => ∃ (b : Addr) (m : Int), ds = [.rf b, .int m] ∧ 0 < m ∧ Box S b ∧ ∀ r S', 0 ≤ r → r < m → Bx b S S' → Q (.int r) S'
theorem Bx.trans {b : Addr} {S S1 S2 : Sh} (a : Bx b S S1) (c : Bx b S1 S2) : Bx b S S2 := by
  obtain ⟨_, a2, dg, x, y, e1, e2⟩ := a
  obtain ⟨c1, c2, dg', x', y', f1, f2⟩ := c
  refine ⟨c1, fun p h => (c2 p h).trans (a2 p h), dg, x, y', e1, ?_⟩
  rw [e2] at f1
  cases f1
  exact f2
/-! strict equality -/
mutual
def deq : D → D → Bool
  | .non, .non => true
  | .bl a, .bl b => a == b
  | .int a, .int b => a == b
  | .str a, .str b => a == b
  | .tup a, .tup b => deqs a b
  | _, _ => false
def deqs : List D → List D → Bool
  | [], [] => true
  | x :: xs, y :: ys => deq x y && deqs xs ys
  | _, _ => false
end
/-! plain data -/
mutual
def pln : D → Bool
  | .non => true | .bl _ => true | .int _ => true | .str _ => true | .tup xs => plns xs | _ => false
def plns : List D → Bool
  | [] => true
  | x :: xs => pln x && plns xs
end
mutual
def dep : D → Nat
  | .tup xs => deps xs + 1
  | _ => 0
def deps : List D → Nat
  | [] => 0
  | x :: xs => max (dep x) (deps xs)
end
/-! no tuple is longer than what may be walked -/
mutual
def szd : D → Bool
  | .tup xs => decide (xs.length < 2 ^ 62) && szds xs
  | _ => true
def szds : List D → Bool
  | [] => true
  | x :: xs => szd x && szds xs
end
def sp_same (n : Nat) : SpD := fun ds S Q => ∃ a d, ds = [a, d] ∧ pln a = true ∧ pln d = true ∧ szd d = true ∧ dep d < n ∧ Q (.bl (deq a d)) S
def sp_llaw_pick : SpD := fun ds S Q => ∃ (b p : Addr) (xs : List D), ds = [.rf b, .rf p] ∧ p ≠ b ∧ xs ≠ [] ∧ xs.length ≤ 900 ∧ Box S b ∧ S p = some (.lst xs) ∧ ∀ x S', x ∈ xs → Bx b S S' → Q x S'
/-! ### boxes -/
def cBox : List Nat := [98, 111, 120]
def cKept : List Nat := [107, 101, 112, 116]
def cAdd : List Nat := [97, 100, 100]
def cDrop : List Nat := [100, 114, 111, 112]
def cSet : List Nat := [115, 101, 116]
def cSubj : List Nat := [83, 117, 98, 106, 101, 99, 116]
def cWord : List Nat := [119, 111, 114, 100, 32]
def letD (n : Int) (ln : Nat) : D := .tup [.str [108, 101, 116, 116, 101, 114], .tup [.tup [.str cSubj, .str ([115] ++ decs n)]], .tup [.str [108, 105, 110, 101, 115], .tup (List.replicate ln (.str (cWord ++ decs n)))]]
/-- the letter's own text -/
def txtL (n : Int) (ln : Nat) : List Nat := cSubj ++ [58, 32] ++ ([115] ++ decs n) ++ [10] ++ [10] ++ (List.replicate ln (cWord ++ decs n ++ [10])).flatten
structure Rc where
  uid : Int
  ch : Int
  fl : List (List Nat)
  tn : Int
  n : Int
  ln : Nat
deriving DecidableEq
structure Rw where
  fl : List (List Nat)
  tn : Int
  n : Int
  ln : Nat
def recD (r : Rc) : D := .tup [.str [107, 101, 112, 116], .int r.uid, .int r.ch, .tup (r.fl.map D.str), .int r.tn, letD r.n r.ln]
def rowD (w : Rw) : D := .tup [.tup (w.fl.map D.str), .int w.tn, letD w.n w.ln]
def boxD (nx ch fl : Int) (rs : List Rc) (gone : List (Int × Int)) : D := .tup [.str [98, 111, 120], .int nx, .int ch, .int fl, .tup (rs.map recD), .tup (gone.map pD)]
def mkR (nx ch : Int) (w : Rw) : Rc := ⟨nx, ch, w.fl, w.tn, w.n, w.ln⟩
/-- the records of rows that are put -/
def putR (nx ch : Int) : List Rw → List Rc
  | [] => []
  | w :: ws => mkR nx ch w :: putR (nx + 1) ch ws
def uidsP (nx : Int) (k : Nat) : List Int := (List.range k).map fun i : Nat => nx + i
/-- the one sorted list -/
def srt (ps : List (Int × Int)) : List (Int × Int) := ps.mergeSort fun p q => decide (lexle p q)
abbrev swp (p : Int × Int) : Int × Int := (p.2, p.1)
def prs (ch : Int) (gone : List (Int × Int)) (xs : List Int) : List (Int × Int) := srt (gone.map swp ++ xs.map fun u => (ch + 1, u))
def flN (fl : Int) (ps : List (Int × Int)) : Int := if 200 < ps.length then (match ps[ps.length - 201]? with | some p => p.1 | none => fl) else fl
def goneN (ps : List (Int × Int)) : List (Int × Int) := srt ((ps.drop (ps.length - 200)).map swp)
def out (us : List Rc) (xs : List Int) : List Rc := us.filter fun u => !decide (u.uid ∈ xs)
def nf (old : List (List Nat)) (mode : List Nat) (fl : List (List Nat)) : List (List Nat) := if mode = cAdd then usort ltCps (old ++ fl) else if mode = cDrop then old.filter fun f => !decide (f ∈ fl) else fl
def wf (ch : Int) (mode : List Nat) (fl : List (List Nat)) (r : Rc) : Rc := if nf r.fl mode fl = r.fl then r else { r with ch := ch, fl := nf r.fl mode fl }
def flg (ch : Int) (mode : List Nat) (fl : List (List Nat)) (xs : List Int) (rs : List Rc) : List Rc := rs.map fun r => if r.uid ∈ xs then wf ch mode fl r else r
def Mod (S : Sh) (b p3 p4 : Addr) (nx ch fl : Int) (us : List Rc) (gone : List (Int × Int)) : Prop :=
  S b = some (.lst [.int nx, .int ch, .int fl, .rf p3, .rf p4]) ∧ S p3 = some (.lst (us.map recD)) ∧ S p4 = some (.lst (gone.map pD)) ∧ b ≠ p3 ∧ b ≠ p4 ∧ p3 ≠ p4
def But (b p3 p4 : Addr) (S S' : Sh) : Prop := ∀ q, q ≠ b → q ≠ p3 → q ≠ p4 → (∃ o, S q = some o) → S' q = S q
def Abc (fl : List (List Nat)) : Prop := ∀ f ∈ fl, f ∈ [[97], [98], [99]]
structure Rok (r : Rc) : Prop where
  n0 : 0 ≤ r.n
  n1 : r.n < 100
  ln : r.ln ≤ 2
  abc : Abc r.fl
  fl : r.fl.length ≤ 1000
structure Wok (r : Rw) : Prop where
  n0 : 0 ≤ r.n
  n1 : r.n < 100
  ln : r.ln ≤ 2
  abc : Abc r.fl
  fl : r.fl.length ≤ 2
def Mode (m : List Nat) : Prop := m = cAdd ∨ m = cDrop ∨ m = cSet
def sp_llaw_letter : SpD := fun ds S Q => ∃ (n : Int) (ln : Nat), 0 ≤ n ∧ n < 100 ∧ ln ≤ 2 ∧ ds = [.int n, .int ln] ∧ Q (letD n ln) S
def sp_llaw_text : SpD := fun ds S Q => ∃ (n : Int) (ln : Nat), 0 ≤ n ∧ n < 100 ∧ ln ≤ 2 ∧ ds = [letD n ln] ∧ Q (.str (txtL n ln)) S
def sp_folded : SpD := fun ds S Q => ∃ (s : List Nat) (k : Int), s.length ≤ 78 ∧ ds = [.str s, .int k] ∧ ∀ p, S p = none → Q (.rf p) (su S p (.lst [.str s]))
def sp_header_lines : SpD := fun ds S Q => ∃ (a t : List Nat), t ≠ [] ∧ a.length + t.length ≤ 70 ∧ ds = [.str a, .str t] ∧ ∀ p, S p = none → Q (.rf p) (su S p (.lst [.str (a ++ [58, 32] ++ t)]))
def linesL (n : Int) (ln : Nat) : List (List Nat) := (cSubj ++ [58, 32] ++ ([115] ++ decs n)) :: [] :: List.replicate ln (cWord ++ decs n)
def sp_lines_of : SpD := fun ds S Q => ∃ (n : Int) (ln : Nat), 0 ≤ n ∧ n < 100 ∧ ln ≤ 2 ∧ ds = [letD n ln] ∧ ∀ p, S p = none → Q (.rf p) (su S p (.lst ((linesL n ln).map D.str)))
def sp_write_letter : SpD := fun ds S Q => ∃ (n : Int) (ln : Nat), 0 ≤ n ∧ n < 100 ∧ ln ≤ 2 ∧ ds = [letD n ln] ∧ Q (.str (txtL n ln)) S
def sp_size_of : SpD := fun ds S Q => ∃ (n : Int) (ln : Nat), 0 ≤ n ∧ n < 100 ∧ ln ≤ 2 ∧ ds = [letD n ln] ∧ Q (.int (txtL n ln).length) S
def sgn (rs : List Rc) : Int := (rs.map fun r => ((txtL r.n r.ln).length : Int)).sum
def sp_signs_of : SpD := fun ds S Q => ∃ (nx ch fl : Int) (rs : List Rc) (gone : List (Int × Int)), ds = [boxD nx ch fl rs gone] ∧ (∀ r ∈ rs, Rok r) ∧ rs.length ≤ 300 ∧ Q (.int (sgn rs)) S
def sp_record_of : SpD := fun ds S Q => ∃ (nx ch fl u : Int) (rs : List Rc) (gone : List (Int × Int)), ds = [boxD nx ch fl rs gone, .int u] ∧ Q (match rs.find? (fun r => decide (r.uid = u)) with | some r => recD r | none => .non) S
def sp_fits : SpD := fun ds S Q => ∃ (a c : Int), ds = [.int a, .int c] ∧ Q (.bl (decide (a ≤ 1000) && decide (c ≤ 1000000))) S
def sp_has_room : SpD := fun ds S Q => ∃ (nx ch fl : Int) (rs : List Rc) (gone : List (Int × Int)) (ns : List Int), ds = [boxD nx ch fl rs gone, .tup (ns.map D.int)] ∧ (∀ r ∈ rs, Rok r) ∧ rs.length ≤ 300 ∧ ns.length ≤ 2000 ∧
  Q (.bl (decide ((rs.length : Int) + (ns.length : Int) ≤ 1000) && decide (sgn rs + ns.sum ≤ 1000000))) S
def sp_new_box : SpD := fun ds S Q => ds = [] ∧ Q (boxD 1 0 0 [] []) S
def sp_put_in : SpD := fun ds S Q => ∃ (nx ch fl : Int) (rs : List Rc) (gone : List (Int × Int)) (ws : List Rw), ds = [boxD nx ch fl rs gone, .tup (ws.map rowD)] ∧ rs.length ≤ 300 ∧ ws.length ≤ 300 ∧ -100000 ≤ nx ∧ nx ≤ 100000 ∧
  Q (.tup [boxD (nx + ws.length) (ch + 1) fl (rs ++ putR nx (ch + 1) ws) gone, .tup ((uidsP nx ws.length).map D.int)]) S
def sp_new_flags : SpD := fun ds S Q => ∃ (old : List (List Nat)) (m : List Nat) (fl : List (List Nat)), ds = [.tup (old.map D.str), .str m, .tup (fl.map D.str)] ∧ old.length ≤ 1000 ∧ fl.length ≤ 1000 ∧ Q (.tup ((nf old m fl).map D.str)) S
def sp_llaw_flags : SpD := sp_new_flags
def sp_with_flags : SpD := fun ds S Q => ∃ (r : Rc) (c : Int) (m : List Nat) (fl : List (List Nat)), ds = [recD r, .int c, .str m, .tup (fl.map D.str)] ∧ Rok r ∧ Abc fl ∧ fl.length ≤ 1000 ∧ Q (recD (wf c m fl r)) S
def sp_flagged : SpD := fun ds S Q => ∃ (nx ch fl : Int) (rs : List Rc) (gone : List (Int × Int)) (xs : List Int) (m : List Nat) (fs : List (List Nat)), ds = [boxD nx ch fl rs gone, .tup (xs.map D.int), .str m, .tup (fs.map D.str)] ∧ (∀ r ∈ rs, Rok r) ∧ rs.length ≤ 300 ∧ xs.length ≤ 300 ∧ Abc fs ∧ fs.length ≤ 1000 ∧
  Q (if flg (ch + 1) m fs xs rs = rs then boxD nx ch fl rs gone else boxD nx (ch + 1) fl (flg (ch + 1) m fs xs rs) gone) S
def sp_taken_out : SpD := fun ds S Q => ∃ (nx ch fl : Int) (us : List Rc) (xs : List Int) (gone : List (Int × Int)), ds = [boxD nx ch fl us gone, .tup (xs.map D.int)] ∧ xs ≠ [] ∧ us.length ≤ 300 ∧ xs.length ≤ 300 ∧ gone.length ≤ 300 ∧ fl ≤ ch ∧ (∀ p ∈ gone, fl ≤ p.2) ∧
  Q (boxD nx (ch + 1) (flN fl (prs ch gone xs)) (out us xs) (goneN (prs ch gone xs))) S
def sp_llaw_put : SpD := fun ds S Q => ∃ (b p3 p4 : Addr) (nx ch fl : Int) (us : List Rc) (gone : List (Int × Int)) (ws : List Rw), ds = [.rf b, .tup (ws.map rowD)] ∧ us.length ≤ 300 ∧ ws.length ≤ 300 ∧ Mod S b p3 p4 nx ch fl us gone ∧
  ∀ S', Mod S' b p3 p4 (nx + ws.length) (ch + 1) fl (us ++ putR nx (ch + 1) ws) gone → But b p3 p4 S S' → Q (.tup ((uidsP nx ws.length).map D.int)) S'
def sp_llaw_take : SpD := fun ds S Q => ∃ (b p3 p4 pu : Addr) (nx ch fl : Int) (us : List Rc) (xs : List Int) (gone : List (Int × Int)), ds = [.rf b, .rf pu] ∧ Mod S b p3 p4 nx ch fl us gone ∧ S pu = some (.lst (xs.map D.int)) ∧ pu ≠ b ∧ pu ≠ p3 ∧ pu ≠ p4 ∧ us.length ≤ 300 ∧ xs.length ≤ 300 ∧ gone.length ≤ 300 ∧
  ∀ S', Mod S' b p3 p4 nx (ch + 1) (flN fl (prs ch gone xs)) (out us xs) (goneN (prs ch gone xs)) → But b p3 p4 S S' → Q .non S'
def sp_llaw_told : SpD := fun ds S Q => ∃ (b p3 p4 : Addr) (nx ch fl : Int) (us : List Rc) (gone : List (Int × Int)), ds = [.rf b] ∧ Mod S b p3 p4 nx ch fl us gone ∧ Q (boxD nx ch fl us gone) S
/-- what holds of a box behind k steps -/
structure BInv (k : Nat) (nx ch fl : Int) (us : List Rc) (gone : List (Int × Int)) : Prop where
  len : us.length ≤ 3 * k
  gl : gone.length ≤ 200
  nx0 : 1 ≤ nx
  nx1 : nx ≤ 1 + 3 * k
  uid : ∀ r ∈ us, 1 ≤ r.uid ∧ r.uid < nx
  nd : us.Pairwise fun r q => r.uid < q.uid
  ok : ∀ r ∈ us, Rok r ∧ r.fl.length ≤ 2 * k + 2
  flc : fl ≤ ch
  go : ∀ p ∈ gone, fl ≤ p.2 ∧ p.2 ≤ ch
structure Apart (b pd pm p3 p4 : Addr) : Prop where
  bm : b ≠ pm
  b3 : b ≠ p3
  b4 : b ≠ p4
  dm : pd ≠ pm
  d3 : pd ≠ p3
  d4 : pd ≠ p4
/-- the draws' box, its digits apart from the model -/
def BoxA (S : Sh) (b pm p3 p4 : Addr) : Prop := ∃ (dg : Addr) (gs : List Int) (at' : Int), S b = some (.lst [.rf dg, .int at']) ∧ S dg = some (.lst (gs.map D.int)) ∧ Dig gs ∧ 0 ≤ at' ∧ dg ≠ b ∧ Apart b dg pm p3 p4
def sp_llaw_step : SpD := fun ds S Q => ∃ (b pm p3 p4 : Addr) (nx ch fl : Int) (us : List Rc) (gone : List (Int × Int)) (k : Nat), ds = [.rf b, .rf pm, boxD nx ch fl us gone, .int k] ∧ k < 8 ∧ BoxA S b pm p3 p4 ∧ Mod S pm p3 p4 nx ch fl us gone ∧ BInv k nx ch fl us gone ∧
  ∀ nx' ch' fl' us' gone' S', BoxA S' b pm p3 p4 → Mod S' pm p3 p4 nx' ch' fl' us' gone' → BInv (k + 1) nx' ch' fl' us' gone' → Q (boxD nx' ch' fl' us' gone') S'
end LW

set_option Elab.async false
set_option linter.all false
set_option maxRecDepth 100000

namespace LW
open PySem PySem.Spec L2 DL

abbrev rd_folded : SD :=
  (dSeq (dAsg (dNew (dLst dNil)) (dName 2))
  (dSeq (dWhile (dAnd (dTB (dOp dGt (dCB dLen (dCons (dVar 0) dNil)) (dC (.int 78)))) dNevT) (dSeq dNever
  (dSeq dNever
  dNever)))
  (dSeq (dDrop (dBM "list" dApp (dVar 2) (dCons (dVar 0) dNil)))
  (dRet (dVar 2)))))
abbrev rd_header_lines : SD :=
  (dSeq (dIfS (dTB (dOp dEq (dVar 1) (dC (.str [])))) (dRet (dNew (dLst (dCons (dJsE [(dFmt (dVar 0)), (dC (.str [58]))]) dNil)))) dNext)
  (dRet (dCall 2 sp_folded [] (dCons (dJsE [(dFmt (dVar 0)), (dC (.str [58, 32])), (dFmt (dVar 1))]) (dCons (dOp dAdd (dCB dLen (dCons (dVar 0) dNil)) (dC (.int 2))) dNil)))))
abbrev rd_lines_of : SD :=
  (dSeq (dAsg (dVar 0) (dGtup (dGcons (dName 5) (dGcons (dName 6) (dGcons (dGtup (dGcons (dName 7) (dGcons (dName 8) dGnil)) 2) dGnil))) 3))
  (dSeq (dAsg (dNew (dLc2 (dIt (dVar 6)) (dGtup (dGcons (dName 10) (dGcons (dName 11) dGnil)) 2) dYes (dIt (dCall 2 sp_header_lines [] (dCons (dVar 10) (dCons (dVar 11) dNil)))) (dName 9) dYes (dVar 9) [10, 11, 9] [9])) (dName 1))
  (dSeq (dIfS (dTB (dOp dEq (dVar 7) (dC (.str [108, 105, 110, 101, 115])))) (dRet (dNew (dLst (dStarL (dAsL (dVar 1)) (dCons (dC (.str [])) (dStar (dVar 8) dNil)))))) dNext)
  (dSeq dNever
  (dSeq dNever
  (dSeq dNever
  (dSeq dNever
  (dSeq dNever
  (dSeq dNever
  dNever)))))))))
abbrev rd_write_letter : SD :=
  (dRet (dBM "str" dJoin (dC (.str [])) (dLc (dIt (dCall 1 sp_lines_of [] (dCons (dVar 0) dNil))) (dName 1) dYes (dOp dAdd (dVar 1) (dC (.str [10]))) [1])))
abbrev rd_size_of : SD :=
  (dRet (dCB dLen (dCons (dCall 1 sp_write_letter [] (dCons (dVar 0) dNil)) dNil)))
abbrev rd_new_box : SD :=
  (dRet (dTup (dCons (dC (.str [98, 111, 120])) (dCons (dC (.int 1)) (dCons (dC (.int 0)) (dCons (dC (.int 0)) (dCons (dTup dNil) (dCons (dTup dNil) dNil))))))))
abbrev rd_signs_of : SD :=
  (dRet (dOnL dSumL (dLc (dIt (dOp dIx (dVar 0) (dC (.int 4)))) (dName 1) dYes (dCall 1 sp_size_of [] (dCons (dOp dIx (dVar 1) (dC (.int 5))) dNil)) [1])))
abbrev rd_record_of : SD :=
  (dSeq (dFor (dIt (dOp dIx (dVar 0) (dC (.int 4)))) (dName 2) (dIfS (dTB (dOp dEq (dOp dIx (dVar 2) (dC (.int 1))) (dVar 1))) (dRet (dVar 2)) dNext))
  (dRet (dC .non)))
abbrev rd_fits : SD :=
  (dRet (dAndV (dOp dLe (dVar 0) (dC (.int 1000))) (dOp dLe (dVar 1) (dC (.int 1000000)))))
abbrev rd_has_room : SD :=
  (dRet (dCall 2 sp_fits [] (dCons (dOp dAdd (dCB dLen (dCons (dOp dIx (dVar 0) (dC (.int 4))) dNil)) (dCB dLen (dCons (dVar 1) dNil))) (dCons (dOp dAdd (dCall 1 sp_signs_of [] (dCons (dVar 0) dNil)) (dCB dSumT (dCons (dVar 1) dNil))) dNil))))
abbrev rd_put_in : SD :=
  (dSeq (dAsg (dVar 0) (dGtup (dGcons (dName 5) (dGcons (dName 6) (dGcons (dName 2) (dGcons (dName 7) (dGcons (dName 8) (dGcons (dName 9) dGnil)))))) 6))
  (dSeq (dAsg (dOp dAdd (dVar 2) (dC (.int 1))) (dName 2))
  (dSeq (dAsg (dTupRg (dVar 6) (dOp dAdd (dVar 6) (dCB dLen (dCons (dVar 1) dNil)))) (dName 3))
  (dSeq (dAsg (dNew (dLc (dZipT (dCons (dVar 3) (dCons (dVar 1) dNil))) (dGtup (dGcons (dName 10) (dGcons (dName 11) dGnil)) 2) dYes (dTup (dCons (dC (.str [107, 101, 112, 116])) (dCons (dVar 10) (dCons (dVar 2) (dStar (dVar 11) dNil))))) [10, 11])) (dName 4))
  (dRet (dTup (dCons (dTup (dCons (dC (.str [98, 111, 120])) (dCons (dOp dAdd (dVar 6) (dCB dLen (dCons (dVar 1) dNil))) (dCons (dVar 2) (dCons (dVar 7) (dCons (dOp dAdd (dVar 8) (dOnL (fun ds S Q => Q (.tup ds) S) (dAsL (dVar 4)))) (dCons (dVar 9) dNil))))))) (dCons (dVar 3) dNil))))))))
abbrev rd_new_flags (w : World) : SD :=
  (dSeq (dIfS (dTB (dOp dEq (dVar 1) (dC (.str [97, 100, 100])))) (dRet (dOnL (fun ds S Q => Q (.tup ds) S) (dSortS w (dCB (dSetT w) (dCons (dOp dAdd (dVar 0) (dVar 2)) dNil))))) dNext)
  (dSeq (dIfS (dTB (dOp dEq (dVar 1) (dC (.str [100, 114, 111, 112])))) (dRet (dOnL (fun ds S Q => Q (.tup ds) S) (dLc (dIt (dVar 0)) (dName 3) (dTB (dOp dNotIn (dVar 3) (dVar 2))) (dVar 3) [3]))) dNext)
  (dRet (dVar 2))))
abbrev rd_with_flags : SD :=
  (dSeq (dAsg (dVar 0) (dGtup (dGcons (dName 5) (dGcons (dName 6) (dGcons (dName 5) (dGcons (dName 7) (dGcons (dName 8) (dGcons (dName 9) dGnil)))))) 6))
  (dSeq (dAsg (dCall 3 sp_new_flags [] (dCons (dVar 7) (dCons (dVar 2) (dCons (dVar 3) dNil)))) (dName 4))
  (dRet (dIfE (dTB (dOp dEqT (dVar 4) (dVar 7))) (dVar 0) (dTup (dCons (dC (.str [107, 101, 112, 116])) (dCons (dVar 6) (dCons (dVar 1) (dCons (dVar 4) (dCons (dVar 8) (dCons (dVar 9) dNil)))))))))))
abbrev rd_flagged (w : World) : SD :=
  (dSeq (dAsg (dVar 0) (dGtup (dGcons (dName 6) (dGcons (dName 7) (dGcons (dName 8) (dGcons (dName 9) (dGcons (dName 10) (dGcons (dName 11) dGnil)))))) 6))
  (dSeq (dAsg (dCB (dSetT w) (dCons (dVar 1) dNil)) (dName 4))
  (dSeq (dAsg (dNew (dLc (dIt (dVar 10)) (dName 12) dYes (dIfE (dTB (dOp (dInT w false) (dOp dIx (dVar 12) (dC (.int 1))) (dVar 4))) (dCall 4 sp_with_flags [] (dCons (dVar 12) (dCons (dOp dAdd (dVar 8) (dC (.int 1))) (dCons (dVar 2) (dCons (dVar 3) dNil))))) (dVar 12)) [12])) (dName 5))
  (dSeq (dIfS (dTB (dOp dEqT (dOnL (fun ds S Q => Q (.tup ds) S) (dAsL (dVar 5))) (dVar 10))) (dRet (dVar 0)) dNext)
  (dRet (dTup (dCons (dC (.str [98, 111, 120])) (dCons (dVar 7) (dCons (dOp dAdd (dVar 8) (dC (.int 1))) (dCons (dVar 9) (dCons (dOnL (fun ds S Q => Q (.tup ds) S) (dAsL (dVar 5))) (dCons (dVar 11) dNil))))))))))))
abbrev rd_taken_out (w : World) : SD :=
  (dSeq (dIfS (dNot (dTru (dVar 1))) (dRet (dVar 0)) dNext)
  (dSeq (dAsg (dVar 0) (dGtup (dGcons (dName 8) (dGcons (dName 9) (dGcons (dName 2) (dGcons (dName 10) (dGcons (dName 11) (dGcons (dName 7) dGnil)))))) 6))
  (dSeq (dAsg (dOp dAdd (dVar 2) (dC (.int 1))) (dName 2))
  (dSeq (dAsg (dCB (dSetT w) (dCons (dVar 1) dNil)) (dName 3))
  (dSeq (dAsg (dOnL (fun ds S Q => Q (.tup ds) S) (dLc (dIt (dVar 11)) (dName 12) (dTB (dOp (dInT w true) (dOp dIx (dVar 12) (dC (.int 1))) (dVar 3))) (dVar 12) [12])) (dName 4))
  (dSeq (dAsg (dNew (dOnN dSortP (dCatL (dLc (dIt (dVar 7)) (dGtup (dGcons (dName 13) (dGcons (dName 14) dGnil)) 2) dYes (dTup (dCons (dVar 14) (dCons (dVar 13) dNil))) [13, 14]) (dLc (dIt (dVar 1)) (dName 13) dYes (dTup (dCons (dVar 2) (dCons (dVar 13) dNil))) [13])))) (dName 5))
  (dSeq (dAsg (dNew (dSliceE (dVar 5) dNoP (dPart (dUn dNeg (dC (.int 200)))))) (dName 6))
  (dSeq (dIfS (dTru (dVar 6)) (dAsg (dCB dMax (dCons (dVar 10) (dCons (dOp dIx (dOp dIx (dVar 6) (dUn dNeg (dC (.int 1)))) (dC (.int 0))) dNil))) (dName 10)) dNext)
  (dSeq (dAsg (dOnL (fun ds S Q => Q (.tup ds) S) (dOnN dSortP (dLc (dItN (dSliceE (dVar 5) (dPart (dUn dNeg (dC (.int 200)))) dNoP)) (dGtup (dGcons (dName 14) (dGcons (dName 13) dGnil)) 2) dYes (dTup (dCons (dVar 13) (dCons (dVar 14) dNil))) [14, 13]))) (dName 7))
  (dRet (dTup (dCons (dC (.str [98, 111, 120])) (dCons (dVar 9) (dCons (dVar 2) (dCons (dVar 10) (dCons (dVar 4) (dCons (dVar 7) dNil)))))))))))))))))
abbrev rd_llaw_cell : SD :=
  (dSeq (dIfS (dTB (dOp dLt (dVar 1) (dCB dLen (dCons (dVar 0) dNil)))) (dRet (dOp dIx (dVar 0) (dVar 1))) dNext)
  (dRet (dC (.int 0))))
abbrev rd_llaw_digits : SD :=
  (dSeq (dAsg (dNew (dLst dNil)) (dName 3))
  (dSeq (dFor (dRng2 (dCons (dVar 1) (dCons (dVar 2) dNil))) (dName 4) (dSeq (dIfS (dTB (dOp dGt (dCB dLen (dCons (dVar 3) dNil)) (dC (.int 1500)))) dBreak dNext)
  (dSeq (dAsg (dCall 2 sp_llaw_cell [] (dCons (dVar 0) (dCons (dVar 4) dNil))) (dName 5))
  (dSeq (dIfS (dTB (dOp dLt (dVar 5) (dC (.int 0)))) (dAsg (dOp dSub (dC (.int 1)) (dOp dMul (dC (.int 2)) (dVar 5))) (dName 5)) dNext)
  (dIfS (dTB (dOp dGe (dVar 5) (dOp dPow (dC (.int 10)) (dC (.int 18))))) (dFor (dRng1 (dCons (dC (.int 60)) dNil)) (dName 6) (dIfS (dTB (dOp dGt (dVar 5) (dC (.int 0)))) (dSeq (dDrop (dBM "list" dApp (dVar 3) (dCons (dOp dMod (dCB dInt (dCons (dVar 5) dNil)) (dC (.int 1000))) dNil)))
  (dAsg (dOp dFdiv (dVar 5) (dC (.int 1000))) (dName 5))) dNext)) (dSeq (dAsg (dOp dMod (dCB dInt (dCons (dOp dAdd (dOp dAdd (dOp dMul (dVar 5) (dC (.int 48271))) (dOp dMul (dVar 4) (dC (.int 69621)))) (dC (.int 11))) dNil)) (dC (.int 2147483647))) (dName 7))
  (dFor (dRng1 (dCons (dC (.int 12)) dNil)) (dName 6) (dSeq (dAsg (dOp dMod (dCB dInt (dCons (dOp dAdd (dOp dAdd (dOp dMul (dVar 7) (dC (.int 16807))) (dOp dMul (dC (.int 7)) (dVar 6))) (dC (.int 1))) dNil)) (dC (.int 2147483647))) (dName 7))
  (dDrop (dBM "list" dApp (dVar 3) (dCons (dOp dMod (dCB dInt (dCons (dOp dFdiv (dVar 7) (dC (.int 997))) dNil)) (dC (.int 1000))) dNil)))))))))))
  (dRet (dVar 3))))
abbrev rd_llaw_draw : SD :=
  (dSeq (dAsg (dOp dIx (dVar 0) (dC (.int 1))) (dName 2))
  (dSeq (dAsg (dOp dAdd (dVar 2) (dC (.int 1))) (dSetL (dVar 0) (dC (.int 1))))
  (dSeq (dIfS (dTB (dOp dLt (dVar 2) (dCB dLen (dCons (dOp dIx (dVar 0) (dC (.int 0))) dNil)))) (dRet (dOp dMod (dCB dInt (dCons (dOp dIx (dOp dIx (dVar 0) (dC (.int 0))) (dVar 2)) dNil)) (dVar 1))) dNext)
  (dRet (dOp dMod (dCB dInt (dCons (dOp dMul (dVar 2) (dC (.int 7))) dNil)) (dVar 1))))))
abbrev rd_llaw_pick : SD :=
  (dRet (dOp dIx (dVar 1) (dOp dMod (dCB dInt (dCons (dCall 2 sp_llaw_draw [] (dCons (dVar 0) (dCons (dC (.int 900)) dNil))) dNil)) (dCB dLen (dCons (dVar 1) dNil)))))
abbrev rd_llaw_same (n : Nat) : SD :=
  (dSeq (dIfS (dTru (dIsi .tTuple (dVar 1))) (dSeq (dIfS (dOr (dNot (dTru (dIsi .tTuple (dVar 0)))) (dTB (dOp dNe (dCB dLen (dCons (dVar 0) dNil)) (dCB dLen (dCons (dVar 1) dNil))))) (dRet (dC (.bl false))) dNext)
  (dSeq (dFor (dRng1 (dCons (dCB dLen (dCons (dVar 1) dNil)) dNil)) (dName 2) (dIfS (dNot (dTru (dCall 2 (sp_same n) [] (dCons (dOp dIx (dVar 0) (dVar 2)) (dCons (dOp dIx (dVar 1) (dVar 2)) dNil))))) (dRet (dC (.bl false))) dNext))
  (dRet (dC (.bl true))))) dNext)
  (dSeq (dIfS (dTB (dOp dIsN (dVar 1) (dC .non))) (dRet (dOp dIsN (dVar 0) (dC .non))) dNext)
  (dSeq (dIfS (dTB (dOp dIsB (dVar 1) (dC (.bl true)))) (dRet (dOp dIsB (dVar 0) (dC (.bl true)))) dNext)
  (dSeq (dIfS (dTB (dOp dIsB (dVar 1) (dC (.bl false)))) (dRet (dOp dIsB (dVar 0) (dC (.bl false)))) dNext)
  (dSeq (dIfS (dTru (dIsi .tInt (dVar 1))) (dRet (dAndV (dIsi .tInt (dVar 0)) (dAndV (dNotV (dIsi .tBool (dVar 0))) (dOp dEq (dVar 0) (dVar 1))))) dNext)
  (dRet (dAndV (dIsi .tStr (dVar 0)) (dOp dEq (dVar 0) (dVar 1)))))))))
abbrev rd_llaw_letter : SD :=
  (dRet (dTup (dCons (dC (.str [108, 101, 116, 116, 101, 114])) (dCons (dTup (dCons (dTup (dCons (dC (.str [83, 117, 98, 106, 101, 99, 116])) (dCons (dOp dAdd (dC (.str [115])) (dCB dStr (dCons (dVar 0) dNil))) dNil))) dNil)) (dCons (dTup (dCons (dC (.str [108, 105, 110, 101, 115])) (dCons (dOp dMulT (dTup (dCons (dOp dAdd (dC (.str [119, 111, 114, 100, 32])) (dCB dStr (dCons (dVar 0) dNil))) dNil)) (dVar 1)) dNil))) dNil)))))
abbrev rd_llaw_text : SD :=
  (dSeq (dAsg (dC (.str [])) (dName 1))
  (dSeq (dFor (dIt (dOp dIx (dVar 0) (dC (.int 1)))) (dGtup (dGcons (dName 3) (dGcons (dName 4) dGnil)) 2) (dAsg (dOp dAdd (dOp dAdd (dOp dAdd (dOp dAdd (dVar 1) (dVar 3)) (dC (.str [58, 32]))) (dVar 4)) (dC (.str [10]))) (dName 1)))
  (dSeq (dAsg (dOp dAdd (dVar 1) (dC (.str [10]))) (dName 1))
  (dSeq (dFor (dIt (dOp dIx (dOp dIx (dVar 0) (dC (.int 2))) (dC (.int 1)))) (dName 2) (dAsg (dOp dAdd (dOp dAdd (dVar 1) (dVar 2)) (dC (.str [10]))) (dName 1)))
  (dRet (dVar 1))))))
abbrev rd_llaw_put : SD :=
  (dSeq (dAsg (dOp dAdd (dOp dIx (dVar 0) (dC (.int 1))) (dC (.int 1))) (dSetL (dVar 0) (dC (.int 1))))
  (dSeq (dAsg (dNew (dLst dNil)) (dName 2))
  (dSeq (dFor (dIt (dVar 1)) (dGtup (dGcons (dName 3) (dGcons (dName 4) (dGcons (dName 5) dGnil))) 3) (dSeq (dDrop (dBM "list" dApp (dOp dIx (dVar 0) (dC (.int 3))) (dCons (dTup (dCons (dC (.str [107, 101, 112, 116])) (dCons (dOp dIx (dVar 0) (dC (.int 0))) (dCons (dOp dIx (dVar 0) (dC (.int 1))) (dCons (dVar 3) (dCons (dVar 4) (dCons (dVar 5) dNil))))))) dNil)))
  (dSeq (dDrop (dBM "list" dApp (dVar 2) (dCons (dOp dIx (dVar 0) (dC (.int 0))) dNil)))
  (dAsg (dOp dAdd (dOp dIx (dVar 0) (dC (.int 0))) (dC (.int 1))) (dSetL (dVar 0) (dC (.int 0)))))))
  (dRet (dOnL (fun ds S Q => Q (.tup ds) S) (dAsL (dVar 2)))))))
abbrev rd_llaw_take : SD :=
  (dSeq (dAsg (dOp dAdd (dOp dIx (dVar 0) (dC (.int 1))) (dC (.int 1))) (dSetL (dVar 0) (dC (.int 1))))
  (dSeq (dAsg (dNew (dLc (dIt (dOp dIx (dVar 0) (dC (.int 3)))) (dName 3) (dTB (dOp dNotIn (dOp dIx (dVar 3) (dC (.int 1))) (dVar 1))) (dVar 3) [3])) (dSetAll (dOp dIx (dVar 0) (dC (.int 3)))))
  (dSeq (dAsg (dNew (dOnN dSortP (dCatL (dLc (dIt (dOp dIx (dVar 0) (dC (.int 4)))) (dGtup (dGcons (dName 4) (dGcons (dName 5) dGnil)) 2) dYes (dTup (dCons (dVar 5) (dCons (dVar 4) dNil))) [4, 5]) (dLc (dIt (dVar 1)) (dName 4) dYes (dTup (dCons (dOp dIx (dVar 0) (dC (.int 1))) (dCons (dVar 4) dNil))) [4])))) (dName 2))
  (dSeq (dIfS (dTB (dOp dGt (dCB dLen (dCons (dVar 2) dNil)) (dC (.int 200)))) (dSeq (dAsg (dOp dIx (dOp dIx (dVar 2) (dOp dSub (dCB dLen (dCons (dVar 2) dNil)) (dC (.int 201)))) (dC (.int 0))) (dSetL (dVar 0) (dC (.int 2))))
  (dAsg (dNew (dSliceE (dVar 2) (dPart (dOp dSub (dCB dLen (dCons (dVar 2) dNil)) (dC (.int 200)))) dNoP)) (dName 2))) dNext)
  (dAsg (dNew (dOnN dSortP (dLc (dIt (dVar 2)) (dGtup (dGcons (dName 5) (dGcons (dName 4) dGnil)) 2) dYes (dTup (dCons (dVar 4) (dCons (dVar 5) dNil))) [5, 4]))) (dSetAll (dOp dIx (dVar 0) (dC (.int 4)))))))))
abbrev rd_llaw_flags (w : World) : SD :=
  (dSeq (dIfS (dTB (dOp dEq (dVar 1) (dC (.str [97, 100, 100])))) (dRet (dOnL (fun ds S Q => Q (.tup ds) S) (dSortS w (dCB (dSetT w) (dCons (dOp dAdd (dVar 0) (dVar 2)) dNil))))) dNext)
  (dSeq (dIfS (dTB (dOp dEq (dVar 1) (dC (.str [100, 114, 111, 112])))) (dRet (dOnL (fun ds S Q => Q (.tup ds) S) (dLc (dIt (dVar 0)) (dName 3) (dTB (dOp dNotIn (dVar 3) (dVar 2))) (dVar 3) [3]))) dNext)
  (dRet (dVar 2))))
abbrev rd_llaw_told : SD :=
  (dRet (dTup (dCons (dC (.str [98, 111, 120])) (dCons (dOp dIx (dVar 0) (dC (.int 0))) (dCons (dOp dIx (dVar 0) (dC (.int 1))) (dCons (dOp dIx (dVar 0) (dC (.int 2))) (dCons (dOnL (fun ds S Q => Q (.tup ds) S) (dAsL (dOp dIx (dVar 0) (dC (.int 3))))) (dCons (dOnL (fun ds S Q => Q (.tup ds) S) (dAsL (dOp dIx (dVar 0) (dC (.int 4))))) dNil))))))))
abbrev rd_llaw_step : SD :=
  (dSeq (dAsg (dCall 2 sp_llaw_draw [] (dCons (dVar 0) (dCons (dC (.int 4)) dNil))) (dName 4))
  (dSeq (dAsg (dOnL (fun ds S Q => Q (.tup ds) S) (dLc (dIt (dOp dIx (dVar 1) (dC (.int 3)))) (dName 9) (dTB (dOp dEq (dCall 2 sp_llaw_draw [] (dCons (dVar 0) (dCons (dC (.int 2)) dNil))) (dC (.int 0)))) (dOp dIx (dVar 9) (dC (.int 1))) [9])) (dName 5))
  (dSeq (dIfS (dOr (dTB (dOp dLt (dVar 4) (dC (.int 2)))) (dTB (dOp dEqT (dVar 5) (dTup dNil)))) (dSeq (dAsg (dOnL (fun ds S Q => Q (.tup ds) S) (dLc (dRng1 (dCons (dOp dAdd (dC (.int 1)) (dCall 2 sp_llaw_draw [] (dCons (dVar 0) (dCons (dC (.int 3)) dNil)))) dNil)) (dName 10) dYes (dTup (dCons (dSlice (dTup (dCons (dC (.str [97])) (dCons (dC (.str [98])) dNil))) dNoP (dPart (dCall 2 sp_llaw_draw [] (dCons (dVar 0) (dCons (dC (.int 3)) dNil))))) (dCons (dOp dAdd (dVar 3) (dVar 10)) (dCons (dCall 2 sp_llaw_letter [] (dCons (dOp dAdd (dOp dMul (dVar 3) (dC (.int 9))) (dVar 10)) (dCons (dCall 2 sp_llaw_draw [] (dCons (dVar 0) (dCons (dC (.int 3)) dNil))) dNil))) dNil)))) [10])) (dName 11))
  (dSeq (dAsg (dCall 2 sp_put_in [] (dCons (dVar 2) (dCons (dVar 11) dNil))) (dName 12))
  (dSeq (dAsg (dCall 2 sp_llaw_put [] (dCons (dVar 1) (dCons (dVar 11) dNil))) (dName 13))
  (dSeq (dIfS (dOr (dNot (dTru (dIsi .tTuple (dVar 12)))) (dOr (dTB (dOp dNe (dCB dLen (dCons (dVar 12) dNil)) (dC (.int 2)))) (dNot (dTru (dCall 2 (sp_same 8) [] (dCons (dOp dIx (dVar 12) (dC (.int 1))) (dCons (dVar 13) dNil))))))) (dRet (dC .non)) dNext)
  (dRet (dOp dIx (dVar 12) (dC (.int 0)))))))) dNext)
  (dSeq (dIfS (dTB (dOp dEq (dVar 4) (dC (.int 2)))) (dSeq (dDrop (dCall 2 sp_llaw_take [] (dCons (dVar 1) (dCons (dNew (dListT (dVar 5))) dNil))))
  (dRet (dCall 2 sp_taken_out [] (dCons (dVar 2) (dCons (dVar 5) dNil))))) dNext)
  (dSeq (dAsg (dCall 2 sp_llaw_pick [] (dCons (dVar 0) (dCons (dNew (dLst (dCons (dC (.str [97, 100, 100])) (dCons (dC (.str [100, 114, 111, 112])) (dCons (dC (.str [115, 101, 116])) dNil))))) dNil))) (dName 6))
  (dSeq (dAsg (dSlice (dTup (dCons (dC (.str [98])) (dCons (dC (.str [99])) dNil))) (dPart (dCall 2 sp_llaw_draw [] (dCons (dVar 0) (dCons (dC (.int 2)) dNil)))) dNoP) (dName 7))
  (dSeq (dAsg (dNew (dLst dNil)) (dName 8))
  (dSeq (dFor (dIt (dOp dIx (dVar 1) (dC (.int 3)))) (dName 9) (dDrop (dBM "list" dApp (dVar 8) (dCons (dIfE (dTB (dOp dIn (dOp dIx (dVar 9) (dC (.int 1))) (dVar 5))) (dCall 3 sp_llaw_flags [] (dCons (dOp dIx (dVar 9) (dC (.int 3))) (dCons (dVar 6) (dCons (dVar 7) dNil)))) (dOp dIx (dVar 9) (dC (.int 3)))) dNil))))
  (dSeq (dIfS (dTB (dEqO false (dVar 8) (dLc (dIt (dOp dIx (dVar 1) (dC (.int 3)))) (dName 9) dYes (dOp dIx (dVar 9) (dC (.int 3))) [9]))) (dRet (dCall 4 sp_flagged [] (dCons (dVar 2) (dCons (dVar 5) (dCons (dVar 6) (dCons (dVar 7) dNil)))))) dNext)
  (dSeq (dAsg (dOp dAdd (dOp dIx (dVar 1) (dC (.int 1))) (dC (.int 1))) (dSetL (dVar 1) (dC (.int 1))))
  (dSeq (dFor (dRng1 (dCons (dCB dLen (dCons (dVar 8) dNil)) dNil)) (dName 10) (dSeq (dAsg (dOp dIx (dOp dIx (dVar 1) (dC (.int 3))) (dVar 10)) (dName 9))
  (dIfS (dTB (dOp dNeT (dOp dIx (dVar 8) (dVar 10)) (dOp dIx (dVar 9) (dC (.int 3))))) (dAsg (dTup (dCons (dC (.str [107, 101, 112, 116])) (dCons (dOp dIx (dVar 9) (dC (.int 1))) (dCons (dOp dIx (dVar 1) (dC (.int 1))) (dCons (dOp dIx (dVar 8) (dVar 10)) (dCons (dOp dIx (dVar 9) (dC (.int 4))) (dCons (dOp dIx (dVar 9) (dC (.int 5))) dNil))))))) (dSetL (dOp dIx (dVar 1) (dC (.int 3))) (dVar 10))) dNext)))
  (dRet (dCall 4 sp_flagged [] (dCons (dVar 2) (dCons (dVar 5) (dCons (dVar 6) (dCons (dVar 7) dNil)))))))))))))))))
abbrev rd_law : SD :=
  (dSeq (dAsg (dNew (dLst (dCons (dCall 3 sp_llaw_digits [] (dCons (dVar 0) (dCons (dC (.int 0)) (dCons (dC (.int 63)) dNil)))) (dCons (dC (.int 0)) dNil)))) (dName 1))
  (dSeq (dAsg (dNew (dLst (dCons (dC (.int 1)) (dCons (dC (.int 0)) (dCons (dC (.int 0)) (dCons (dNew (dLst dNil)) (dCons (dNew (dLst dNil)) dNil))))))) (dName 2))
  (dSeq (dAsg (dCall 0 sp_new_box [] dNil) (dName 3))
  (dSeq (dFor (dRng1 (dCons (dOp dAdd (dC (.int 1)) (dCall 2 sp_llaw_draw [] (dCons (dVar 1) (dCons (dC (.int 8)) dNil)))) dNil)) (dName 4) (dSeq (dAsg (dCall 1 sp_llaw_told [] (dCons (dVar 2) dNil)) (dName 8))
  (dSeq (dAsg (dVar 3) (dName 9))
  (dSeq (dAsg (dCall 4 sp_llaw_step [] (dCons (dVar 1) (dCons (dVar 2) (dCons (dVar 3) (dCons (dVar 4) dNil))))) (dName 3))
  (dIfS (dOr (dTB (dOp dIsN (dVar 3) (dC .non))) (dOr (dNot (dTru (dCall 2 (sp_same 8) [] (dCons (dVar 3) (dCons (dCall 1 sp_llaw_told [] (dCons (dVar 2) dNil)) dNil))))) (dNot (dTru (dCall 2 (sp_same 8) [] (dCons (dVar 9) (dCons (dVar 8) dNil))))))) (dRet (dC (.bl false))) dNext)))))
  (dSeq (dFor (dIt (dOp dIx (dVar 2) (dC (.int 3)))) (dName 5) (dIfS (dNot (dTru (dCall 2 (sp_same 8) [] (dCons (dCall 2 sp_record_of [] (dCons (dVar 3) (dCons (dOp dIx (dVar 5) (dC (.int 1))) dNil))) (dCons (dVar 5) dNil))))) (dRet (dC (.bl false))) dNext))
  (dSeq (dIfS (dTB (dOp dNotN (dCall 2 sp_record_of [] (dCons (dVar 3) (dCons (dOp dAdd (dOp dIx (dVar 2) (dC (.int 0))) (dCall 2 sp_llaw_draw [] (dCons (dVar 1) (dCons (dC (.int 3)) dNil)))) dNil))) (dC .non))) (dRet (dC (.bl false))) dNext)
  (dSeq (dAsg (dOnL dSumL (dLc (dIt (dOp dIx (dVar 2) (dC (.int 3)))) (dName 5) dYes (dCB dLen (dCons (dCall 1 sp_llaw_text [] (dCons (dOp dIx (dVar 5) (dC (.int 5))) dNil)) dNil)) [5])) (dName 6))
  (dSeq (dIfS (dNot (dTru (dCall 2 (sp_same 8) [] (dCons (dCall 1 sp_signs_of [] (dCons (dVar 3) dNil)) (dCons (dVar 6) dNil))))) (dRet (dC (.bl false))) dNext)
  (dSeq (dAsg (dOp dSub (dC (.int 1000)) (dCB dLen (dCons (dOp dIx (dVar 2) (dC (.int 3))) dNil))) (dName 7))
  (dSeq (dIfS (dOr (dTB (dOp dNotB (dCall 2 sp_has_room [] (dCons (dVar 3) (dCons (dOp dMulT (dTup (dCons (dC (.int 1)) dNil)) (dVar 7)) dNil))) (dC (.bl true)))) (dTB (dOp dNotB (dCall 2 sp_has_room [] (dCons (dVar 3) (dCons (dOp dMulT (dTup (dCons (dC (.int 1)) dNil)) (dOp dAdd (dVar 7) (dC (.int 1)))) dNil))) (dC (.bl false))))) (dRet (dC (.bl false))) dNext)
  (dRet (dAndV (dOp dIsB (dCall 2 sp_has_room [] (dCons (dVar 3) (dCons (dTup (dCons (dOp dSub (dC (.int 1000000)) (dVar 6)) dNil)) dNil))) (dC (.bl true))) (dOp dIsB (dCall 2 sp_has_room [] (dCons (dVar 3) (dCons (dTup (dCons (dOp dSub (dC (.int 999999)) (dVar 6)) (dCons (dC (.int 2)) dNil))) dNil))) (dC (.bl false)))))))))))))))
end LW

set_option Elab.async false
set_option linter.all false
set_option maxRecDepth 100000
set_option maxHeartbeats 4000000

namespace LW
open PySem PySem.Spec L2 DL PyProof.Rows

structure Tx (K : PySem.W.Frag) (mg : Str → Option Value) (F : Nat → Addr) (D : Nat → FuncData) (C : Nat → Addr) : Prop where
  d_folded : Def K mg "folded" s_folded P_folded (F 0) (D 0)
  d_header_lines : Def K mg "header_lines" s_header_lines P_header_lines (F 1) (D 1)
  d_lines_of : Def K mg "lines_of" s_lines_of P_lines_of (F 2) (D 2)
  d_write_letter : Def K mg "write_letter" s_write_letter P_write_letter (F 3) (D 3)
  d_size_of : Def K mg "size_of" s_size_of P_size_of (F 4) (D 4)
  d_new_box : Def K mg "new_box" s_new_box P_new_box (F 5) (D 5)
  d_signs_of : Def K mg "signs_of" s_signs_of P_signs_of (F 6) (D 6)
  d_record_of : Def K mg "record_of" s_record_of P_record_of (F 7) (D 7)
  d_fits : Def K mg "fits" s_fits P_fits (F 8) (D 8)
  d_has_room : Def K mg "has_room" s_has_room P_has_room (F 9) (D 9)
  d_put_in : Def K mg "put_in" s_put_in P_put_in (F 10) (D 10)
  d_new_flags : Def K mg "new_flags" s_new_flags P_new_flags (F 11) (D 11)
  d_with_flags : Def K mg "with_flags" s_with_flags P_with_flags (F 12) (D 12)
  d_flagged : Def K mg "flagged" s_flagged P_flagged (F 13) (D 13)
  d_taken_out : Def K mg "taken_out" s_taken_out P_taken_out (F 14) (D 14)
  d_llaw_cell : Def K mg "_law_cell" s_llaw_cell P_llaw_cell (F 15) (D 15)
  d_llaw_digits : Def K mg "_law_digits" s_llaw_digits P_llaw_digits (F 16) (D 16)
  d_llaw_draw : Def K mg "_law_draw" s_llaw_draw P_llaw_draw (F 17) (D 17)
  d_llaw_pick : Def K mg "_law_pick" s_llaw_pick P_llaw_pick (F 18) (D 18)
  d_llaw_same : Def K mg "_law_same" s_llaw_same P_llaw_same (F 19) (D 19)
  d_llaw_letter : Def K mg "_law_letter" s_llaw_letter P_llaw_letter (F 20) (D 20)
  d_llaw_text : Def K mg "_law_text" s_llaw_text P_llaw_text (F 21) (D 21)
  d_llaw_put : Def K mg "_law_put" s_llaw_put P_llaw_put (F 22) (D 22)
  d_llaw_take : Def K mg "_law_take" s_llaw_take P_llaw_take (F 23) (D 23)
  d_llaw_flags : Def K mg "_law_flags" s_llaw_flags P_llaw_flags (F 24) (D 24)
  d_llaw_told : Def K mg "_law_told" s_llaw_told P_llaw_told (F 25) (D 25)
  d_llaw_step : Def K mg "_law_step" s_llaw_step P_llaw_step (F 26) (D 26)
  d_law : Def K mg "law" s_law P_law (F 27) (D 27)
  b_bool : mg "bool" = none
  b_int : mg "int" = none
  b_isinstance : mg "isinstance" = none
  b_len : mg "len" = none
  b_list : mg "list" = none
  b_max : mg "max" = none
  b_range : mg "range" = none
  b_set : mg "set" = none
  b_sorted : mg "sorted" = none
  b_str : mg "str" = none
  b_sum : mg "sum" = none
  b_tuple : mg "tuple" = none
  b_zip : mg "zip" = none
  c_MOST_GONE : GlobC K mg "MOST_GONE" (.int 200)
  c_MOST_LETTERS : GlobC K mg "MOST_LETTERS" (.int 1000)
  c_MOST_SIGNS : GlobC K mg "MOST_SIGNS" (.int 1000000)
  c_WIDTH : GlobC K mg "WIDTH" (.int 78)
section
variable {P : Program} {w : World} {K : PySem.W.Frag} {mg : Str → Option Value} {base : Heap} {F : Nat → Addr} {D : Nat → FuncData} {C : Nat → Addr}
theorem dv_folded (T : Tx K mg F D C) {cdv : Value} {A : Around} {outer : List Env} {s : Shared} {H : Hp} {E0 : XK}
    (hr : Room 0 (A.deeper (envOfC "folded" (defScope s_folded) s.heap.objs.size (F 0) cdv))) :
    B (cxOf CX0 P w K mg base N_folded "folded" (defScope s_folded) (F 0) cdv A outer s H E0).nox (defBody s_folded) (rd_folded) :=
  (b_cons (s_asg (e_new (n_lst a_nil)) (g_name 2 sc_folded.nd))
  (b_cons (s_while (DL.T.w (w_and (t_cmp o_gt (e_callB c_len T.b_len (a_cons (e_var 0) a_nil)) (e_glob T.c_WIDTH)) (w_and1 t_never))) (b_cons s_never
  (b_cons s_never
  (b_one s_never))))
  (b_cons (s_expr (e_bm PySem.F.plainAttrs_list PySem.F.slot_list_append PySem.F.type_list_append m_app (e_var 2) (a_cons (e_var 0) a_nil)))
  (b_one (s_ret (e_var 2))))))
theorem dv_header_lines (T : Tx K mg F D C) (G_folded : FnOk P w K mg base CX0 1 (F 0) (D 0) P_folded (lift K 2 sp_folded)) {cdv : Value} {A : Around} {outer : List Env} {s : Shared} {H : Hp} {E0 : XK}
    (hr : Room 1 (A.deeper (envOfC "header_lines" (defScope s_header_lines) s.heap.objs.size (F 1) cdv))) :
    B (cxOf CX0 P w K mg base N_header_lines "header_lines" (defScope s_header_lines) (F 1) cdv A outer s H E0).nox (defBody s_header_lines) (rd_header_lines) :=
  (b_cons (s_if (t_cmp o_eq (e_var 1) (e_str [])) (b_one (s_ret (e_new (n_lst (a_cons (e_js (.cons (e_fmt (e_var 0)) (.cons (e_str [58]) .nil))) a_nil))))) b_nil)
  (b_one (s_ret (e_call G_folded (hr.mono (by first | decide | omega)) T.d_folded.mg T.d_folded.fn.kp T.d_folded.bi (a_cons (e_js (.cons (e_fmt (e_var 0)) (.cons (e_str [58, 32]) (.cons (e_fmt (e_var 1)) .nil)))) (a_cons (e_op o_add (e_callB c_len T.b_len (a_cons (e_var 0) a_nil)) e_int) a_nil))))))
theorem dv_lines_of (T : Tx K mg F D C) (G_header_lines : FnOk P w K mg base CX0 2 (F 1) (D 1) P_header_lines (lift K 2 sp_header_lines)) {cdv : Value} {A : Around} {outer : List Env} {s : Shared} {H : Hp} {E0 : XK}
    (hr : Room 2 (A.deeper (envOfC "lines_of" (defScope s_lines_of) s.heap.objs.size (F 2) cdv))) :
    B (cxOf CX0 P w K mg base N_lines_of "lines_of" (defScope s_lines_of) (F 2) cdv A outer s H E0).nox (defBody s_lines_of) (rd_lines_of) :=
  (b_cons (s_asg (e_var 0) (g_tup (gs_cons (g_name 5 sc_lines_of.nd) (gs_cons (g_name 6 sc_lines_of.nd) (gs_cons (g_tup (gs_cons (g_name 7 sc_lines_of.nd) (gs_cons (g_name 8 sc_lines_of.nd) gs_nil))) gs_nil)))))
  (b_cons (s_setLc2 1 (own := [("name", 10), ("text", 11), ("line", 9)]) [9] sc_lines_of.nd (i_of (e_var 6)) (by first | (show blkC N_lines_of (defScope s_lines_of) _ _ = true; decide +kernel) | rfl) (gw_tup (gws_cons 10 sc_lines_of.nd (gws_cons 11 sc_lines_of.nd gws_nil))) tw_nil (fun _ _ _ _ _ => (i_of (e_call G_header_lines (hr.mono (by first | decide | omega)) T.d_header_lines.mg T.d_header_lines.fn.kp T.d_header_lines.bi (a_cons (e_var 10) (a_cons (e_var 11) a_nil))))) (gw_name 9 sc_lines_of.nd) tw_nil fun _ _ _ _ _ => (e_var 9))
  (b_cons (s_if (t_cmp o_eq (e_var 7) (e_str [108, 105, 110, 101, 115])) (b_one (s_ret (e_new (n_lst (a_starL (l_of (e_var 1)) (a_cons (e_str []) (a_star (e_var 8) a_nil))))))) b_nil)
  (b_cons s_never
  (b_cons s_never
  (b_cons s_never
  (b_cons s_never
  (b_cons s_never
  (b_cons s_never
  (b_one s_never))))))))))
theorem dv_write_letter (T : Tx K mg F D C) (G_lines_of : FnOk P w K mg base CX0 3 (F 2) (D 2) P_lines_of (lift K 1 sp_lines_of)) {cdv : Value} {A : Around} {outer : List Env} {s : Shared} {H : Hp} {E0 : XK}
    (hr : Room 3 (A.deeper (envOfC "write_letter" (defScope s_write_letter) s.heap.objs.size (F 3) cdv))) :
    B (cxOf CX0 P w K mg base N_write_letter "write_letter" (defScope s_write_letter) (F 3) cdv A outer s H E0).nox (defBody s_write_letter) (rd_write_letter) :=
  (b_one (s_ret (e_bmL PySem.F.plainAttrs_str PySem.F.slot_str_join PySem.F.type_str_join m_join (e_str []) (l_new (n_lc (own := [("line", 1)]) sc_write_letter.nd (i_of (e_call G_lines_of (hr.mono (by first | decide | omega)) T.d_lines_of.mg T.d_lines_of.fn.kp T.d_lines_of.bi (a_cons (e_var 0) a_nil))) (by first | (show blkC N_write_letter (defScope s_write_letter) _ _ = true; decide +kernel) | rfl) (gw_name 1 sc_write_letter.nd) tw_nil fun _ _ _ _ _ => (e_op o_add (e_var 1) (e_str [10])))))))
theorem dv_size_of (T : Tx K mg F D C) (G_write_letter : FnOk P w K mg base CX0 4 (F 3) (D 3) P_write_letter (lift K 1 sp_write_letter)) {cdv : Value} {A : Around} {outer : List Env} {s : Shared} {H : Hp} {E0 : XK}
    (hr : Room 4 (A.deeper (envOfC "size_of" (defScope s_size_of) s.heap.objs.size (F 4) cdv))) :
    B (cxOf CX0 P w K mg base N_size_of "size_of" (defScope s_size_of) (F 4) cdv A outer s H E0).nox (defBody s_size_of) (rd_size_of) :=
  (b_one (s_ret (e_callB c_len T.b_len (a_cons (e_call G_write_letter (hr.mono (by first | decide | omega)) T.d_write_letter.mg T.d_write_letter.fn.kp T.d_write_letter.bi (a_cons (e_var 0) a_nil)) a_nil))))
theorem dv_new_box (T : Tx K mg F D C) {cdv : Value} {A : Around} {outer : List Env} {s : Shared} {H : Hp} {E0 : XK}
    (hr : Room 0 (A.deeper (envOfC "new_box" (defScope s_new_box) s.heap.objs.size (F 5) cdv))) :
    B (cxOf CX0 P w K mg base N_new_box "new_box" (defScope s_new_box) (F 5) cdv A outer s H E0).nox (defBody s_new_box) (rd_new_box) :=
  (b_one (s_ret (e_tup (a_cons (e_str [98, 111, 120]) (a_cons e_int (a_cons e_int (a_cons e_int (a_cons (e_tup a_nil) (a_cons (e_tup a_nil) a_nil)))))))))
theorem dv_signs_of (T : Tx K mg F D C) (G_size_of : FnOk P w K mg base CX0 5 (F 4) (D 4) P_size_of (lift K 1 sp_size_of)) {cdv : Value} {A : Around} {outer : List Env} {s : Shared} {H : Hp} {E0 : XK}
    (hr : Room 5 (A.deeper (envOfC "signs_of" (defScope s_signs_of) s.heap.objs.size (F 6) cdv))) :
    B (cxOf CX0 P w K mg base N_signs_of "signs_of" (defScope s_signs_of) (F 6) cdv A outer s H E0).nox (defBody s_signs_of) (rd_signs_of) :=
  (b_one (s_ret (e_callBL cl_sum T.b_sum (l_new (n_lc (own := [("record", 1)]) sc_signs_of.nd (i_of (e_ix (e_var 0) e_int)) (by first | (show blkC N_signs_of (defScope s_signs_of) _ _ = true; decide +kernel) | rfl) (gw_name 1 sc_signs_of.nd) tw_nil fun _ _ _ _ _ => (e_call G_size_of (hr.mono (by first | decide | omega)) T.d_size_of.mg T.d_size_of.fn.kp T.d_size_of.bi (a_cons (e_ix (e_var 1) e_int) a_nil)))))))
theorem dv_record_of (T : Tx K mg F D C) {cdv : Value} {A : Around} {outer : List Env} {s : Shared} {H : Hp} {E0 : XK}
    (hr : Room 0 (A.deeper (envOfC "record_of" (defScope s_record_of) s.heap.objs.size (F 7) cdv))) :
    B (cxOf CX0 P w K mg base N_record_of "record_of" (defScope s_record_of) (F 7) cdv A outer s H E0).nox (defBody s_record_of) (rd_record_of) :=
  (b_cons (s_for (i_of (e_ix (e_var 0) e_int)) (g_name 2 sc_record_of.nd) (b_one (s_if (t_cmp o_eq (e_ix (e_var 2) e_int) (e_var 1)) (b_one (s_ret (e_var 2))) b_nil)))
  (b_one (s_ret e_non)))
theorem dv_fits (T : Tx K mg F D C) {cdv : Value} {A : Around} {outer : List Env} {s : Shared} {H : Hp} {E0 : XK}
    (hr : Room 0 (A.deeper (envOfC "fits" (defScope s_fits) s.heap.objs.size (F 8) cdv))) :
    B (cxOf CX0 P w K mg base N_fits "fits" (defScope s_fits) (F 8) cdv A outer s H E0).nox (defBody s_fits) (rd_fits) :=
  (b_one (s_ret (e_and (e_cmp o_le (e_var 0) (e_glob T.c_MOST_LETTERS)) (e_one (e_cmp o_le (e_var 1) (e_glob T.c_MOST_SIGNS))))))
theorem dv_has_room (T : Tx K mg F D C) (G_signs_of : FnOk P w K mg base CX0 6 (F 6) (D 6) P_signs_of (lift K 1 sp_signs_of)) (G_fits : FnOk P w K mg base CX0 1 (F 8) (D 8) P_fits (lift K 2 sp_fits)) {cdv : Value} {A : Around} {outer : List Env} {s : Shared} {H : Hp} {E0 : XK}
    (hr : Room 6 (A.deeper (envOfC "has_room" (defScope s_has_room) s.heap.objs.size (F 9) cdv))) :
    B (cxOf CX0 P w K mg base N_has_room "has_room" (defScope s_has_room) (F 9) cdv A outer s H E0).nox (defBody s_has_room) (rd_has_room) :=
  (b_one (s_ret (e_call G_fits (hr.mono (by first | decide | omega)) T.d_fits.mg T.d_fits.fn.kp T.d_fits.bi (a_cons (e_op o_add (e_callB c_len T.b_len (a_cons (e_ix (e_var 0) e_int) a_nil)) (e_callB c_len T.b_len (a_cons (e_var 1) a_nil))) (a_cons (e_op o_add (e_call G_signs_of (hr.mono (by first | decide | omega)) T.d_signs_of.mg T.d_signs_of.fn.kp T.d_signs_of.bi (a_cons (e_var 0) a_nil)) (e_callB c_sumT T.b_sum (a_cons (e_var 1) a_nil))) a_nil)))))
theorem dv_put_in (T : Tx K mg F D C) {cdv : Value} {A : Around} {outer : List Env} {s : Shared} {H : Hp} {E0 : XK}
    (hr : Room 0 (A.deeper (envOfC "put_in" (defScope s_put_in) s.heap.objs.size (F 10) cdv))) :
    B (cxOf CX0 P w K mg base N_put_in "put_in" (defScope s_put_in) (F 10) cdv A outer s H E0).nox (defBody s_put_in) (rd_put_in) :=
  (b_cons (s_asg (e_var 0) (g_tup (gs_cons (g_name 5 sc_put_in.nd) (gs_cons (g_name 6 sc_put_in.nd) (gs_cons (g_name 2 sc_put_in.nd) (gs_cons (g_name 7 sc_put_in.nd) (gs_cons (g_name 8 sc_put_in.nd) (gs_cons (g_name 9 sc_put_in.nd) gs_nil))))))))
  (b_cons (s_asg (e_op o_add (e_var 2) e_int) (g_name 2 sc_put_in.nd))
  (b_cons (s_asg (e_tupRg T.b_tuple T.b_range (e_var 6) (e_op o_add (e_var 6) (e_callB c_len T.b_len (a_cons (e_var 1) a_nil)))) (g_name 3 sc_put_in.nd))
  (b_cons (s_setLc 4 (own := [("uid", 10), ("row", 11)]) sc_put_in.nd (i_zipT T.b_zip (a_cons (e_var 3) (a_cons (e_var 1) a_nil))) (by first | (show blkC N_put_in (defScope s_put_in) _ _ = true; decide +kernel) | rfl) (gw_tup (gws_cons 10 sc_put_in.nd (gws_cons 11 sc_put_in.nd gws_nil))) tw_nil fun _ _ _ _ _ => (e_tup (a_cons (e_str [107, 101, 112, 116]) (a_cons (e_var 10) (a_cons (e_var 2) (a_star (e_var 11) a_nil))))))
  (b_one (s_ret (e_tup (a_cons (e_tup (a_cons (e_str [98, 111, 120]) (a_cons (e_op o_add (e_var 6) (e_callB c_len T.b_len (a_cons (e_var 1) a_nil))) (a_cons (e_var 2) (a_cons (e_var 7) (a_cons (e_op o_add (e_var 8) (e_callTyL cl_tuple T.b_tuple (l_of (e_var 4)))) (a_cons (e_var 9) a_nil))))))) (a_cons (e_var 3) a_nil)))))))))
theorem dv_new_flags (T : Tx K mg F D C) {cdv : Value} {A : Around} {outer : List Env} {s : Shared} {H : Hp} {E0 : XK}
    (hr : Room 0 (A.deeper (envOfC "new_flags" (defScope s_new_flags) s.heap.objs.size (F 11) cdv))) :
    B (cxOf CX0 P w K mg base N_new_flags "new_flags" (defScope s_new_flags) (F 11) cdv A outer s H E0).nox (defBody s_new_flags) (rd_new_flags w) :=
  (b_cons (s_if (t_cmp o_eq (e_var 1) (e_str [97, 100, 100])) (b_one (s_ret (e_callTyL cl_tuple T.b_tuple (l_new (n_sortS T.b_sorted (e_callTy c_setT T.b_set (a_cons (e_op o_add (e_var 0) (e_var 2)) a_nil))))))) b_nil)
  (b_cons (s_if (t_cmp o_eq (e_var 1) (e_str [100, 114, 111, 112])) (b_one (s_ret (e_callTyL cl_tuple T.b_tuple (l_new (n_lc (own := [("flag", 3)]) sc_new_flags.nd (i_of (e_var 0)) (by first | (show blkC N_new_flags (defScope s_new_flags) _ _ = true; decide +kernel) | rfl) (gw_name 3 sc_new_flags.nd) (tw_one fun _ _ _ _ _ => (t_cmp o_notIn (e_var 3) (e_var 2))) fun _ _ _ _ _ => (e_var 3)))))) b_nil)
  (b_one (s_ret (e_var 2)))))
theorem dv_with_flags (T : Tx K mg F D C) (G_new_flags : FnOk P w K mg base CX0 1 (F 11) (D 11) P_new_flags (lift K 3 sp_new_flags)) {cdv : Value} {A : Around} {outer : List Env} {s : Shared} {H : Hp} {E0 : XK}
    (hr : Room 1 (A.deeper (envOfC "with_flags" (defScope s_with_flags) s.heap.objs.size (F 12) cdv))) :
    B (cxOf CX0 P w K mg base N_with_flags "with_flags" (defScope s_with_flags) (F 12) cdv A outer s H E0).nox (defBody s_with_flags) (rd_with_flags) :=
  (b_cons (s_asg (e_var 0) (g_tup (gs_cons (g_name 5 sc_with_flags.nd) (gs_cons (g_name 6 sc_with_flags.nd) (gs_cons (g_name 5 sc_with_flags.nd) (gs_cons (g_name 7 sc_with_flags.nd) (gs_cons (g_name 8 sc_with_flags.nd) (gs_cons (g_name 9 sc_with_flags.nd) gs_nil))))))))
  (b_cons (s_asg (e_call G_new_flags (hr.mono (by first | decide | omega)) T.d_new_flags.mg T.d_new_flags.fn.kp T.d_new_flags.bi (a_cons (e_var 7) (a_cons (e_var 2) (a_cons (e_var 3) a_nil)))) (g_name 4 sc_with_flags.nd))
  (b_one (s_ret (e_if (t_cmp (o_eqT (hu hr)) (e_var 4) (e_var 7)) (e_var 0) (e_tup (a_cons (e_str [107, 101, 112, 116]) (a_cons (e_var 6) (a_cons (e_var 1) (a_cons (e_var 4) (a_cons (e_var 8) (a_cons (e_var 9) a_nil))))))))))))
theorem dv_flagged (T : Tx K mg F D C) (G_with_flags : FnOk P w K mg base CX0 2 (F 12) (D 12) P_with_flags (lift K 4 sp_with_flags)) {cdv : Value} {A : Around} {outer : List Env} {s : Shared} {H : Hp} {E0 : XK}
    (hr : Room 2 (A.deeper (envOfC "flagged" (defScope s_flagged) s.heap.objs.size (F 13) cdv))) :
    B (cxOf CX0 P w K mg base N_flagged "flagged" (defScope s_flagged) (F 13) cdv A outer s H E0).nox (defBody s_flagged) (rd_flagged w) :=
  (b_cons (s_asg (e_var 0) (g_tup (gs_cons (g_name 6 sc_flagged.nd) (gs_cons (g_name 7 sc_flagged.nd) (gs_cons (g_name 8 sc_flagged.nd) (gs_cons (g_name 9 sc_flagged.nd) (gs_cons (g_name 10 sc_flagged.nd) (gs_cons (g_name 11 sc_flagged.nd) gs_nil))))))))
  (b_cons (s_asg (e_callTy c_setT T.b_set (a_cons (e_var 1) a_nil)) (g_name 4 sc_flagged.nd))
  (b_cons (s_setLc 5 (own := [("record", 12)]) sc_flagged.nd (i_of (e_var 10)) (by first | (show blkC N_flagged (defScope s_flagged) _ _ = true; decide +kernel) | rfl) (gw_name 12 sc_flagged.nd) tw_nil fun _ _ _ _ _ => (e_if (t_cmp o_inT (e_ix (e_var 12) e_int) (e_var 4)) (e_call G_with_flags (hr.mono (by first | decide | omega)) T.d_with_flags.mg T.d_with_flags.fn.kp T.d_with_flags.bi (a_cons (e_var 12) (a_cons (e_op o_add (e_var 8) e_int) (a_cons (e_var 2) (a_cons (e_var 3) a_nil))))) (e_var 12)))
  (b_cons (s_if (t_cmp (o_eqT (hu hr)) (e_callTyL cl_tuple T.b_tuple (l_of (e_var 5))) (e_var 10)) (b_one (s_ret (e_var 0))) b_nil)
  (b_one (s_ret (e_tup (a_cons (e_str [98, 111, 120]) (a_cons (e_var 7) (a_cons (e_op o_add (e_var 8) e_int) (a_cons (e_var 9) (a_cons (e_callTyL cl_tuple T.b_tuple (l_of (e_var 5))) (a_cons (e_var 11) a_nil)))))))))))))
theorem dv_taken_out (T : Tx K mg F D C) {cdv : Value} {A : Around} {outer : List Env} {s : Shared} {H : Hp} {E0 : XK}
    (hr : Room 0 (A.deeper (envOfC "taken_out" (defScope s_taken_out) s.heap.objs.size (F 14) cdv))) :
    B (cxOf CX0 P w K mg base N_taken_out "taken_out" (defScope s_taken_out) (F 14) cdv A outer s H E0).nox (defBody s_taken_out) (rd_taken_out w) :=
  (b_cons (s_if (t_not (t_tru (e_var 1))) (b_one (s_ret (e_var 0))) b_nil)
  (b_cons (s_asg (e_var 0) (g_tup (gs_cons (g_name 8 sc_taken_out.nd) (gs_cons (g_name 9 sc_taken_out.nd) (gs_cons (g_name 2 sc_taken_out.nd) (gs_cons (g_name 10 sc_taken_out.nd) (gs_cons (g_name 11 sc_taken_out.nd) (gs_cons (g_name 7 sc_taken_out.nd) gs_nil))))))))
  (b_cons (s_asg (e_op o_add (e_var 2) e_int) (g_name 2 sc_taken_out.nd))
  (b_cons (s_asg (e_callTy c_setT T.b_set (a_cons (e_var 1) a_nil)) (g_name 3 sc_taken_out.nd))
  (b_cons (s_asg (e_callTyL cl_tuple T.b_tuple (l_new (n_lc (own := [("record", 12)]) sc_taken_out.nd (i_of (e_var 11)) (by first | (show blkC N_taken_out (defScope s_taken_out) _ _ = true; decide +kernel) | rfl) (gw_name 12 sc_taken_out.nd) (tw_one fun _ _ _ _ _ => (t_cmp o_notInT (e_ix (e_var 12) e_int) (e_var 3))) fun _ _ _ _ _ => (e_var 12)))) (g_name 4 sc_taken_out.nd))
  (b_cons (s_asg (e_new (n_callBL cn_sortedP T.b_sorted (l_new (n_cat (n_lc (own := [("uid", 13), ("when", 14)]) sc_taken_out.nd (i_of (e_var 7)) (by first | (show blkC N_taken_out (defScope s_taken_out) _ _ = true; decide +kernel) | rfl) (gw_tup (gws_cons 13 sc_taken_out.nd (gws_cons 14 sc_taken_out.nd gws_nil))) tw_nil fun _ _ _ _ _ => (e_tup (a_cons (e_var 14) (a_cons (e_var 13) a_nil)))) (n_lc (own := [("uid", 13)]) sc_taken_out.nd (i_of (e_var 1)) (by first | (show blkC N_taken_out (defScope s_taken_out) _ _ = true; decide +kernel) | rfl) (gw_name 13 sc_taken_out.nd) tw_nil fun _ _ _ _ _ => (e_tup (a_cons (e_var 2) (a_cons (e_var 13) a_nil)))))))) (g_name 5 sc_taken_out.nd))
  (b_cons (s_asg (e_new (n_slice (e_var 5) p_none (p_some (e_neg (e_glob T.c_MOST_GONE))))) (g_name 6 sc_taken_out.nd))
  (b_cons (s_if (t_tru (e_var 6)) (b_one (s_asg (e_callB c_max T.b_max (a_cons (e_var 10) (a_cons (e_ix (e_ix (e_var 6) (e_neg e_int)) e_int) a_nil))) (g_name 10 sc_taken_out.nd))) b_nil)
  (b_cons (s_asg (e_callTyL cl_tuple T.b_tuple (l_new (n_callBL cn_sortedP T.b_sorted (l_new (n_lc (own := [("when", 14), ("uid", 13)]) sc_taken_out.nd (i_newD (n_slice (e_var 5) (p_some (e_neg (e_glob T.c_MOST_GONE))) p_none)) (by first | (show blkC N_taken_out (defScope s_taken_out) _ _ = true; decide +kernel) | rfl) (gw_tup (gws_cons 14 sc_taken_out.nd (gws_cons 13 sc_taken_out.nd gws_nil))) tw_nil fun _ _ _ _ _ => (e_tup (a_cons (e_var 13) (a_cons (e_var 14) a_nil)))))))) (g_name 7 sc_taken_out.nd))
  (b_one (s_ret (e_tup (a_cons (e_str [98, 111, 120]) (a_cons (e_var 9) (a_cons (e_var 2) (a_cons (e_var 10) (a_cons (e_var 4) (a_cons (e_var 7) a_nil))))))))))))))))))
theorem dv_llaw_cell (T : Tx K mg F D C) {cdv : Value} {A : Around} {outer : List Env} {s : Shared} {H : Hp} {E0 : XK}
    (hr : Room 0 (A.deeper (envOfC "_law_cell" (defScope s_llaw_cell) s.heap.objs.size (F 15) cdv))) :
    B (cxOf CX0 P w K mg base N_llaw_cell "_law_cell" (defScope s_llaw_cell) (F 15) cdv A outer s H E0).nox (defBody s_llaw_cell) (rd_llaw_cell) :=
  (b_cons (s_if (t_cmp o_lt (e_var 1) (e_callB c_len T.b_len (a_cons (e_var 0) a_nil))) (b_one (s_ret (e_ix (e_var 0) (e_var 1)))) b_nil)
  (b_one (s_ret e_int)))
theorem dv_llaw_digits (T : Tx K mg F D C) (G_llaw_cell : FnOk P w K mg base CX0 1 (F 15) (D 15) P_llaw_cell (lift K 2 sp_llaw_cell)) {cdv : Value} {A : Around} {outer : List Env} {s : Shared} {H : Hp} {E0 : XK}
    (hr : Room 1 (A.deeper (envOfC "_law_digits" (defScope s_llaw_digits) s.heap.objs.size (F 16) cdv))) :
    B (cxOf CX0 P w K mg base N_llaw_digits "_law_digits" (defScope s_llaw_digits) (F 16) cdv A outer s H E0).nox (defBody s_llaw_digits) (rd_llaw_digits) :=
  (b_cons (s_asg (e_new (n_lst a_nil)) (g_name 3 sc_llaw_digits.nd))
  (b_cons (s_for (i_rng2 T.b_range (a_cons (e_var 1) (a_cons (e_var 2) a_nil))) (g_name 4 sc_llaw_digits.nd) (b_cons (s_if (t_cmp o_gt (e_callB c_len T.b_len (a_cons (e_var 3) a_nil)) e_int) (b_one s_break) b_nil)
  (b_cons (s_asg (e_call G_llaw_cell (hr.mono (by first | decide | omega)) T.d_llaw_cell.mg T.d_llaw_cell.fn.kp T.d_llaw_cell.bi (a_cons (e_var 0) (a_cons (e_var 4) a_nil))) (g_name 5 sc_llaw_digits.nd))
  (b_cons (s_if (t_cmp o_lt (e_var 5) e_int) (b_one (s_asg (e_op o_sub e_int (e_op o_mul e_int (e_var 5))) (g_name 5 sc_llaw_digits.nd))) b_nil)
  (b_one (s_if (t_cmp o_ge (e_var 5) (e_op o_pow e_int e_int)) (b_one (s_for (i_rng1 T.b_range (a_cons e_int a_nil)) (g_name 6 sc_llaw_digits.nd) (b_one (s_if (t_cmp o_gt (e_var 5) e_int) (b_cons (s_expr (e_bm PySem.F.plainAttrs_list PySem.F.slot_list_append PySem.F.type_list_append m_app (e_var 3) (a_cons (e_op o_mod (e_callTy c_int T.b_int (a_cons (e_var 5) a_nil)) e_int) a_nil)))
  (b_one (s_asg (e_op o_fdiv (e_var 5) e_int) (g_name 5 sc_llaw_digits.nd)))) b_nil)))) (b_cons (s_asg (e_op o_mod (e_callTy c_int T.b_int (a_cons (e_op o_add (e_op o_add (e_op o_mul (e_var 5) e_int) (e_op o_mul (e_var 4) e_int)) e_int) a_nil)) e_int) (g_name 7 sc_llaw_digits.nd))
  (b_one (s_for (i_rng1 T.b_range (a_cons e_int a_nil)) (g_name 6 sc_llaw_digits.nd) (b_cons (s_asg (e_op o_mod (e_callTy c_int T.b_int (a_cons (e_op o_add (e_op o_add (e_op o_mul (e_var 7) e_int) (e_op o_mul e_int (e_var 6))) e_int) a_nil)) e_int) (g_name 7 sc_llaw_digits.nd))
  (b_one (s_expr (e_bm PySem.F.plainAttrs_list PySem.F.slot_list_append PySem.F.type_list_append m_app (e_var 3) (a_cons (e_op o_mod (e_callTy c_int T.b_int (a_cons (e_op o_fdiv (e_var 7) e_int) a_nil)) e_int) a_nil))))))))))))))
  (b_one (s_ret (e_var 3)))))
theorem dv_llaw_draw (T : Tx K mg F D C) {cdv : Value} {A : Around} {outer : List Env} {s : Shared} {H : Hp} {E0 : XK}
    (hr : Room 0 (A.deeper (envOfC "_law_draw" (defScope s_llaw_draw) s.heap.objs.size (F 17) cdv))) :
    B (cxOf CX0 P w K mg base N_llaw_draw "_law_draw" (defScope s_llaw_draw) (F 17) cdv A outer s H E0).nox (defBody s_llaw_draw) (rd_llaw_draw) :=
  (b_cons (s_asg (e_ix (e_var 0) e_int) (g_name 2 sc_llaw_draw.nd))
  (b_cons (s_asg (e_op o_add (e_var 2) e_int) (g_setL (e_var 0) e_int))
  (b_cons (s_if (t_cmp o_lt (e_var 2) (e_callB c_len T.b_len (a_cons (e_ix (e_var 0) e_int) a_nil))) (b_one (s_ret (e_op o_mod (e_callTy c_int T.b_int (a_cons (e_ix (e_ix (e_var 0) e_int) (e_var 2)) a_nil)) (e_var 1)))) b_nil)
  (b_one (s_ret (e_op o_mod (e_callTy c_int T.b_int (a_cons (e_op o_mul (e_var 2) e_int) a_nil)) (e_var 1)))))))
theorem dv_llaw_pick (T : Tx K mg F D C) (G_llaw_draw : FnOk P w K mg base CX0 1 (F 17) (D 17) P_llaw_draw (lift K 2 sp_llaw_draw)) {cdv : Value} {A : Around} {outer : List Env} {s : Shared} {H : Hp} {E0 : XK}
    (hr : Room 1 (A.deeper (envOfC "_law_pick" (defScope s_llaw_pick) s.heap.objs.size (F 18) cdv))) :
    B (cxOf CX0 P w K mg base N_llaw_pick "_law_pick" (defScope s_llaw_pick) (F 18) cdv A outer s H E0).nox (defBody s_llaw_pick) (rd_llaw_pick) :=
  (b_one (s_ret (e_ix (e_var 1) (e_op o_mod (e_callTy c_int T.b_int (a_cons (e_call G_llaw_draw (hr.mono (by first | decide | omega)) T.d_llaw_draw.mg T.d_llaw_draw.fn.kp T.d_llaw_draw.bi (a_cons (e_var 0) (a_cons e_int a_nil))) a_nil)) (e_callB c_len T.b_len (a_cons (e_var 1) a_nil))))))
theorem dv_llaw_same (n : Nat) (T : Tx K mg F D C) (G_llaw_same : FnOk P w K mg base CX0 n (F 19) (D 19) P_llaw_same (lift K 2 (sp_same n))) {cdv : Value} {A : Around} {outer : List Env} {s : Shared} {H : Hp} {E0 : XK}
    (hr : Room n (A.deeper (envOfC "_law_same" (defScope s_llaw_same) s.heap.objs.size (F 19) cdv))) :
    B (cxOf CX0 P w K mg base N_llaw_same "_law_same" (defScope s_llaw_same) (F 19) cdv A outer s H E0).nox (defBody s_llaw_same) (rd_llaw_same n) :=
  (b_cons (s_if (t_tru (e_isi .tTuple (e_var 1) T.b_isinstance T.b_tuple)) (b_cons (s_if (DL.T.w (w_or (t_not (t_tru (e_isi .tTuple (e_var 0) T.b_isinstance T.b_tuple))) (w_or1 (t_cmp o_ne (e_callB c_len T.b_len (a_cons (e_var 0) a_nil)) (e_callB c_len T.b_len (a_cons (e_var 1) a_nil)))))) (b_one (s_ret e_bl)) b_nil)
  (b_cons (s_for (i_rng1 T.b_range (a_cons (e_callB c_len T.b_len (a_cons (e_var 1) a_nil)) a_nil)) (g_name 2 sc_llaw_same.nd) (b_one (s_if (t_not (t_tru (e_call G_llaw_same (hr.mono (by first | decide | omega)) T.d_llaw_same.mg T.d_llaw_same.fn.kp T.d_llaw_same.bi (a_cons (e_ix (e_var 0) (e_var 2)) (a_cons (e_ix (e_var 1) (e_var 2)) a_nil))))) (b_one (s_ret e_bl)) b_nil)))
  (b_one (s_ret e_bl)))) b_nil)
  (b_cons (s_if (t_cmp o_isN (e_var 1) e_non) (b_one (s_ret (e_cmp o_isN (e_var 0) e_non))) b_nil)
  (b_cons (s_if (t_cmp o_isB (e_var 1) e_bl) (b_one (s_ret (e_cmp o_isB (e_var 0) e_bl))) b_nil)
  (b_cons (s_if (t_cmp o_isB (e_var 1) e_bl) (b_one (s_ret (e_cmp o_isB (e_var 0) e_bl))) b_nil)
  (b_cons (s_if (t_tru (e_isi .tInt (e_var 1) T.b_isinstance T.b_int)) (b_one (s_ret (e_and (e_isi .tInt (e_var 0) T.b_isinstance T.b_int) (e_and (e_not (e_isi .tBool (e_var 0) T.b_isinstance T.b_bool)) (e_one (e_cmp o_eq (e_var 0) (e_var 1))))))) b_nil)
  (b_one (s_ret (e_and (e_isi .tStr (e_var 0) T.b_isinstance T.b_str) (e_one (e_cmp o_eq (e_var 0) (e_var 1)))))))))))
theorem dv_llaw_letter (T : Tx K mg F D C) {cdv : Value} {A : Around} {outer : List Env} {s : Shared} {H : Hp} {E0 : XK}
    (hr : Room 0 (A.deeper (envOfC "_law_letter" (defScope s_llaw_letter) s.heap.objs.size (F 20) cdv))) :
    B (cxOf CX0 P w K mg base N_llaw_letter "_law_letter" (defScope s_llaw_letter) (F 20) cdv A outer s H E0).nox (defBody s_llaw_letter) (rd_llaw_letter) :=
  (b_one (s_ret (e_tup (a_cons (e_str [108, 101, 116, 116, 101, 114]) (a_cons (e_tup (a_cons (e_tup (a_cons (e_str [83, 117, 98, 106, 101, 99, 116]) (a_cons (e_op o_add (e_str [115]) (e_callTy c_str T.b_str (a_cons (e_var 0) a_nil))) a_nil))) a_nil)) (a_cons (e_tup (a_cons (e_str [108, 105, 110, 101, 115]) (a_cons (e_op o_mulT (e_tup (a_cons (e_op o_add (e_str [119, 111, 114, 100, 32]) (e_callTy c_str T.b_str (a_cons (e_var 0) a_nil))) a_nil)) (e_var 1)) a_nil))) a_nil))))))
theorem dv_llaw_text (T : Tx K mg F D C) {cdv : Value} {A : Around} {outer : List Env} {s : Shared} {H : Hp} {E0 : XK}
    (hr : Room 0 (A.deeper (envOfC "_law_text" (defScope s_llaw_text) s.heap.objs.size (F 21) cdv))) :
    B (cxOf CX0 P w K mg base N_llaw_text "_law_text" (defScope s_llaw_text) (F 21) cdv A outer s H E0).nox (defBody s_llaw_text) (rd_llaw_text) :=
  (b_cons (s_asg (e_str []) (g_name 1 sc_llaw_text.nd))
  (b_cons (s_for (i_of (e_ix (e_var 0) e_int)) (g_tup (gs_cons (g_name 3 sc_llaw_text.nd) (gs_cons (g_name 4 sc_llaw_text.nd) gs_nil))) (b_one (s_asg (e_op o_add (e_op o_add (e_op o_add (e_op o_add (e_var 1) (e_var 3)) (e_str [58, 32])) (e_var 4)) (e_str [10])) (g_name 1 sc_llaw_text.nd))))
  (b_cons (s_asg (e_op o_add (e_var 1) (e_str [10])) (g_name 1 sc_llaw_text.nd))
  (b_cons (s_for (i_of (e_ix (e_ix (e_var 0) e_int) e_int)) (g_name 2 sc_llaw_text.nd) (b_one (s_asg (e_op o_add (e_op o_add (e_var 1) (e_var 2)) (e_str [10])) (g_name 1 sc_llaw_text.nd))))
  (b_one (s_ret (e_var 1)))))))
theorem dv_llaw_put (T : Tx K mg F D C) {cdv : Value} {A : Around} {outer : List Env} {s : Shared} {H : Hp} {E0 : XK}
    (hr : Room 0 (A.deeper (envOfC "_law_put" (defScope s_llaw_put) s.heap.objs.size (F 22) cdv))) :
    B (cxOf CX0 P w K mg base N_llaw_put "_law_put" (defScope s_llaw_put) (F 22) cdv A outer s H E0).nox (defBody s_llaw_put) (rd_llaw_put) :=
  (b_cons (s_asg (e_op o_add (e_ix (e_var 0) e_int) e_int) (g_setL (e_var 0) e_int))
  (b_cons (s_asg (e_new (n_lst a_nil)) (g_name 2 sc_llaw_put.nd))
  (b_cons (s_for (i_of (e_var 1)) (g_tup (gs_cons (g_name 3 sc_llaw_put.nd) (gs_cons (g_name 4 sc_llaw_put.nd) (gs_cons (g_name 5 sc_llaw_put.nd) gs_nil)))) (b_cons (s_expr (e_bm PySem.F.plainAttrs_list PySem.F.slot_list_append PySem.F.type_list_append m_app (e_ix (e_var 0) e_int) (a_cons (e_tup (a_cons (e_str [107, 101, 112, 116]) (a_cons (e_ix (e_var 0) e_int) (a_cons (e_ix (e_var 0) e_int) (a_cons (e_var 3) (a_cons (e_var 4) (a_cons (e_var 5) a_nil))))))) a_nil)))
  (b_cons (s_expr (e_bm PySem.F.plainAttrs_list PySem.F.slot_list_append PySem.F.type_list_append m_app (e_var 2) (a_cons (e_ix (e_var 0) e_int) a_nil)))
  (b_one (s_asg (e_op o_add (e_ix (e_var 0) e_int) e_int) (g_setL (e_var 0) e_int))))))
  (b_one (s_ret (e_callTyL cl_tuple T.b_tuple (l_of (e_var 2))))))))
theorem dv_llaw_take (T : Tx K mg F D C) {cdv : Value} {A : Around} {outer : List Env} {s : Shared} {H : Hp} {E0 : XK}
    (hr : Room 0 (A.deeper (envOfC "_law_take" (defScope s_llaw_take) s.heap.objs.size (F 23) cdv))) :
    B (cxOf CX0 P w K mg base N_llaw_take "_law_take" (defScope s_llaw_take) (F 23) cdv A outer s H E0).nox (defBody s_llaw_take) (rd_llaw_take) :=
  (b_cons (s_asg (e_op o_add (e_ix (e_var 0) e_int) e_int) (g_setL (e_var 0) e_int))
  (b_cons (s_asg (e_new (n_lc (own := [("record", 3)]) sc_llaw_take.nd (i_of (e_ix (e_var 0) e_int)) (by first | (show blkC N_llaw_take (defScope s_llaw_take) _ _ = true; decide +kernel) | rfl) (gw_name 3 sc_llaw_take.nd) (tw_one fun _ _ _ _ _ => (t_cmp o_notIn (e_ix (e_var 3) e_int) (e_var 1))) fun _ _ _ _ _ => (e_var 3))) (g_all (e_ix (e_var 0) e_int)))
  (b_cons (s_asg (e_new (n_callBL cn_sortedP T.b_sorted (l_new (n_cat (n_lc (own := [("uid", 4), ("change", 5)]) sc_llaw_take.nd (i_of (e_ix (e_var 0) e_int)) (by first | (show blkC N_llaw_take (defScope s_llaw_take) _ _ = true; decide +kernel) | rfl) (gw_tup (gws_cons 4 sc_llaw_take.nd (gws_cons 5 sc_llaw_take.nd gws_nil))) tw_nil fun _ _ _ _ _ => (e_tup (a_cons (e_var 5) (a_cons (e_var 4) a_nil)))) (n_lc (own := [("uid", 4)]) sc_llaw_take.nd (i_of (e_var 1)) (by first | (show blkC N_llaw_take (defScope s_llaw_take) _ _ = true; decide +kernel) | rfl) (gw_name 4 sc_llaw_take.nd) tw_nil fun _ _ _ _ _ => (e_tup (a_cons (e_ix (e_var 0) e_int) (a_cons (e_var 4) a_nil)))))))) (g_name 2 sc_llaw_take.nd))
  (b_cons (s_if (t_cmp o_gt (e_callB c_len T.b_len (a_cons (e_var 2) a_nil)) e_int) (b_cons (s_asg (e_ix (e_ix (e_var 2) (e_op o_sub (e_callB c_len T.b_len (a_cons (e_var 2) a_nil)) e_int)) e_int) (g_setL (e_var 0) e_int))
  (b_one (s_asg (e_new (n_slice (e_var 2) (p_some (e_op o_sub (e_callB c_len T.b_len (a_cons (e_var 2) a_nil)) e_int)) p_none)) (g_name 2 sc_llaw_take.nd)))) b_nil)
  (b_one (s_asg (e_new (n_callBL cn_sortedP T.b_sorted (l_new (n_lc (own := [("change", 5), ("uid", 4)]) sc_llaw_take.nd (i_of (e_var 2)) (by first | (show blkC N_llaw_take (defScope s_llaw_take) _ _ = true; decide +kernel) | rfl) (gw_tup (gws_cons 5 sc_llaw_take.nd (gws_cons 4 sc_llaw_take.nd gws_nil))) tw_nil fun _ _ _ _ _ => (e_tup (a_cons (e_var 4) (a_cons (e_var 5) a_nil))))))) (g_all (e_ix (e_var 0) e_int))))))))
theorem dv_llaw_flags (T : Tx K mg F D C) {cdv : Value} {A : Around} {outer : List Env} {s : Shared} {H : Hp} {E0 : XK}
    (hr : Room 0 (A.deeper (envOfC "_law_flags" (defScope s_llaw_flags) s.heap.objs.size (F 24) cdv))) :
    B (cxOf CX0 P w K mg base N_llaw_flags "_law_flags" (defScope s_llaw_flags) (F 24) cdv A outer s H E0).nox (defBody s_llaw_flags) (rd_llaw_flags w) :=
  (b_cons (s_if (t_cmp o_eq (e_var 1) (e_str [97, 100, 100])) (b_one (s_ret (e_callTyL cl_tuple T.b_tuple (l_new (n_sortS T.b_sorted (e_callTy c_setT T.b_set (a_cons (e_op o_add (e_var 0) (e_var 2)) a_nil))))))) b_nil)
  (b_cons (s_if (t_cmp o_eq (e_var 1) (e_str [100, 114, 111, 112])) (b_one (s_ret (e_callTyL cl_tuple T.b_tuple (l_new (n_lc (own := [("flag", 3)]) sc_llaw_flags.nd (i_of (e_var 0)) (by first | (show blkC N_llaw_flags (defScope s_llaw_flags) _ _ = true; decide +kernel) | rfl) (gw_name 3 sc_llaw_flags.nd) (tw_one fun _ _ _ _ _ => (t_cmp o_notIn (e_var 3) (e_var 2))) fun _ _ _ _ _ => (e_var 3)))))) b_nil)
  (b_one (s_ret (e_var 2)))))
theorem dv_llaw_told (T : Tx K mg F D C) {cdv : Value} {A : Around} {outer : List Env} {s : Shared} {H : Hp} {E0 : XK}
    (hr : Room 0 (A.deeper (envOfC "_law_told" (defScope s_llaw_told) s.heap.objs.size (F 25) cdv))) :
    B (cxOf CX0 P w K mg base N_llaw_told "_law_told" (defScope s_llaw_told) (F 25) cdv A outer s H E0).nox (defBody s_llaw_told) (rd_llaw_told) :=
  (b_one (s_ret (e_tup (a_cons (e_str [98, 111, 120]) (a_cons (e_ix (e_var 0) e_int) (a_cons (e_ix (e_var 0) e_int) (a_cons (e_ix (e_var 0) e_int) (a_cons (e_callTyL cl_tuple T.b_tuple (l_of (e_ix (e_var 0) e_int))) (a_cons (e_callTyL cl_tuple T.b_tuple (l_of (e_ix (e_var 0) e_int))) a_nil)))))))))
theorem dv_llaw_step (T : Tx K mg F D C) (G_put_in : FnOk P w K mg base CX0 1 (F 10) (D 10) P_put_in (lift K 2 sp_put_in)) (G_flagged : FnOk P w K mg base CX0 3 (F 13) (D 13) P_flagged (lift K 4 sp_flagged)) (G_taken_out : FnOk P w K mg base CX0 1 (F 14) (D 14) P_taken_out (lift K 2 sp_taken_out)) (G_llaw_draw : FnOk P w K mg base CX0 1 (F 17) (D 17) P_llaw_draw (lift K 2 sp_llaw_draw)) (G_llaw_pick : FnOk P w K mg base CX0 2 (F 18) (D 18) P_llaw_pick (lift K 2 sp_llaw_pick)) (G_llaw_same : FnOk P w K mg base CX0 8 (F 19) (D 19) P_llaw_same (lift K 2 (sp_same 8))) (G_llaw_letter : FnOk P w K mg base CX0 1 (F 20) (D 20) P_llaw_letter (lift K 2 sp_llaw_letter)) (G_llaw_put : FnOk P w K mg base CX0 1 (F 22) (D 22) P_llaw_put (lift K 2 sp_llaw_put)) (G_llaw_take : FnOk P w K mg base CX0 1 (F 23) (D 23) P_llaw_take (lift K 2 sp_llaw_take)) (G_llaw_flags : FnOk P w K mg base CX0 1 (F 24) (D 24) P_llaw_flags (lift K 3 sp_llaw_flags)) {cdv : Value} {A : Around} {outer : List Env} {s : Shared} {H : Hp} {E0 : XK}
    (hr : Room 8 (A.deeper (envOfC "_law_step" (defScope s_llaw_step) s.heap.objs.size (F 26) cdv))) :
    B (cxOf CX0 P w K mg base N_llaw_step "_law_step" (defScope s_llaw_step) (F 26) cdv A outer s H E0).nox (defBody s_llaw_step) (rd_llaw_step) :=
  (b_cons (s_asg (e_call G_llaw_draw (hr.mono (by first | decide | omega)) T.d_llaw_draw.mg T.d_llaw_draw.fn.kp T.d_llaw_draw.bi (a_cons (e_var 0) (a_cons e_int a_nil))) (g_name 4 sc_llaw_step.nd))
  (b_cons (s_asg (e_callTyL cl_tuple T.b_tuple (l_new (n_lc (own := [("record", 9)]) sc_llaw_step.nd (i_of (e_ix (e_var 1) e_int)) (by first | (show blkC N_llaw_step (defScope s_llaw_step) _ _ = true; decide +kernel) | rfl) (gw_name 9 sc_llaw_step.nd) (tw_one fun _ _ _ _ _ => (t_cmp o_eq (e_call G_llaw_draw (hr.mono (by first | decide | omega)) T.d_llaw_draw.mg T.d_llaw_draw.fn.kp T.d_llaw_draw.bi (a_cons (e_var 0) (a_cons e_int a_nil))) e_int)) fun _ _ _ _ _ => (e_ix (e_var 9) e_int)))) (g_name 5 sc_llaw_step.nd))
  (b_cons (s_if (DL.T.w (w_or (t_cmp o_lt (e_var 4) e_int) (w_or1 (t_cmp (o_eqT (hu hr)) (e_var 5) (e_tup a_nil))))) (b_cons (s_asg (e_callTyL cl_tuple T.b_tuple (l_new (n_lc (own := [("k", 10)]) sc_llaw_step.nd (i_rng1 T.b_range (a_cons (e_op o_add e_int (e_call G_llaw_draw (hr.mono (by first | decide | omega)) T.d_llaw_draw.mg T.d_llaw_draw.fn.kp T.d_llaw_draw.bi (a_cons (e_var 0) (a_cons e_int a_nil)))) a_nil)) (by first | (show blkC N_llaw_step (defScope s_llaw_step) _ _ = true; decide +kernel) | rfl) (gw_name 10 sc_llaw_step.nd) tw_nil fun _ _ _ _ _ => (e_tup (a_cons (e_slice (e_tup (a_cons (e_str [97]) (a_cons (e_str [98]) a_nil))) p_none (p_some (e_call G_llaw_draw (hr.mono (by first | decide | omega)) T.d_llaw_draw.mg T.d_llaw_draw.fn.kp T.d_llaw_draw.bi (a_cons (e_var 0) (a_cons e_int a_nil))))) (a_cons (e_op o_add (e_var 3) (e_var 10)) (a_cons (e_call G_llaw_letter (hr.mono (by first | decide | omega)) T.d_llaw_letter.mg T.d_llaw_letter.fn.kp T.d_llaw_letter.bi (a_cons (e_op o_add (e_op o_mul (e_var 3) e_int) (e_var 10)) (a_cons (e_call G_llaw_draw (hr.mono (by first | decide | omega)) T.d_llaw_draw.mg T.d_llaw_draw.fn.kp T.d_llaw_draw.bi (a_cons (e_var 0) (a_cons e_int a_nil))) a_nil))) a_nil))))))) (g_name 11 sc_llaw_step.nd))
  (b_cons (s_asg (e_call G_put_in (hr.mono (by first | decide | omega)) T.d_put_in.mg T.d_put_in.fn.kp T.d_put_in.bi (a_cons (e_var 2) (a_cons (e_var 11) a_nil))) (g_name 12 sc_llaw_step.nd))
  (b_cons (s_asg (e_call G_llaw_put (hr.mono (by first | decide | omega)) T.d_llaw_put.mg T.d_llaw_put.fn.kp T.d_llaw_put.bi (a_cons (e_var 1) (a_cons (e_var 11) a_nil))) (g_name 13 sc_llaw_step.nd))
  (b_cons (s_if (DL.T.w (w_or (t_not (t_tru (e_isi .tTuple (e_var 12) T.b_isinstance T.b_tuple))) (w_or (t_cmp o_ne (e_callB c_len T.b_len (a_cons (e_var 12) a_nil)) e_int) (w_or1 (t_not (t_tru (e_call G_llaw_same (hr.mono (by first | decide | omega)) T.d_llaw_same.mg T.d_llaw_same.fn.kp T.d_llaw_same.bi (a_cons (e_ix (e_var 12) e_int) (a_cons (e_var 13) a_nil))))))))) (b_one (s_ret e_non)) b_nil)
  (b_one (s_ret (e_ix (e_var 12) e_int))))))) b_nil)
  (b_cons (s_if (t_cmp o_eq (e_var 4) e_int) (b_cons (s_expr (e_call G_llaw_take (hr.mono (by first | decide | omega)) T.d_llaw_take.mg T.d_llaw_take.fn.kp T.d_llaw_take.bi (a_cons (e_var 1) (a_cons (e_new (n_listT T.b_list (e_var 5))) a_nil))))
  (b_one (s_ret (e_call G_taken_out (hr.mono (by first | decide | omega)) T.d_taken_out.mg T.d_taken_out.fn.kp T.d_taken_out.bi (a_cons (e_var 2) (a_cons (e_var 5) a_nil)))))) b_nil)
  (b_cons (s_asg (e_call G_llaw_pick (hr.mono (by first | decide | omega)) T.d_llaw_pick.mg T.d_llaw_pick.fn.kp T.d_llaw_pick.bi (a_cons (e_var 0) (a_cons (e_new (n_lst (a_cons (e_str [97, 100, 100]) (a_cons (e_str [100, 114, 111, 112]) (a_cons (e_str [115, 101, 116]) a_nil))))) a_nil))) (g_name 6 sc_llaw_step.nd))
  (b_cons (s_asg (e_slice (e_tup (a_cons (e_str [98]) (a_cons (e_str [99]) a_nil))) (p_some (e_call G_llaw_draw (hr.mono (by first | decide | omega)) T.d_llaw_draw.mg T.d_llaw_draw.fn.kp T.d_llaw_draw.bi (a_cons (e_var 0) (a_cons e_int a_nil)))) p_none) (g_name 7 sc_llaw_step.nd))
  (b_cons (s_asg (e_new (n_lst a_nil)) (g_name 8 sc_llaw_step.nd))
  (b_cons (s_for (i_of (e_ix (e_var 1) e_int)) (g_name 9 sc_llaw_step.nd) (b_one (s_expr (e_bm PySem.F.plainAttrs_list PySem.F.slot_list_append PySem.F.type_list_append m_app (e_var 8) (a_cons (e_if (t_cmp o_in (e_ix (e_var 9) e_int) (e_var 5)) (e_call G_llaw_flags (hr.mono (by first | decide | omega)) T.d_llaw_flags.mg T.d_llaw_flags.fn.kp T.d_llaw_flags.bi (a_cons (e_ix (e_var 9) e_int) (a_cons (e_var 6) (a_cons (e_var 7) a_nil)))) (e_ix (e_var 9) e_int)) a_nil)))))
  (b_cons (s_if (t_eqO (hu hr) (e_var 8) (l_new (n_lc (own := [("record", 9)]) sc_llaw_step.nd (i_of (e_ix (e_var 1) e_int)) (by first | (show blkC N_llaw_step (defScope s_llaw_step) _ _ = true; decide +kernel) | rfl) (gw_name 9 sc_llaw_step.nd) tw_nil fun _ _ _ _ _ => (e_ix (e_var 9) e_int)))) (b_one (s_ret (e_call G_flagged (hr.mono (by first | decide | omega)) T.d_flagged.mg T.d_flagged.fn.kp T.d_flagged.bi (a_cons (e_var 2) (a_cons (e_var 5) (a_cons (e_var 6) (a_cons (e_var 7) a_nil))))))) b_nil)
  (b_cons (s_asg (e_op o_add (e_ix (e_var 1) e_int) e_int) (g_setL (e_var 1) e_int))
  (b_cons (s_for (i_rng1 T.b_range (a_cons (e_callB c_len T.b_len (a_cons (e_var 8) a_nil)) a_nil)) (g_name 10 sc_llaw_step.nd) (b_cons (s_asg (e_ix (e_ix (e_var 1) e_int) (e_var 10)) (g_name 9 sc_llaw_step.nd))
  (b_one (s_if (t_cmp (o_neT (hu hr)) (e_ix (e_var 8) (e_var 10)) (e_ix (e_var 9) e_int)) (b_one (s_asg (e_tup (a_cons (e_str [107, 101, 112, 116]) (a_cons (e_ix (e_var 9) e_int) (a_cons (e_ix (e_var 1) e_int) (a_cons (e_ix (e_var 8) (e_var 10)) (a_cons (e_ix (e_var 9) e_int) (a_cons (e_ix (e_var 9) e_int) a_nil))))))) (g_setL (e_ix (e_var 1) e_int) (e_var 10)))) b_nil))))
  (b_one (s_ret (e_call G_flagged (hr.mono (by first | decide | omega)) T.d_flagged.mg T.d_flagged.fn.kp T.d_flagged.bi (a_cons (e_var 2) (a_cons (e_var 5) (a_cons (e_var 6) (a_cons (e_var 7) a_nil))))))))))))))))))
theorem dv_law (T : Tx K mg F D C) (G_new_box : FnOk P w K mg base CX0 1 (F 5) (D 5) P_new_box (lift K 0 sp_new_box)) (G_signs_of : FnOk P w K mg base CX0 6 (F 6) (D 6) P_signs_of (lift K 1 sp_signs_of)) (G_record_of : FnOk P w K mg base CX0 1 (F 7) (D 7) P_record_of (lift K 2 sp_record_of)) (G_has_room : FnOk P w K mg base CX0 7 (F 9) (D 9) P_has_room (lift K 2 sp_has_room)) (G_llaw_digits : FnOk P w K mg base CX0 2 (F 16) (D 16) P_llaw_digits (lift K 3 sp_llaw_digits)) (G_llaw_draw : FnOk P w K mg base CX0 1 (F 17) (D 17) P_llaw_draw (lift K 2 sp_llaw_draw)) (G_llaw_same : FnOk P w K mg base CX0 8 (F 19) (D 19) P_llaw_same (lift K 2 (sp_same 8))) (G_llaw_text : FnOk P w K mg base CX0 1 (F 21) (D 21) P_llaw_text (lift K 1 sp_llaw_text)) (G_llaw_told : FnOk P w K mg base CX0 1 (F 25) (D 25) P_llaw_told (lift K 1 sp_llaw_told)) (G_llaw_step : FnOk P w K mg base CX0 9 (F 26) (D 26) P_llaw_step (lift K 4 sp_llaw_step)) {cdv : Value} {A : Around} {outer : List Env} {s : Shared} {H : Hp} {E0 : XK}
    (hr : Room 9 (A.deeper (envOfC "law" (defScope s_law) s.heap.objs.size (F 27) cdv))) :
    B (cxOf CX0 P w K mg base N_law "law" (defScope s_law) (F 27) cdv A outer s H E0).nox (defBody s_law) (rd_law) :=
  (b_cons (s_asg (e_new (n_lst (a_cons (e_call G_llaw_digits (hr.mono (by first | decide | omega)) T.d_llaw_digits.mg T.d_llaw_digits.fn.kp T.d_llaw_digits.bi (a_cons (e_var 0) (a_cons e_int (a_cons e_int a_nil)))) (a_cons e_int a_nil)))) (g_name 1 sc_law.nd))
  (b_cons (s_asg (e_new (n_lst (a_cons e_int (a_cons e_int (a_cons e_int (a_cons (e_new (n_lst a_nil)) (a_cons (e_new (n_lst a_nil)) a_nil))))))) (g_name 2 sc_law.nd))
  (b_cons (s_asg (e_call0 G_new_box (hr.mono (by first | decide | omega)) T.d_new_box.mg T.d_new_box.fn.kp T.d_new_box.bi) (g_name 3 sc_law.nd))
  (b_cons (s_for (i_rng1 T.b_range (a_cons (e_op o_add e_int (e_call G_llaw_draw (hr.mono (by first | decide | omega)) T.d_llaw_draw.mg T.d_llaw_draw.fn.kp T.d_llaw_draw.bi (a_cons (e_var 1) (a_cons e_int a_nil)))) a_nil)) (g_name 4 sc_law.nd) (b_cons (s_asg (e_call G_llaw_told (hr.mono (by first | decide | omega)) T.d_llaw_told.mg T.d_llaw_told.fn.kp T.d_llaw_told.bi (a_cons (e_var 2) a_nil)) (g_name 8 sc_law.nd))
  (b_cons (s_asg (e_var 3) (g_name 9 sc_law.nd))
  (b_cons (s_asg (e_call G_llaw_step (hr.mono (by first | decide | omega)) T.d_llaw_step.mg T.d_llaw_step.fn.kp T.d_llaw_step.bi (a_cons (e_var 1) (a_cons (e_var 2) (a_cons (e_var 3) (a_cons (e_var 4) a_nil))))) (g_name 3 sc_law.nd))
  (b_one (s_if (DL.T.w (w_or (t_cmp o_isN (e_var 3) e_non) (w_or (t_not (t_tru (e_call G_llaw_same (hr.mono (by first | decide | omega)) T.d_llaw_same.mg T.d_llaw_same.fn.kp T.d_llaw_same.bi (a_cons (e_var 3) (a_cons (e_call G_llaw_told (hr.mono (by first | decide | omega)) T.d_llaw_told.mg T.d_llaw_told.fn.kp T.d_llaw_told.bi (a_cons (e_var 2) a_nil)) a_nil))))) (w_or1 (t_not (t_tru (e_call G_llaw_same (hr.mono (by first | decide | omega)) T.d_llaw_same.mg T.d_llaw_same.fn.kp T.d_llaw_same.bi (a_cons (e_var 9) (a_cons (e_var 8) a_nil))))))))) (b_one (s_ret e_bl)) b_nil))))))
  (b_cons (s_for (i_of (e_ix (e_var 2) e_int)) (g_name 5 sc_law.nd) (b_one (s_if (t_not (t_tru (e_call G_llaw_same (hr.mono (by first | decide | omega)) T.d_llaw_same.mg T.d_llaw_same.fn.kp T.d_llaw_same.bi (a_cons (e_call G_record_of (hr.mono (by first | decide | omega)) T.d_record_of.mg T.d_record_of.fn.kp T.d_record_of.bi (a_cons (e_var 3) (a_cons (e_ix (e_var 5) e_int) a_nil))) (a_cons (e_var 5) a_nil))))) (b_one (s_ret e_bl)) b_nil)))
  (b_cons (s_if (t_cmp o_notN (e_call G_record_of (hr.mono (by first | decide | omega)) T.d_record_of.mg T.d_record_of.fn.kp T.d_record_of.bi (a_cons (e_var 3) (a_cons (e_op o_add (e_ix (e_var 2) e_int) (e_call G_llaw_draw (hr.mono (by first | decide | omega)) T.d_llaw_draw.mg T.d_llaw_draw.fn.kp T.d_llaw_draw.bi (a_cons (e_var 1) (a_cons e_int a_nil)))) a_nil))) e_non) (b_one (s_ret e_bl)) b_nil)
  (b_cons (s_asg (e_callBL cl_sum T.b_sum (l_new (n_lc (own := [("record", 5)]) sc_law.nd (i_of (e_ix (e_var 2) e_int)) (by first | (show blkC N_law (defScope s_law) _ _ = true; decide +kernel) | rfl) (gw_name 5 sc_law.nd) tw_nil fun _ _ _ _ _ => (e_callB c_len T.b_len (a_cons (e_call G_llaw_text (hr.mono (by first | decide | omega)) T.d_llaw_text.mg T.d_llaw_text.fn.kp T.d_llaw_text.bi (a_cons (e_ix (e_var 5) e_int) a_nil)) a_nil))))) (g_name 6 sc_law.nd))
  (b_cons (s_if (t_not (t_tru (e_call G_llaw_same (hr.mono (by first | decide | omega)) T.d_llaw_same.mg T.d_llaw_same.fn.kp T.d_llaw_same.bi (a_cons (e_call G_signs_of (hr.mono (by first | decide | omega)) T.d_signs_of.mg T.d_signs_of.fn.kp T.d_signs_of.bi (a_cons (e_var 3) a_nil)) (a_cons (e_var 6) a_nil))))) (b_one (s_ret e_bl)) b_nil)
  (b_cons (s_asg (e_op o_sub e_int (e_callB c_len T.b_len (a_cons (e_ix (e_var 2) e_int) a_nil))) (g_name 7 sc_law.nd))
  (b_cons (s_if (DL.T.w (w_or (t_cmp o_notB (e_call G_has_room (hr.mono (by first | decide | omega)) T.d_has_room.mg T.d_has_room.fn.kp T.d_has_room.bi (a_cons (e_var 3) (a_cons (e_op o_mulT (e_tup (a_cons e_int a_nil)) (e_var 7)) a_nil))) e_bl) (w_or1 (t_cmp o_notB (e_call G_has_room (hr.mono (by first | decide | omega)) T.d_has_room.mg T.d_has_room.fn.kp T.d_has_room.bi (a_cons (e_var 3) (a_cons (e_op o_mulT (e_tup (a_cons e_int a_nil)) (e_op o_add (e_var 7) e_int)) a_nil))) e_bl)))) (b_one (s_ret e_bl)) b_nil)
  (b_one (s_ret (e_and (e_cmp o_isB (e_call G_has_room (hr.mono (by first | decide | omega)) T.d_has_room.mg T.d_has_room.fn.kp T.d_has_room.bi (a_cons (e_var 3) (a_cons (e_tup (a_cons (e_op o_sub e_int (e_var 6)) a_nil)) a_nil))) e_bl) (e_one (e_cmp o_isB (e_call G_has_room (hr.mono (by first | decide | omega)) T.d_has_room.mg T.d_has_room.fn.kp T.d_has_room.bi (a_cons (e_var 3) (a_cons (e_tup (a_cons (e_op o_sub e_int (e_var 6)) (a_cons e_int a_nil))) a_nil))) e_bl)))))))))))))))
end
end LW

set_option Elab.async false
set_option linter.all false
set_option maxRecDepth 100000
set_option maxHeartbeats 4000000
namespace LW
open PySem PySem.Spec L2 DL
local macro_rules | `(tactic| walk_at "dl") => `(tactic| simp -implicitDefEqProofs only [↓dSeq, ↓dIfS, ↓dTB, ↓dOp, ↓dVar, ↓dC, ↓dLt, ↓dLe, ↓dGt, ↓dGe, ↓rII, ↓rIIc, ↓dCB, ↓dCons, ↓dNil, ↓dLen, ↓dInt, ↓dRet, ↓dRetN, ↓dNext, ↓dIx, ↓dAt, ↓startD, List.map_cons, List.map_nil, List.cons_append, List.nil_append, List.append_nil, List.length_cons, List.length_nil, List.getElem?_cons_zero, List.getElem?_cons_succ, List.length_map, ↓dAsg, ↓dName, ↓dNew, ↓dLst, ↓dFor_k, ↓dRng1, ↓dRng2, ↓dCall_k, ↓dAdd, ↓dSub, ↓dMul, ↓dMod, ↓dFdiv, ↓dPow, ↓dEq, ↓dNe, ↓scd, ↓dIsN, ↓dNotN, ↓dIsB, ↓dNotB, ↓dUn, ↓dNeg, ↓dTru, ↓dTruS, ↓dAnd, ↓dOr, ↓dNot, ↓dNotV, ↓dAndV, ↓dOrV, ↓dIfE, ↓dTup, ↓dDrop, ↓dBM, ↓dBM0, ↓tyD, ↓dApp, ↓dSetL, ↓dAsL, ↓dOnL, ↓dOnN, ↓dIsi, ↓tyName, isT, ↓dBreak, ↓dCont, ↓dPar, ↓endsD, List.set_cons_zero, List.set_cons_succ, List.replicate_succ, List.replicate_zero, su_same, ↓dLc_k, ↓dWhile_k, ↓dWipe, ↓dYes, ↓dIt, ↓dItN, ↓dSlice, ↓dPart, ↓dNoP, ↓dCut, ↓dSliceE, ↓dIxL, ↓dChain, ↓dIn, ↓dNotIn, ↓dInS, ↓mS0, ↓mS1, ↓dSta, ↓dEnd, ↓dFind, ↓dIsasc, ↓dIsdig, ↓dIsalp, ↓dIsaln, ↓dIslow, ↓dIspri, ↓okT, ↓okU, ↓ok2, ↓dFind4, ↓dSplit, ↓dJoin, ↓dJoinT, ↓dMulS, ↓dCatL, ↓dCatE, ↓dCatR, ↓dCatEE, ↓dStar, ↓dIntS, ↓dStr, ↓dMax, ↓dMin, ↓dII, ↓dFld, ↓dSetF, ↓dMeth_k, ↓dMake_k, ↓dGtup, ↓dGcons, ↓dGnil, true_and, and_true, Nat.add_zero, reduceCtorEq, ↓reduceIte, Bool.not_true, Bool.not_false, Bool.false_eq_true, if_true, if_false])
local macro_rules | `(tactic| walk_at "dl*") => `(tactic| simp -implicitDefEqProofs only [*, ↓dSeq, ↓dIfS, ↓dTB, ↓dOp, ↓dVar, ↓dC, ↓dLt, ↓dLe, ↓dGt, ↓dGe, ↓rII, ↓rIIc, ↓dCB, ↓dCons, ↓dNil, ↓dLen, ↓dInt, ↓dRet, ↓dRetN, ↓dNext, ↓dIx, ↓dAt, ↓startD, List.map_cons, List.map_nil, List.cons_append, List.nil_append, List.append_nil, List.length_cons, List.length_nil, List.getElem?_cons_zero, List.getElem?_cons_succ, List.length_map, ↓dAsg, ↓dName, ↓dNew, ↓dLst, ↓dFor_k, ↓dRng1, ↓dRng2, ↓dCall_k, ↓dAdd, ↓dSub, ↓dMul, ↓dMod, ↓dFdiv, ↓dPow, ↓dEq, ↓dNe, ↓scd, ↓dIsN, ↓dNotN, ↓dIsB, ↓dNotB, ↓dUn, ↓dNeg, ↓dTru, ↓dTruS, ↓dAnd, ↓dOr, ↓dNot, ↓dNotV, ↓dAndV, ↓dOrV, ↓dIfE, ↓dTup, ↓dDrop, ↓dBM, ↓dBM0, ↓tyD, ↓dApp, ↓dSetL, ↓dAsL, ↓dOnL, ↓dOnN, ↓dIsi, ↓tyName, isT, ↓dBreak, ↓dCont, ↓dPar, ↓endsD, List.set_cons_zero, List.set_cons_succ, List.replicate_succ, List.replicate_zero, su_same, ↓dLc_k, ↓dWhile_k, ↓dWipe, ↓dYes, ↓dIt, ↓dItN, ↓dSlice, ↓dPart, ↓dNoP, ↓dCut, ↓dSliceE, ↓dIxL, ↓dChain, ↓dIn, ↓dNotIn, ↓dInS, ↓mS0, ↓mS1, ↓dSta, ↓dEnd, ↓dFind, ↓dIsasc, ↓dIsdig, ↓dIsalp, ↓dIsaln, ↓dIslow, ↓dIspri, ↓okT, ↓okU, ↓ok2, ↓dFind4, ↓dSplit, ↓dJoin, ↓dJoinT, ↓dMulS, ↓dCatL, ↓dCatE, ↓dCatR, ↓dCatEE, ↓dStar, ↓dIntS, ↓dStr, ↓dMax, ↓dMin, ↓dII, ↓dFld, ↓dSetF, ↓dMeth_k, ↓dMake_k, ↓dGtup, ↓dGcons, ↓dGnil, true_and, and_true, Nat.add_zero, reduceCtorEq, ↓reduceIte, Bool.not_true, Bool.not_false, Bool.false_eq_true, if_true, if_false])
theorem ok_llaw_cell : ∀ ds S Q, ds.length = 2 → sp_llaw_cell ds S Q → rd_llaw_cell (endsD Q) (startD N_llaw_cell ds) S := by
  rintro ds S Q - ⟨ns, k, rfl, hk, h⟩
  walk_at "dl"
  refine ifb (fun hl => ?_) fun _ => ⟨S, Sle.refl S, h _⟩
  obtain ⟨j, rfl⟩ := Int.eq_ofNat_of_zero_le hk
  have hj : j < ns.length := by omega
  have e : atI (ns.map D.int) (j : Int) = some (D.int ns[j]) := atI_nat (by rw [List.getElem?_map, List.getElem?_eq_getElem hj]; rfl)
  rw [e]
  exact ⟨S, Sle.refl S, h _⟩
theorem ok_llaw_draw : ∀ ds S Q, ds.length = 2 → sp_llaw_draw ds S Q → rd_llaw_draw (endsD Q) (startD N_llaw_draw ds) S := by
  rintro ds S Q - ⟨b, m, rfl, hm, ⟨dg, gs, a, hb, hd, hg, ha, hne⟩, h⟩
  have e1 : atI [D.rf dg, D.int a] 1 = some (.int a) := rfl
  have e0 : ∀ x, atI [D.rf dg, D.int x] 0 = some (.rf dg) := fun _ => rfl
  have e2 : ixN 2 1 = some 1 := rfl
  have e3 : su S b (.lst [.rf dg, .int (a + 1)]) dg = some (.lst (gs.map D.int)) := by rw [su_ne hne]; exact hd
  have bx : Bx b S (su S b (.lst [.rf dg, .int (a + 1)])) := ⟨⟨dg, gs, a + 1, su_same, e3, hg, by omega, hne⟩, fun p hp => su_ne hp, dg, a, a + 1, hb, su_same⟩
  walk_at "dl*"
  refine ifb (fun hl => ?_) fun _ => ?_
  · obtain ⟨j, rfl⟩ := Int.eq_ofNat_of_zero_le ha
    have hj : j < gs.length := by omega
    have e : atI (gs.map D.int) (j : Int) = some (D.int gs[j]) := atI_nat (by rw [List.getElem?_map, List.getElem?_eq_getElem hj]; rfl)
    rw [e]
    exact ⟨_, Sle.refl _, h _ _ (Int.emod_nonneg _ (by omega)) (Int.emod_lt_of_pos _ hm) bx⟩
  · exact ⟨.inr ⟨by decide, by decide⟩, _, Sle.refl _, h _ _ (Int.emod_nonneg _ (by omega)) (Int.emod_lt_of_pos _ hm) bx⟩
theorem Dig.snoc {gs : List Int} {x : Int} (h : ∀ g ∈ gs, 0 ≤ g ∧ g < 1000) : ∀ g ∈ gs ++ [x % 1000], 0 ≤ g ∧ g < 1000 := fun g hg => by
  rcases List.mem_append.mp hg with z | z
  · exact h g z
  · rw [List.mem_singleton.mp z]; omega
theorem ok_llaw_digits : ∀ ds S Q, ds.length = 3 → sp_llaw_digits ds S Q → rd_llaw_digits (endsD Q) (startD N_llaw_digits ds) S := by
  rintro ds S0 Q - ⟨ns, rfl, h⟩
  walk_at "dl"
  refine ⟨Nat.zero_le _, fun p hp => ⟨by decide, ?_⟩⟩
  refine loop_inv (fun rest δ S => ∃ gs k c t s, δ = [some (.frz (ns.map D.int)), some (.int 0), some (.int 63), some (.rf p), k, c, t, s] ∧ S = su S0 p (.lst (gs.map D.int)) ∧ (∀ g ∈ gs, 0 ≤ g ∧ g < 1000) ∧ gs.length + 60 * rest.length ≤ 3780 ∧ ∀ x ∈ rest, ∃ i : Nat, x = .int i) ?_ ?_ ?_ _ _ _
    ⟨[], none, none, none, none, rfl, rfl, by simp, by simp [rng_len], fun x hx => ?_⟩
  · rintro x xs δ S N ⟨gs, k, c, t, s, rfl, rfl, hg, hl, hx⟩ hN
    obtain ⟨i, rfl⟩ := hx x List.mem_cons_self
    have hx' := fun y hy => hx y (List.mem_cons_of_mem _ hy)
    rw [List.length_cons] at hl
    walk_at "dl"
    refine ifb (fun _ => ?_) fun hs => ?_
    · exact ⟨_, Sle.refl _, h gs p ⟨hg, by omega⟩ hp⟩
    refine ⟨ns, _, rfl, by omega, fun cell => ?_⟩
    -- the two ways behind the cell's sign
    have long : ∀ (c t : Option D) (z : Int), loopK (dName 6) (dIfS (dTB (dOp dGt (dVar 5) (dC (.int 0)))) (dSeq (dDrop (dBM "list" dApp (dVar 3) (dCons (dOp dMod (dCB dInt (dCons (dVar 5) dNil)) (dC (.int 1000))) dNil))) (dAsg (dOp dFdiv (dVar 5) (dC (.int 1000))) (dName 5))) dNext)
        { nx := N, rt := fun d S => ∃ S', Sle S' S ∧ Q d S', bk := dRet (dVar 3) { nx := fun x S => ∃ S', Sle S' S ∧ Q D.non S', rt := fun d S => ∃ S', Sle S' S ∧ Q d S' }, ct := N } (fun _ => True) (rng 0 (Int.toNat 60))
        [some (.frz (ns.map D.int)), some (.int 0), some (.int 63), some (.rf p), some (.int i), some (.int z), t, s] (su S0 p (.lst (gs.map D.int))) .mk .mk .mk .mk := by
      intro c t z
      refine loop_inv (fun rest δ S => ∃ hs k z t, δ = [some (.frz (ns.map D.int)), some (.int 0), some (.int 63), some (.rf p), k, some (.int z), t, s] ∧ S = su S0 p (.lst (hs.map D.int)) ∧ (∀ g ∈ hs, 0 ≤ g ∧ g < 1000) ∧ hs.length + rest.length ≤ gs.length + 60) ?_ ?_ ?_ _ _ _
        ⟨gs, _, z, t, rfl, rfl, hg, by rw [rng_len]; exact Nat.le_refl _⟩
      · rintro x xs δ S N ⟨hs, k, z, t, rfl, rfl, hh, hl⟩ hN
        rw [List.length_cons] at hl
        walk_at "dl"
        refine ifb (fun _ => ?_) fun _ => ?_
        · refine ⟨⟨_, rfl⟩, by omega, by rw [sizeLine_eq]; omega, ⟨by decide, by decide⟩, hN _ _ ⟨hs ++ [z % 1000], _, _, _, rfl, by rw [su_su, List.map_append]; rfl, Dig.snoc hh, by rw [List.length_append, List.length_singleton]; omega⟩⟩
        · exact hN _ _ ⟨hs, _, _, _, rfl, rfl, hh, by omega⟩
      · exact fun _ _ _ _ => trivial
      · rintro δ S ⟨hs, k, z, t, rfl, rfl, hh, hl⟩
        exact hN _ _ ⟨hs, _, _, _, _, rfl, rfl, hh, by simp at hl; omega, hx'⟩
    have short : ∀ (c t : Option D) (z : Int), loopK (dName 6) (dSeq (dAsg (dOp dMod (dCB dInt (dCons (dOp dAdd (dOp dAdd (dOp dMul (dVar 7) (dC (.int 16807))) (dOp dMul (dC (.int 7)) (dVar 6))) (dC (.int 1))) dNil)) (dC (.int 2147483647))) (dName 7))
          (dDrop (dBM "list" dApp (dVar 3) (dCons (dOp dMod (dCB dInt (dCons (dOp dFdiv (dVar 7) (dC (.int 997))) dNil)) (dC (.int 1000))) dNil))))
        { nx := N, rt := fun d S => ∃ S', Sle S' S ∧ Q d S', bk := dRet (dVar 3) { nx := fun x S => ∃ S', Sle S' S ∧ Q D.non S', rt := fun d S => ∃ S', Sle S' S ∧ Q d S' }, ct := N } (fun _ => True) (rng 0 (Int.toNat 12))
        [some (.frz (ns.map D.int)), some (.int 0), some (.int 63), some (.rf p), some (.int i), c, t, some (.int z)] (su S0 p (.lst (gs.map D.int))) .mk .mk .mk .mk := by
      intro c t z
      refine loop_inv (fun rest δ S => ∃ hs k z t, δ = [some (.frz (ns.map D.int)), some (.int 0), some (.int 63), some (.rf p), k, c, t, some (.int z)] ∧ S = su S0 p (.lst (hs.map D.int)) ∧ (∀ g ∈ hs, 0 ≤ g ∧ g < 1000) ∧ hs.length + rest.length ≤ gs.length + 12 ∧ ∀ x ∈ rest, ∃ i : Nat, x = .int i) ?_ ?_ ?_ _ _ _
        ⟨gs, _, z, t, rfl, rfl, hg, by rw [rng_len]; exact Nat.le_refl _, fun x hx => let ⟨i, _, e⟩ := rng_mem hx; ⟨i, by rw [e]; simp⟩⟩
      · rintro x xs δ S N ⟨hs, k, z, t, rfl, rfl, hh, hl, hx⟩ hN
        obtain ⟨i, rfl⟩ := hx x List.mem_cons_self
        rw [List.length_cons] at hl
        walk_at "dl"
        refine ⟨.inr ⟨by decide, by decide⟩, .inl ⟨by decide, by decide⟩, by decide, ⟨_, rfl⟩, ⟨by decide, by decide⟩, by decide, by rw [sizeLine_eq]; omega, hN _ _ ⟨hs ++ [_ % 1000], _, _, _, rfl, by rw [su_su, List.map_append]; rfl, Dig.snoc hh, by rw [List.length_append, List.length_singleton]; omega, fun y hy => hx y (List.mem_cons_of_mem _ hy)⟩⟩
      · exact fun _ _ _ _ => trivial
      · rintro δ S ⟨hs, k, z, t, rfl, rfl, hh, hl, _⟩
        exact hN _ _ ⟨hs, _, _, _, _, rfl, rfl, hh, by simp at hl; omega, hx'⟩
    walk_at "dl"
    refine ifb (fun _ => ?_) fun _ => ?_
    · refine ⟨.inl ⟨by decide, by decide⟩, ⟨by decide, by decide, by decide⟩, ifb (fun _ => ⟨by decide, by decide, long c t _⟩) fun _ => ⟨.inr ⟨by decide, by decide⟩, .inr ⟨by decide, by decide⟩, by decide, by decide, by decide, short _ t _⟩⟩
    · refine ⟨⟨by decide, by decide, by decide⟩, ifb (fun _ => ⟨by decide, by decide, long c t _⟩) fun _ => ⟨.inr ⟨by decide, by decide⟩, .inr ⟨by decide, by decide⟩, by decide, by decide, by decide, short _ t _⟩⟩
  · exact fun _ _ _ _ => trivial
  · rintro δ S ⟨gs, k, c, t, s, rfl, rfl, hg, hl, _⟩
    exact ⟨_, Sle.refl _, h gs p ⟨hg, by simpa using Nat.le_trans (Nat.le_add_right _ _) (Nat.le_trans hl (by decide))⟩ hp⟩
  · obtain ⟨i, _, rfl⟩ := rng_mem hx
    exact ⟨i, by simp⟩
/-! ### _law_same -/
theorem deqs_len : ∀ {a d : List D}, a.length ≠ d.length → deqs a d = false
  | [], [], h => absurd rfl h
  | [], _ :: _, _ => rfl
  | _ :: _, [], _ => rfl
  | x :: a, y :: d, h => by
    have : deqs a d = false := deqs_len (by intro e; exact h (by rw [List.length_cons, List.length_cons, e]))
    show (deq x y && deqs a d) = false
    rw [this, Bool.and_false]
theorem deqs_get : ∀ {a d : List D}, a.length = d.length → (deqs a d = true ↔ ∀ (i : Nat) x y, a[i]? = some x → d[i]? = some y → deq x y = true)
  | [], [], _ => ⟨fun _ i x y h => by simp at h, fun _ => rfl⟩
  | [], _ :: _, h => by simp at h
  | _ :: _, [], h => by simp at h
  | x :: a, y :: d, h => by
    have ih := deqs_get (a := a) (d := d) (by simpa using h)
    show (deq x y && deqs a d) = true ↔ _
    rw [Bool.and_eq_true, ih]
    constructor
    · rintro ⟨h1, h2⟩ i u v hu hv
      cases i with
      | zero => simp at hu hv; subst hu; subst hv; exact h1
      | succ i => exact h2 i u v (by simpa using hu) (by simpa using hv)
    · intro k
      exact ⟨k 0 x y rfl rfl, fun i u v hu hv => k (i + 1) u v (by simpa using hu) (by simpa using hv)⟩
theorem plns_get : ∀ {a : List D}, plns a = true → ∀ (i : Nat) x, a[i]? = some x → pln x = true
  | x :: a, h, i, u, hu => by
    have h' : (pln x && plns a) = true := h
    rw [Bool.and_eq_true] at h'
    cases i with
    | zero => simp at hu; subst hu; exact h'.1
    | succ i => exact plns_get h'.2 i u (by simpa using hu)
  | [], _, i, u, hu => by simp at hu
theorem szds_get : ∀ {a : List D}, szds a = true → ∀ (i : Nat) x, a[i]? = some x → szd x = true
  | x :: a, h, i, u, hu => by
    have h' : (szd x && szds a) = true := h
    rw [Bool.and_eq_true] at h'
    cases i with
    | zero => simp at hu; subst hu; exact h'.1
    | succ i => exact szds_get h'.2 i u (by simpa using hu)
  | [], _, i, u, hu => by simp at hu
theorem deps_get : ∀ {a : List D} (i : Nat) x, a[i]? = some x → dep x ≤ deps a
  | x :: a, i, u, hu => by
    show dep u ≤ max (dep x) (deps a)
    cases i with
    | zero => simp at hu; subst hu; exact Nat.le_max_left _ _
    | succ i => exact Nat.le_trans (deps_get i u (by simpa using hu)) (Nat.le_max_right _ _)
  | [], i, u, hu => by simp at hu
theorem deq_ii (a b : Int) : deq (.int a) (.int b) = decide (a = b) := by rw [deq, Bool.eq_iff_iff]; simp
theorem deq_ss (a b : List Nat) : deq (.str a) (.str b) = decide (a = b) := by rw [deq, Bool.eq_iff_iff]; simp
theorem deq_bb (a b : Bool) : deq (.bl a) (.bl b) = decide (a = b) := by cases a <;> cases b <;> decide
theorem ok_same (n : Nat) : ∀ ds S Q, ds.length = 2 → sp_same (n + 1) ds S Q → rd_llaw_same n (endsD Q) (startD N_llaw_same ds) S := by
  rintro ds S Q - ⟨a, d, rfl, pa, pd, zd, hd, h⟩
  have fin : ∀ b, deq a d = b → ∃ S', Sle S' S ∧ Q (.bl b) S' := fun b e => ⟨S, Sle.refl S, by rw [← e]; exact h⟩
  cases d with
  | tup xs =>
    have zd' : (decide (xs.length < 2 ^ 62) && szds xs) = true := zd
    rw [Bool.and_eq_true, decide_eq_true_eq] at zd'
    cases a with
    | tup ys =>
      walk_at "dl"
      by_cases hl : ys.length = xs.length
      · have e1 : decide ((ys.length : Int) = xs.length) = true := decide_eq_true (by rw [hl])
        rw [e1]
        refine ⟨by omega, by omega, ?_⟩
        refine loop_pre (fun pre δ S' => ∃ t, δ = [some (.tup ys), some (.tup xs), t] ∧ S' = S ∧ ∀ (i : Nat) x y, i < pre.length → ys[i]? = some x → xs[i]? = some y → deq x y = true) ⟨none, rfl, rfl, fun i x y hi => absurd hi (Nat.not_lt_zero _)⟩ ?_ (fun _ _ _ _ => trivial) ?_
        · rintro pre x post e δ S' N ⟨t, rfl, rfl, hp⟩ hN
          obtain ⟨rfl, hlt⟩ := rng_split e
          rw [Int.toNat_natCast] at hlt
          have ex : xs[pre.length]? = some xs[pre.length] := List.getElem?_eq_getElem hlt
          have ey : ys[pre.length]? = some (ys[pre.length]'(by omega)) := List.getElem?_eq_getElem (by omega)
          have ax : atI xs ((0 : Int) + (pre.length : Nat)) = some xs[pre.length] := by rw [Int.zero_add]; exact atI_nat ex
          have ay : atI ys ((0 : Int) + (pre.length : Nat)) = some (ys[pre.length]'(by omega)) := by rw [Int.zero_add]; exact atI_nat ey
          simp only [↓dIfS, ↓dNot, ↓dTru, ↓dCall_k, ↓dCons, ↓dNil, ↓dOp, ↓dVar, ↓dIx, ↓dAt, ↓dName, List.set_cons_succ, List.set_cons_zero, List.getElem?_cons_zero, List.getElem?_cons_succ, ax, ay]
          refine ⟨rfl, _, _, rfl, plns_get pa _ _ ey, plns_get pd _ _ ex, szds_get zd'.2 _ _ ex, ?_, ?_⟩
          · have := deps_get _ _ ex
            have hd' : deps xs + 1 < n + 1 := hd
            omega
          · simp only [dTruS]
            cases e2 : deq (ys[pre.length]'(by omega)) xs[pre.length] with
            | true =>
              simp only [Bool.not_true, Bool.false_eq_true, if_false]
              refine hN _ _ ⟨_, rfl, rfl, fun i x y hi hx hy => ?_⟩
              rw [List.length_append, List.length_singleton] at hi
              by_cases hi' : i < pre.length
              · exact hp i x y hi' hx hy
              · have : i = pre.length := by omega
                subst this
                rw [ey] at hx
                rw [ex] at hy
                cases hx; cases hy
                exact e2
            | false =>
              simp only [Bool.not_false, if_true]
              refine fin false ?_
              show deqs ys xs = false
              cases e3 : deqs ys xs with
              | false => rfl
              | true => rw [(deqs_get hl).mp e3 _ _ _ ey ex] at e2; cases e2
        · rintro δ S' ⟨t, rfl, rfl, hp⟩
          refine fin true ?_
          show deqs ys xs = true
          refine (deqs_get hl).mpr fun i x y hx hy => hp i x y ?_ hx hy
          rw [rng_len, Int.toNat_natCast]
          exact (List.getElem?_eq_some_iff.mp hy).1
      · have e1 : decide ((ys.length : Int) = xs.length) = false := decide_eq_false (by omega)
        rw [e1]
        exact fin false (deqs_len hl)
    | rf p => cases pa
    | frz p => cases pa
    | ty p => cases pa
    | kst w p => cases pa
    | _ => walk_at "dl"; exact fin false rfl
  | non => cases a <;> first | (cases pa; done) | (walk_at "dl"; first | exact fin false (by simp only [deq]) | exact fin true (by simp only [deq]))
  | bl c => cases c <;> cases a <;> first | (cases pa; done) | (walk_at "dl"; first | exact fin _ (deq_bb _ _) | exact fin false (by simp only [deq]) | exact fin true (by simp only [deq]))
  | int i => cases a <;> first | (cases pa; done) | (walk_at "dl"; first | exact fin _ (deq_ii _ _) | exact fin false (by simp only [deq]) | exact fin true (by simp only [deq]))
  | str s => cases a <;> first | (cases pa; done) | (walk_at "dl"; first | exact fin _ (deq_ss _ _) | exact fin false (by simp only [deq]) | exact fin true (by simp only [deq]))
  | rf p => cases pd
  | frz p => cases pd
  | ty p => cases pd
  | kst w p => cases pd
end LW

set_option Elab.async false
set_option linter.all false
set_option maxRecDepth 100000
set_option maxHeartbeats 4000000
namespace LW
open PySem PySem.Spec L2 DL
local macro_rules | `(tactic| walk_at "dl") => `(tactic| simp -implicitDefEqProofs only [↓dFmt, ↓dJsE, ↓dJs, ↓dSumL, ↓dAllL, ↓dAnyL, ↓dPartn, ↓dStrip, ↓dStripC, ↓dLower, ↓dUpper, ↓dRfind, ↓dCount, ↓okL, ↓dGunl, ↓dLc2_k, ↓dStarL, ↓dListT, ↓dTupT, ↓dSetK, ↓dSortS, ↓dEqL, ↓dOnL, ↓dTupRg, ↓dLstRg, ↓dInT, ↓dSetT, ↓dZipT, ↓dSetAll, ↓dEqO, ↓dMulT, ↓dSeq, ↓dIfS, ↓dTB, ↓dOp, ↓dVar, ↓dC, ↓dLt, ↓dLe, ↓dGt, ↓dGe, ↓rII, ↓rIIc, ↓dCB, ↓dCons, ↓dNil, ↓dLen, ↓dInt, ↓dRet, ↓dRetN, ↓dNext, ↓dIx, ↓dAt, ↓startD, List.map_cons, List.map_nil, List.cons_append, List.nil_append, List.append_nil, List.length_cons, List.length_nil, List.getElem?_cons_zero, List.getElem?_cons_succ, List.length_map, ↓dAsg, ↓dName, ↓dNew_k, ↓dLst, ↓dFor_k, ↓dRng1, ↓dRng2, ↓dCall_k, ↓dAdd, ↓dSub, ↓dMul, ↓dMod, ↓dFdiv, ↓dPow, ↓dEq, ↓dNe, ↓scd, ↓dIsN, ↓dNotN, ↓dIsB, ↓dNotB, ↓dUn, ↓dNeg, ↓dTru, ↓dTruS, ↓dAnd, ↓dOr, ↓dNot, ↓dNotV, ↓dAndV, ↓dOrV, ↓dIfE, ↓dTup, ↓dDrop, ↓dBM, ↓dBM0, ↓tyD, ↓dApp, ↓dSetL, ↓dAsL, ↓dOnL, ↓dOnN_k, ↓dIsi, ↓tyName, isT, ↓dBreak, ↓dCont, ↓dPar, ↓endsD, List.set_cons_zero, List.set_cons_succ, List.replicate_succ, List.replicate_zero, su_same, ↓dLc_k, ↓dWhile_k, ↓dWipe, ↓dYes, ↓dIt, ↓dItN, ↓dSlice, ↓dPart, ↓dNoP, ↓dCut, ↓dSliceE, ↓dIxL, ↓dChain, ↓dIn, ↓dNotIn, ↓dInS, ↓mS0, ↓mS1, ↓dSta, ↓dEnd, ↓dFind, ↓dIsasc, ↓dIsdig, ↓dIsalp, ↓dIsaln, ↓dIslow, ↓dIspri, ↓okT, ↓okU, ↓ok2, ↓dFind4, ↓dSplit, ↓dJoin, ↓dJoinT, ↓dMulS, ↓dCatL, ↓dCatE, ↓dCatR, ↓dCatEE, ↓dStar, ↓dIntS, ↓dStr, ↓dMax, ↓dMin, ↓dII, ↓dFld_m, ↓dSetF_m, ↓dMeth_m, ↓dMake_k, ↓dGtup, ↓dGcons, ↓dGnil, true_and, and_true, Nat.add_zero, reduceCtorEq, ↓reduceIte, Bool.not_true, Bool.not_false, Bool.false_eq_true, if_true, if_false])
local macro_rules | `(tactic| walk_at "dl*") => `(tactic| simp -implicitDefEqProofs only [*, ↓dFmt, ↓dJsE, ↓dJs, ↓dSumL, ↓dAllL, ↓dAnyL, ↓dPartn, ↓dStrip, ↓dStripC, ↓dLower, ↓dUpper, ↓dRfind, ↓dCount, ↓okL, ↓dGunl, ↓dLc2_k, ↓dStarL, ↓dListT, ↓dTupT, ↓dSetK, ↓dSortS, ↓dEqL, ↓dOnL, ↓dTupRg, ↓dLstRg, ↓dInT, ↓dSetT, ↓dZipT, ↓dSetAll, ↓dEqO, ↓dMulT, ↓dSeq, ↓dIfS, ↓dTB, ↓dOp, ↓dVar, ↓dC, ↓dLt, ↓dLe, ↓dGt, ↓dGe, ↓rII, ↓rIIc, ↓dCB, ↓dCons, ↓dNil, ↓dLen, ↓dInt, ↓dRet, ↓dRetN, ↓dNext, ↓dIx, ↓dAt, ↓startD, List.map_cons, List.map_nil, List.cons_append, List.nil_append, List.append_nil, List.length_cons, List.length_nil, List.getElem?_cons_zero, List.getElem?_cons_succ, List.length_map, ↓dAsg, ↓dName, ↓dNew_k, ↓dLst, ↓dFor_k, ↓dRng1, ↓dRng2, ↓dCall_k, ↓dAdd, ↓dSub, ↓dMul, ↓dMod, ↓dFdiv, ↓dPow, ↓dEq, ↓dNe, ↓scd, ↓dIsN, ↓dNotN, ↓dIsB, ↓dNotB, ↓dUn, ↓dNeg, ↓dTru, ↓dTruS, ↓dAnd, ↓dOr, ↓dNot, ↓dNotV, ↓dAndV, ↓dOrV, ↓dIfE, ↓dTup, ↓dDrop, ↓dBM, ↓dBM0, ↓tyD, ↓dApp, ↓dSetL, ↓dAsL, ↓dOnL, ↓dOnN_k, ↓dIsi, ↓tyName, isT, ↓dBreak, ↓dCont, ↓dPar, ↓endsD, List.set_cons_zero, List.set_cons_succ, List.replicate_succ, List.replicate_zero, su_same, ↓dLc_k, ↓dWhile_k, ↓dWipe, ↓dYes, ↓dIt, ↓dItN, ↓dSlice, ↓dPart, ↓dNoP, ↓dCut, ↓dSliceE, ↓dIxL, ↓dChain, ↓dIn, ↓dNotIn, ↓dInS, ↓mS0, ↓mS1, ↓dSta, ↓dEnd, ↓dFind, ↓dIsasc, ↓dIsdig, ↓dIsalp, ↓dIsaln, ↓dIslow, ↓dIspri, ↓okT, ↓okU, ↓ok2, ↓dFind4, ↓dSplit, ↓dJoin, ↓dJoinT, ↓dMulS, ↓dCatL, ↓dCatE, ↓dCatR, ↓dCatEE, ↓dStar, ↓dIntS, ↓dStr, ↓dMax, ↓dMin, ↓dII, ↓dFld_m, ↓dSetF_m, ↓dMeth_m, ↓dMake_k, ↓dGtup, ↓dGcons, ↓dGnil, true_and, and_true, Nat.add_zero, reduceCtorEq, ↓reduceIte, Bool.not_true, Bool.not_false, Bool.false_eq_true, if_true, if_false])
/-- keeps the rewriting off a fact -/
structure Hd (P : Prop) : Prop where
  a : P
theorem sz6 : (2000000 : Nat) ≤ sizeLine := by rw [sizeLine_eq]; omega
theorem sb4 : scanBound = 4096 := rfl
theorem decs_ok : ∀ n : Nat, n < 100 → (decs ((n : Nat) : Int)).length ≤ 2 ∧ ((n : Nat) : Int).natAbs.log2 < 1920 := by decide +kernel
theorem decs2 {n : Int} (h0 : 0 ≤ n) (h1 : n < 100) : (decs n).length ≤ 2 ∧ n.natAbs.log2 < 1920 := by
  obtain ⟨k, rfl⟩ := Int.eq_ofNat_of_zero_le h0
  exact decs_ok k (by omega)
theorem sle_su {S0 S : Sh} {q : Addr} {o : MO} (h : Sle S0 S) (hq : S0 q = none) : Sle S0 (su S q o) := fun p u e => by
  rw [su_ne (fun z => by rw [z, hq] at e; cases e)]; exact h p u e
theorem sle_none {S0 S : Sh} {q : Addr} (h : Sle S0 S) (hq : S q = none) : S0 q = none := by
  cases e : S0 q with
  | none => rfl
  | some o => rw [h q o e] at hq; cases hq
/-- an object beside the one that is told may be forgotten -/
theorem sle_two {S : Sh} {p q : Addr} {o u : MO} (hq : S q = none) (n : q ≠ p) : Sle (su S p o) (su (su S q u) p o) := fun a x e => by
  by_cases h : a = p
  · subst h; rw [su_same] at e ⊢; exact e
  · rw [su_ne h] at e ⊢
    rw [su_ne (fun z => by rw [z, hq] at e; cases e)]; exact e
theorem sle_mono {S S' : Sh} {r : Addr} {o : MO} (h : Sle S S') : Sle (su S r o) (su S' r o) := fun a x e => by
  by_cases z : a = r
  · subst z; rw [su_same] at e ⊢; exact e
  · rw [su_ne z] at e ⊢; exact h a x e
theorem ok_new_box : ∀ ds S Q, ds.length = 0 → sp_new_box ds S Q → rd_new_box (endsD Q) (startD N_new_box ds) S := by
  rintro ds S Q - ⟨rfl, h⟩
  have sz := sz6
  walk_at "dl"
  exact ⟨by omega, by omega, by omega, S, Sle.refl S, h⟩
theorem ln3 {ln : Nat} (h : ln ≤ 2) : ln = 0 ∨ ln = 1 ∨ ln = 2 := by omega
def fNl : D → D
  | .str s => .str (s ++ [10])
  | _ => .non
theorem txt_len {n : Int} {ln : Nat} (h0 : 0 ≤ n) (h1 : n < 100) (hl : ln ≤ 2) : (txtL n ln).length ≤ sizeLine := by
  have sz := sz6
  obtain ⟨d1, d2⟩ := decs2 h0 h1
  rcases ln3 hl with rfl | rfl | rfl <;> (simp [txtL, cSubj, cWord]; omega)
theorem txt_succ (n : Int) (k : Nat) : txtL n (k + 1) = txtL n k ++ (cWord ++ decs n ++ [10]) := by
  unfold txtL
  rw [List.replicate_succ', List.flatten_append, List.append_assoc]
  simp
theorem txt_k {n : Int} (h0 : 0 ≤ n) (h1 : n < 100) : ∀ k : Nat, (txtL n k).length ≤ 30 + k * 10
  | 0 => by
    obtain ⟨d1, d2⟩ := decs2 h0 h1
    simp [txtL, cSubj]; omega
  | k + 1 => by
    obtain ⟨d1, d2⟩ := decs2 h0 h1
    have := txt_k h0 h1 k
    rw [txt_succ, List.length_append]
    have : (cWord ++ decs n ++ [10]).length ≤ 8 := by simp [cWord]; omega
    omega
theorem lin_len {n : Int} {ln : Nat} (h0 : 0 ≤ n) (h1 : n < 100) : ∀ u ∈ linesL n ln, u.length ≤ 30 := fun u hu => by
  obtain ⟨d1, d2⟩ := decs2 h0 h1
  rcases List.mem_cons.mp hu with rfl | hu
  · simp [cSubj]; omega
  rcases List.mem_cons.mp hu with rfl | hu
  · simp
  · rw [List.eq_of_mem_replicate hu]; simp [cWord]; omega
theorem lin_join (n : Int) {ln : Nat} (hl : ln ≤ 2) : TL.joinL [] ((linesL n ln).map (· ++ [10])) = txtL n ln := by
  rcases ln3 hl with rfl | rfl | rfl <;> simp [TL.joinL, linesL, txtL, List.replicate]
theorem ok_llaw_letter : ∀ ds S Q, ds.length = 2 → sp_llaw_letter ds S Q → rd_llaw_letter (endsD Q) (startD N_llaw_letter ds) S := by
  rintro ds S Q - ⟨n, ln, h0, h1, hl, rfl, h⟩
  have sz := sz6
  obtain ⟨d1, d2⟩ := decs2 h0 h1
  walk_at "dl*"
  refine ⟨by omega, by omega, by omega, by omega, by omega, by simp, ?_⟩
  rcases ln3 hl with rfl | rfl | rfl
  · exact .inr (.inl ⟨by decide, by decide, by omega, by omega, S, Sle.refl S, h⟩)
  · exact .inr (.inr ⟨rfl, by omega, by omega, S, Sle.refl S, h⟩)
  · exact .inl ⟨by decide, .inl ⟨by decide, by decide⟩, by omega, by omega, S, Sle.refl S, h⟩
theorem ok_fits : ∀ ds S Q, ds.length = 2 → sp_fits ds S Q → rd_fits (endsD Q) (startD N_fits ds) S := by
  rintro ds S Q - ⟨a, c, rfl, h⟩
  walk_at "dl"
  refine ifb (fun z => ⟨S, Sle.refl S, ?_⟩) fun z => ⟨S, Sle.refl S, ?_⟩
  · rw [decide_eq_true z, Bool.true_and] at h; exact h
  · rw [decide_eq_false z, Bool.false_and] at h
    rw [decide_eq_false z]; exact h
theorem ok_folded : ∀ ds S Q, ds.length = 2 → sp_folded ds S Q → rd_folded (endsD Q) (startD N_folded ds) S := by
  rintro ds S Q - ⟨s, k, hs, rfl, h⟩
  have sz := sz6
  walk_at "dl"
  refine ⟨by omega, fun p hp => ?_⟩
  refine while_inv (fun n δ S' => δ = [some (.str s), some (.int k), some (.rf p), none] ∧ S' = su S p (.lst [])) (n := 0) ⟨rfl, rfl⟩ ?_
  rintro n δ S1 N ⟨rfl, rfl⟩ hN
  walk_at "dl"
  refine ⟨by omega, ifb (fun z => absurd z (by omega)) fun _ => ⟨⟨[], rfl⟩, by omega, _, ?_, h p hp⟩⟩
  rw [su_su]
  exact Sle.refl _
theorem ok_header_lines : ∀ ds S Q, ds.length = 2 → sp_header_lines ds S Q → rd_header_lines (endsD Q) (startD N_header_lines ds) S := by
  rintro ds S Q - ⟨a, t, ht, hl, rfl, h⟩
  have sz := sz6
  walk_at "dl"
  refine ifb (fun z => absurd z ht) fun _ => ⟨by omega, by omega, by simp; omega, by omega, by simp; omega, by omega, ?_⟩
  exact ⟨_, _, by simp; omega, rfl, fun p hp => ⟨_, Sle.refl _, h p hp⟩⟩
theorem ok_lines_of : ∀ ds S Q, ds.length = 1 → sp_lines_of ds S Q → rd_lines_of (endsD Q) (startD N_lines_of ds) S := by
  rintro ds S Q - ⟨n, ln, h0, h1, hl, rfl, h⟩
  have sz := sz6
  obtain ⟨d1, d2⟩ := decs2 h0 h1
  show rd_lines_of (endsD Q) (startD N_lines_of [.tup [.str [108, 101, 116, 116, 101, 114], .tup [.tup [.str cSubj, .str ([115] ++ decs n)]], .tup [.str [108, 105, 110, 101, 115], .tup (List.replicate ln (.str (cWord ++ decs n)))]]]) S
  walk_at "dl"
  unfold comp2K dComp2
  walk_at "dl"
  refine ⟨cSubj, 115 :: decs n, by simp, by simp [cSubj]; omega, rfl, fun p hp => ?_⟩
  dsimp only
  rw [su_same]
  dsimp only
  have h' := Hd.mk h
  clear h
  refine comp_map id su_same _ [] (fun x hx R hR => by walk_at "dl"; exact hR) (by rw [List.length_singleton, List.length_nil]; omega) ⟨trivial, ?_⟩
  unfold dComp2
  intro q hq
  rw [if_pos (decide_eq_true rfl)]
  dsimp only
  rw [su_same]
  dsimp only
  have hS : Sle S (su (su S p (.lst [D.str (cSubj ++ [58, 32] ++ 115 :: decs n)])) q (.lst ([] ++ [D.str (cSubj ++ [58, 32] ++ 115 :: decs n)].map id))) := (Sle.new hp).trans (Sle.new hq)
  have el : ([] ++ [D.str (cSubj ++ [58, 32] ++ 115 :: decs n)].map id ++ D.str [] :: (List.replicate ln (D.str (cWord ++ decs n)) ++ [])) = (linesL n ln).map D.str := by simp [linesL]
  rw [el]
  refine ⟨by simp [linesL]; omega, fun r hr => ⟨_, sle_mono hS, h'.a r (sle_none hS hr)⟩⟩
theorem ok_write_letter : ∀ ds S Q, ds.length = 1 → sp_write_letter ds S Q → rd_write_letter (endsD Q) (startD N_write_letter ds) S := by
  rintro ds S Q - ⟨n, ln, h0, h1, hl, rfl, h⟩
  have sz := sz6
  walk_at "dl"
  refine ⟨n, ln, h0, h1, hl, rfl, fun p hp => ?_⟩
  dsimp only
  rw [su_same]
  dsimp only
  refine comp_map fNl su_same _ [] (fun x hx R hR => ?_) (by simp [linesL]; omega) ?_
  · obtain ⟨u, hu, rfl⟩ := List.mem_map.mp hx
    walk_at "dl"
    have := lin_len h0 h1 u hu
    exact ⟨by omega, hR⟩
  rw [List.nil_append, show ((linesL n ln).map D.str).map fNl = ((linesL n ln).map (· ++ [10])).map D.str by rw [List.map_map, List.map_map]; rfl, strsOf_map]
  dsimp only
  rw [lin_join n hl]
  refine ⟨?_, S, Sle.new hp, h⟩
  obtain ⟨d1, d2⟩ := decs2 h0 h1
  unfold joinOk
  rcases ln3 hl with rfl | rfl | rfl <;> (simp [linesL, cSubj, cWord, List.replicate]; omega)
theorem ok_size_of : ∀ ds S Q, ds.length = 1 → sp_size_of ds S Q → rd_size_of (endsD Q) (startD N_size_of ds) S := by
  rintro ds S Q - ⟨n, ln, h0, h1, hl, rfl, h⟩
  have sz := sz6
  walk_at "dl"
  refine ⟨n, ln, h0, h1, hl, rfl, ?_⟩
  exact ⟨txt_len h0 h1 hl, S, Sle.refl S, h⟩
theorem ok_llaw_text : ∀ ds S Q, ds.length = 1 → sp_llaw_text ds S Q → rd_llaw_text (endsD Q) (startD N_llaw_text ds) S := by
  rintro ds S Q - ⟨n, ln, h0, h1, hl, rfl, h⟩
  have sz := sz6
  obtain ⟨d1, d2⟩ := decs2 h0 h1
  show rd_llaw_text (endsD Q) (startD N_llaw_text [.tup [.str [108, 101, 116, 116, 101, 114], .tup [.tup [.str cSubj, .str ([115] ++ decs n)]], .tup [.str [108, 105, 110, 101, 115], .tup (List.replicate ln (.str (cWord ++ decs n)))]]]) S
  have at1 : ∀ a b c : D, atI [a, b, c] 1 = some b ∧ atI [a, b, c] 2 = some c := fun _ _ _ => ⟨rfl, rfl⟩
  have at2 : ∀ a b : D, atI [a, b] 1 = some b := fun _ _ => rfl
  have h' := Hd.mk h
  clear h
  walk_at "dl*"
  unfold loopK dLoop
  walk_at "dl*"
  have tl := txt_len h0 h1 hl
  have tl0 : (txtL n 0).length ≤ 30 := by simp [txtL, cSubj]; omega
  refine ⟨by simp [cSubj]; omega, by simp [cSubj]; omega, by simp [cSubj]; omega, by simp [cSubj]; omega, ?_⟩
  unfold dLoop
  walk_at "dl*"
  refine ⟨by simp [cSubj]; omega, ?_⟩
  refine loop_inv (fun xs δ S' => ∃ (k : Nat) (x2 : Option D), k + xs.length = ln ∧ xs = List.replicate xs.length (.str (cWord ++ decs n)) ∧ S' = S ∧ δ = [some (letD n ln), some (.str (txtL n k)), x2, some (.str cSubj), some (.str (115 :: decs n))]) ?_ ?_ ?_ _ _ _ ⟨0, none, ?_, ?_, rfl, ?_⟩
  · rintro x xs δ S' N ⟨k, x2, e1, e2, rfl, rfl⟩ hN
    rw [List.length_cons, List.replicate_succ] at e2
    injection e2 with e2 e3
    subst e2
    have tk := txt_k h0 h1 k
    have hN' := Hd.mk hN
    rw [List.length_cons] at e1
    walk_at "dl"
    refine ⟨by simp [cWord]; omega, by simp [cWord]; omega, hN'.a _ _ ⟨k + 1, some (.str (cWord ++ decs n)), by omega, e3, rfl, ?_⟩⟩
    rw [txt_succ, List.append_assoc (txtL n k) (cWord ++ decs n) [10]]
  · intro _ _ _ _; trivial
  · rintro δ S' ⟨k, x2, e1, _, rfl, rfl⟩
    rw [List.length_nil, Nat.add_zero] at e1
    subst e1
    walk_at "dl"
    exact ⟨S', Sle.refl S', h'.a⟩
  · rw [List.length_replicate, Nat.zero_add]
  · rw [List.length_replicate]
  · simp [txtL, cSubj, letD, cWord]
end LW

set_option Elab.async false
set_option linter.all false
set_option maxRecDepth 100000
set_option maxHeartbeats 4000000
namespace LW
open PySem PySem.Spec L2 DL
local macro_rules | `(tactic| walk_at "dl") => `(tactic| simp -implicitDefEqProofs only [↓dFmt, ↓dJsE, ↓dJs, ↓dSumL, ↓dAllL, ↓dAnyL, ↓dPartn, ↓dStrip, ↓dStripC, ↓dLower, ↓dUpper, ↓dRfind, ↓dCount, ↓okL, ↓dGunl, ↓dLc2_k, ↓dStarL, ↓dListT, ↓dTupT, ↓dSetK, ↓dSortS, ↓dEqL, ↓dOnL, ↓dTupRg, ↓dLstRg, ↓dInT, ↓dSetT, ↓dZipT, ↓dSetAll, ↓dEqO, ↓dMulT, ↓dSeq, ↓dIfS, ↓dTB, ↓dOp, ↓dVar, ↓dC, ↓dLt, ↓dLe, ↓dGt, ↓dGe, ↓rII, ↓rIIc, ↓dCB, ↓dCons, ↓dNil, ↓dLen, ↓dInt, ↓dRet, ↓dRetN, ↓dNext, ↓dIx, ↓dAt, ↓startD, List.map_cons, List.map_nil, List.cons_append, List.nil_append, List.append_nil, List.length_cons, List.length_nil, List.getElem?_cons_zero, List.getElem?_cons_succ, List.length_map, ↓dAsg, ↓dName, ↓dNew_k, ↓dLst, ↓dFor_k, ↓dRng1, ↓dRng2, ↓dCall_k, ↓dAdd, ↓dSub, ↓dMul, ↓dMod, ↓dFdiv, ↓dPow, ↓dEq, ↓dNe, ↓scd, ↓dIsN, ↓dNotN, ↓dIsB, ↓dNotB, ↓dUn, ↓dNeg, ↓dTru, ↓dTruS, ↓dAnd, ↓dOr, ↓dNot, ↓dNotV, ↓dAndV, ↓dOrV, ↓dIfE, ↓dTup, ↓dDrop, ↓dBM, ↓dBM0, ↓tyD, ↓dApp, ↓dSetL, ↓dAsL, ↓dOnL, ↓dOnN_k, ↓dIsi, ↓tyName, isT, ↓dBreak, ↓dCont, ↓dPar, ↓endsD, List.set_cons_zero, List.set_cons_succ, List.replicate_succ, List.replicate_zero, su_same, ↓dLc_k, ↓dWhile_k, ↓dWipe, ↓dYes, ↓dIt, ↓dItN, ↓dSlice, ↓dPart, ↓dNoP, ↓dCut, ↓dSliceE, ↓dIxL, ↓dChain, ↓dIn, ↓dNotIn, ↓dInS, ↓mS0, ↓mS1, ↓dSta, ↓dEnd, ↓dFind, ↓dIsasc, ↓dIsdig, ↓dIsalp, ↓dIsaln, ↓dIslow, ↓dIspri, ↓okT, ↓okU, ↓ok2, ↓dFind4, ↓dSplit, ↓dJoin, ↓dJoinT, ↓dMulS, ↓dCatL, ↓dCatE, ↓dCatR, ↓dCatEE, ↓dStar, ↓dIntS, ↓dStr, ↓dMax, ↓dMin, ↓dII, ↓dFld_m, ↓dSetF_m, ↓dMeth_m, ↓dMake_k, ↓dGtup, ↓dGcons, ↓dGnil, true_and, and_true, Nat.add_zero, reduceCtorEq, ↓reduceIte, Bool.not_true, Bool.not_false, Bool.false_eq_true, if_true, if_false])
local macro_rules | `(tactic| walk_at "dl*") => `(tactic| simp -implicitDefEqProofs only [*, ↓dFmt, ↓dJsE, ↓dJs, ↓dSumL, ↓dAllL, ↓dAnyL, ↓dPartn, ↓dStrip, ↓dStripC, ↓dLower, ↓dUpper, ↓dRfind, ↓dCount, ↓okL, ↓dGunl, ↓dLc2_k, ↓dStarL, ↓dListT, ↓dTupT, ↓dSetK, ↓dSortS, ↓dEqL, ↓dOnL, ↓dTupRg, ↓dLstRg, ↓dInT, ↓dSetT, ↓dZipT, ↓dSetAll, ↓dEqO, ↓dMulT, ↓dSeq, ↓dIfS, ↓dTB, ↓dOp, ↓dVar, ↓dC, ↓dLt, ↓dLe, ↓dGt, ↓dGe, ↓rII, ↓rIIc, ↓dCB, ↓dCons, ↓dNil, ↓dLen, ↓dInt, ↓dRet, ↓dRetN, ↓dNext, ↓dIx, ↓dAt, ↓startD, List.map_cons, List.map_nil, List.cons_append, List.nil_append, List.append_nil, List.length_cons, List.length_nil, List.getElem?_cons_zero, List.getElem?_cons_succ, List.length_map, ↓dAsg, ↓dName, ↓dNew_k, ↓dLst, ↓dFor_k, ↓dRng1, ↓dRng2, ↓dCall_k, ↓dAdd, ↓dSub, ↓dMul, ↓dMod, ↓dFdiv, ↓dPow, ↓dEq, ↓dNe, ↓scd, ↓dIsN, ↓dNotN, ↓dIsB, ↓dNotB, ↓dUn, ↓dNeg, ↓dTru, ↓dTruS, ↓dAnd, ↓dOr, ↓dNot, ↓dNotV, ↓dAndV, ↓dOrV, ↓dIfE, ↓dTup, ↓dDrop, ↓dBM, ↓dBM0, ↓tyD, ↓dApp, ↓dSetL, ↓dAsL, ↓dOnL, ↓dOnN_k, ↓dIsi, ↓tyName, isT, ↓dBreak, ↓dCont, ↓dPar, ↓endsD, List.set_cons_zero, List.set_cons_succ, List.replicate_succ, List.replicate_zero, su_same, ↓dLc_k, ↓dWhile_k, ↓dWipe, ↓dYes, ↓dIt, ↓dItN, ↓dSlice, ↓dPart, ↓dNoP, ↓dCut, ↓dSliceE, ↓dIxL, ↓dChain, ↓dIn, ↓dNotIn, ↓dInS, ↓mS0, ↓mS1, ↓dSta, ↓dEnd, ↓dFind, ↓dIsasc, ↓dIsdig, ↓dIsalp, ↓dIsaln, ↓dIslow, ↓dIspri, ↓okT, ↓okU, ↓ok2, ↓dFind4, ↓dSplit, ↓dJoin, ↓dJoinT, ↓dMulS, ↓dCatL, ↓dCatE, ↓dCatR, ↓dCatEE, ↓dStar, ↓dIntS, ↓dStr, ↓dMax, ↓dMin, ↓dII, ↓dFld_m, ↓dSetF_m, ↓dMeth_m, ↓dMake_k, ↓dGtup, ↓dGcons, ↓dGnil, true_and, and_true, Nat.add_zero, reduceCtorEq, ↓reduceIte, Bool.not_true, Bool.not_false, Bool.false_eq_true, if_true, if_false])
def llaw_take_k4 : SD := (dAsg (dNew (dOnN dSortP (dLc (dIt (dVar 2)) (dGtup (dGcons (dName 5) (dGcons (dName 4) dGnil)) 2) dYes (dTup (dCons (dVar 4) (dCons (dVar 5) dNil))) [5, 4]))) (dSetAll (dOp dIx (dVar 0) (dC (.int 4)))))
def llaw_take_k3 : SD := dSeq (dIfS (dTB (dOp dGt (dCB dLen (dCons (dVar 2) dNil)) (dC (.int 200)))) (dSeq (dAsg (dOp dIx (dOp dIx (dVar 2) (dOp dSub (dCB dLen (dCons (dVar 2) dNil)) (dC (.int 201)))) (dC (.int 0))) (dSetL (dVar 0) (dC (.int 2))))
  (dAsg (dNew (dSliceE (dVar 2) (dPart (dOp dSub (dCB dLen (dCons (dVar 2) dNil)) (dC (.int 200)))) dNoP)) (dName 2))) dNext) (llaw_take_k4)
def llaw_take_k2 : SD := dSeq (dAsg (dNew (dOnN dSortP (dCatL (dLc (dIt (dOp dIx (dVar 0) (dC (.int 4)))) (dGtup (dGcons (dName 4) (dGcons (dName 5) dGnil)) 2) dYes (dTup (dCons (dVar 5) (dCons (dVar 4) dNil))) [4, 5]) (dLc (dIt (dVar 1)) (dName 4) dYes (dTup (dCons (dOp dIx (dVar 0) (dC (.int 1))) (dCons (dVar 4) dNil))) [4])))) (dName 2)) (llaw_take_k3)
def llaw_take_k1 : SD := dSeq (dAsg (dNew (dLc (dIt (dOp dIx (dVar 0) (dC (.int 3)))) (dName 3) (dTB (dOp dNotIn (dOp dIx (dVar 3) (dC (.int 1))) (dVar 1))) (dVar 3) [3])) (dSetAll (dOp dIx (dVar 0) (dC (.int 3))))) (llaw_take_k2)
theorem cut_llaw_take : rd_llaw_take = dSeq (dAsg (dOp dAdd (dOp dIx (dVar 0) (dC (.int 1))) (dC (.int 1))) (dSetL (dVar 0) (dC (.int 1)))) (llaw_take_k1) := rfl
theorem ix5 : ixN (0 + 1 + 1 + 1 + 1 + 1) 1 = some 1 ∧ ixN (0 + 1 + 1 + 1 + 1 + 1) 0 = some 0 ∧ ixN (0 + 1 + 1 + 1 + 1 + 1) 2 = some 2 := ⟨rfl, rfl, rfl⟩
theorem at5 {a b c d e : D} : atI [a, b, c, d, e] 0 = some a ∧ atI [a, b, c, d, e] 1 = some b ∧ atI [a, b, c, d, e] 2 = some c ∧ atI [a, b, c, d, e] 3 = some d ∧ atI [a, b, c, d, e] 4 = some e := ⟨rfl, rfl, rfl, rfl, rfl⟩
/-! ### the one sorted list -/
theorem lex_tr (p q r : Int × Int) : lexle p q → lexle q r → lexle p r := by
  intro h1 h2
  show _ ∨ _
  have h1' : p.1 < q.1 ∨ (p.1 = q.1 ∧ p.2 ≤ q.2) := h1
  have h2' : q.1 < r.1 ∨ (q.1 = r.1 ∧ q.2 ≤ r.2) := h2
  omega
theorem lex_tot (p q : Int × Int) : lexle p q ∨ lexle q p := by
  show (_ ∨ _) ∨ (_ ∨ _)
  omega
theorem lex_anti (p q : Int × Int) (h1 : lexle p q) (h2 : lexle q p) : p = q := by
  have h1' : p.1 < q.1 ∨ (p.1 = q.1 ∧ p.2 ≤ q.2) := h1
  have h2' : q.1 < p.1 ∨ (q.1 = p.1 ∧ q.2 ≤ p.2) := h2
  exact Prod.ext (by omega) (by omega)
theorem srt_perm (ps : List (Int × Int)) : (srt ps).Perm ps := List.mergeSort_perm _ _
theorem srt_sorted (ps : List (Int × Int)) : (srt ps).Pairwise lexle := by
  have := List.pairwise_mergeSort (le := fun p q : Int × Int => decide (lexle p q)) (fun a b c h1 h2 => decide_eq_true (lex_tr a b c (of_decide_eq_true h1) (of_decide_eq_true h2))) (fun a b => by
    rcases lex_tot a b with h | h
    · rw [decide_eq_true h]; rfl
    · rw [decide_eq_true h, Bool.or_true]) ps
  exact this.imp fun h => of_decide_eq_true h
theorem srt_uniq : ∀ {l m : List (Int × Int)}, l.Perm m → l.Pairwise lexle → m.Pairwise lexle → l = m
  | [], m, h, _, _ => (List.Perm.eq_nil h.symm).symm
  | x :: l, [], h, _, _ => absurd h.length_eq (by simp)
  | x :: l, y :: m, h, h1, h2 => by
    have e : x = y := by
      rcases List.mem_cons.mp (h.mem_iff.mp (List.mem_cons_self (a := x) (l := l))) with e | hx
      · exact e
      · rcases List.mem_cons.mp (h.mem_iff.mpr (List.mem_cons_self (a := y) (l := m))) with e | hy
        · exact e.symm
        · exact lex_anti x y ((List.pairwise_cons.mp h1).1 y hy) ((List.pairwise_cons.mp h2).1 x hx)
    subst e
    rw [srt_uniq h.cons_inv (List.pairwise_cons.mp h1).2 (List.pairwise_cons.mp h2).2]
theorem srt_eq {qs ps : List (Int × Int)} (h : qs.Perm ps) (hs : qs.Pairwise lexle) : qs = srt ps := srt_uniq (h.trans (srt_perm ps).symm) hs (srt_sorted ps)
theorem sort_p {ps : List (Int × Int)} {S : Sh} {Q : List D → Sh → Prop} (h : Q ((srt ps).map pD) S) : dSortP (ps.map pD) S Q := by
  unfold dSortP
  rw [pairsOf_map]
  intro qs h1 h2
  rw [srt_eq h1 h2]
  exact h
theorem srt_len (ps : List (Int × Int)) : (srt ps).length = ps.length := (srt_perm ps).length_eq
theorem prs_len (ch : Int) (gone : List (Int × Int)) (xs : List Int) : (prs ch gone xs).length = gone.length + xs.length := by unfold prs; rw [srt_len, List.length_append, List.length_map, List.length_map]
/-! ### _law_take -/
def fSwp : D → D
  | .tup [a, b] => .tup [b, a]
  | _ => .non
theorem swp_map (ps : List (Int × Int)) : (ps.map pD).map fSwp = (ps.map swp).map pD := by rw [List.map_map, List.map_map]; rfl
theorem cut_from' {β : Type} {xs : List β} {a : Nat} : cutD xs (some (a : Int)) none = xs.drop a := by
  unfold cutD
  rw [HT.sIx_nat, HT.sIx_none, List.take_of_length_le (by rw [List.length_drop]; exact Nat.le_refl _)]
  by_cases h : a ≤ xs.length
  · rw [Nat.min_eq_left h]
  · rw [Nat.min_eq_right (by omega), List.drop_of_length_le (Nat.le_refl _), List.drop_of_length_le (by omega)]
theorem take_k4 {Q : QD} {S : Sh} {b p3 p4 pg pu : Addr} {nx ch fl : Int} {ps : List (Int × Int)} {L : List D} {x3 x4 x5 : Option D} (hb : S b = some (.lst [.int nx, .int ch, .int fl, .rf p3, .rf p4])) (h4 : S p4 = some (.lst L)) (hg : S pg = some (.lst (ps.map pD)))
    (hn : b ≠ p4) (hl : L.length + ps.length ≤ 2000) (h : ∀ S', S' p4 = some (.lst ((srt (ps.map swp)).map pD)) → (∀ q, q ≠ p4 → (∃ o, S q = some o) → S' q = S q) → Q .non S') :
    llaw_take_k4 (endsD Q) [some (.rf b), some (.rf pu), some (.rf pg), x3, x4, x5] S := by
  have sz := sz6
  have a4 := fun a b c d e => (at5 (a := a) (b := b) (c := c) (d := d) (e := e)).2.2.2.2
  have h' := Hd.mk h
  clear h
  unfold llaw_take_k4
  walk_at "dl*"
  refine comp_map fSwp hg _ [] (fun x hx R hR => ?_) (by rw [List.length_map, List.length_nil]; omega) ?_
  · obtain ⟨p, _, rfl⟩ := List.mem_map.mp hx
    walk_at "dl"
    exact ⟨by omega, hR⟩
  · rw [List.nil_append, swp_map]
    refine sort_p fun q hq => ?_
    have q1 : q ≠ b := fun e => by rw [e, hb] at hq; cases hq
    have q4 : q ≠ p4 := fun e => by rw [e, h4] at hq; cases hq
    have f1 : ∀ o, su S q o b = some (.lst [.int nx, .int ch, .int fl, .rf p3, .rf p4]) := fun o => by rw [su_ne (Ne.symm q1)]; exact hb
    have f2 : ∀ o, su S q o p4 = some (.lst L) := fun o => by rw [su_ne (Ne.symm q4)]; exact h4
    walk_at "dl*"
    refine ⟨Ne.symm q4, by rw [srt_len, List.length_map]; omega, _, Sle.refl _, h'.a _ su_same fun x x4 hx => ?_⟩
    rw [su_ne x4, su_ne (fun e => by obtain ⟨o, ho⟩ := hx; rw [e, hq] at ho; cases ho)]
theorem but_tr {b p3 p4 : Addr} {S S1 S2 : Sh} (h1 : But b p3 p4 S S1) (h2 : But b p3 p4 S1 S2) : But b p3 p4 S S2 := fun q q1 q2 q3 hq => by
  have e := h1 q q1 q2 q3 hq
  rw [h2 q q1 q2 q3 (by rw [e]; exact hq), e]
theorem flat_ints : ∀ ns : List Int, (ns.map D.int).all flatD = true
  | [] => rfl
  | n :: ns => by
    show (flatD (.int n) && (ns.map D.int).all flatD) = true
    rw [flat_ints ns]; rfl
theorem in_ints (u : Int) : ∀ ns : List Int, inD (.int u) (ns.map D.int) = decide (u ∈ ns)
  | [] => rfl
  | n :: ns => by
    show (eqD (.int n) (.int u) || inD (.int u) (ns.map D.int)) = _
    rw [in_ints u ns, Bool.eq_iff_iff]
    simp [eqD]
    constructor
    · rintro (h | h)
      · exact .inl h.symm
      · exact .inr h
    · rintro (h | h)
      · exact .inl h.symm
      · exact .inr h
theorem take_k3 {Q : QD} {S : Sh} {b p3 p4 pg pu : Addr} {nx ch fl : Int} {us : List Rc} {ps : List (Int × Int)} {L : List D} {x3 x4 x5 : Option D} (hb : S b = some (.lst [.int nx, .int ch, .int fl, .rf p3, .rf p4])) (h3 : S p3 = some (.lst (us.map recD))) (h4 : S p4 = some (.lst L)) (hg : S pg = some (.lst (ps.map pD)))
    (n3 : b ≠ p3) (n4 : b ≠ p4) (n34 : p3 ≠ p4) (ng : pg ≠ b) (hl : L.length ≤ 700) (hl2 : ps.length ≤ 700) (h : ∀ S', Mod S' b p3 p4 nx ch (flN fl ps) us (goneN ps) → But b p3 p4 S S' → Q .non S') :
    llaw_take_k3 (endsD Q) [some (.rf b), some (.rf pu), some (.rf pg), x3, x4, x5] S := by
  have sz := sz6
  obtain ⟨i1, i0, i2⟩ := ix5
  have h' := Hd.mk h
  have lp : (ps.map pD).length = ps.length := List.length_map ..
  clear h
  unfold llaw_take_k3
  have fin : ∀ (S1 : Sh) (f' : Int) (qs : List (Int × Int)), S1 b = some (.lst [.int nx, .int ch, .int f', .rf p3, .rf p4]) → S1 p3 = some (.lst (us.map recD)) → But b p3 p4 S S1 → f' = flN fl ps → qs = ps.drop (ps.length - 200) →
      ∀ S', S' p4 = some (.lst ((srt (qs.map swp)).map pD)) → (∀ q, q ≠ p4 → (∃ o, S1 q = some o) → S' q = S1 q) → Q .non S' := fun S1 f' qs e1 e2 e3 e4 e5 S' g1 g2 => by
    subst e4
    subst e5
    refine h'.a S' ⟨?_, ?_, g1, n3, n4, n34⟩ fun q q1 q2 q3 hq => ?_
    · rw [g2 b n4 ⟨_, e1⟩]; exact e1
    · rw [g2 p3 n34 ⟨_, e2⟩]; exact e2
    · have e := e3 q q1 q2 q3 hq
      rw [g2 q q3 (by rw [e]; exact hq), e]
  by_cases hlen : 200 < ps.length
  · have e1 : ps[ps.length - 201]? = some (ps[ps.length - 201]'(by omega)) := List.getElem?_eq_getElem _
    generalize ps[ps.length - 201]'(by omega) = p at e1
    have bg : atI (ps.map pD) ((ps.length : Int) - 201) = some (.tup [.int p.1, .int p.2]) := by
      rw [show (ps.length : Int) - 201 = ((ps.length - 201 : Nat) : Int) by omega]
      exact atI_nat (by rw [List.getElem?_map, e1]; rfl)
    have ef : flN fl ps = p.1 := by unfold flN; rw [if_pos hlen, e1]
    have a0 : atI [D.int p.1, D.int p.2] 0 = some (.int p.1) := rfl
    have sg : ∀ o, su S b o pg = some (.lst (ps.map pD)) := fun o => by rw [su_ne ng]; exact hg
    have hf := Hd.mk fin
    have he := Hd.mk ef
    have he1 := Hd.mk e1
    clear fin ef e1
    walk_at "dl*"
    refine ifb (fun _ => ?_) fun hx => absurd (by omega) hx
    intro q hq
    have q1 : q ≠ b := fun e => by rw [e, su_same] at hq; cases hq
    have q4 : q ≠ p4 := fun e => by rw [e, su_ne (Ne.symm n4), h4] at hq; cases hq
    have q3 : q ≠ p3 := fun e => by rw [e, su_ne (Ne.symm n3), h3] at hq; cases hq
    have hq0 := hq
    rw [su_ne q1] at hq0
    have ec : cutD (ps.map pD) (some ((ps.length : Int) - 200)) none = (ps.drop (ps.length - 200)).map pD := by
      rw [show (ps.length : Int) - 200 = ((ps.length - 200 : Nat) : Int) by omega, show cutD (ps.map pD) (some ((ps.length - 200 : Nat) : Int)) none = (ps.map pD).drop (ps.length - 200) from cut_from', List.map_drop]
    rw [ec]
    refine take_k4 (L := L) (by rw [su_ne (Ne.symm q1), su_same]) (by rw [su_ne (Ne.symm q4), su_ne (Ne.symm n4)]; exact h4) su_same n4 (by rw [List.length_drop]; omega) (hf.a _ _ _ (by rw [su_ne (Ne.symm q1), su_same]) (by rw [su_ne (Ne.symm q3), su_ne (Ne.symm n3)]; exact h3) (fun x x1 x2 x3 hx => ?_) he.a.symm rfl)
    rw [su_ne (fun e => by obtain ⟨o, ho⟩ := hx; rw [e, hq0] at ho; cases ho), su_ne x1]
  · have hf := Hd.mk fin
    clear fin
    walk_at "dl*"
    refine ifb (fun hx => absurd (by omega) hlen) fun _ => ?_
    refine take_k4 (L := L) hb h4 hg n4 (by omega) (hf.a S fl ps hb h3 (fun _ _ _ _ _ => rfl) ?_ ?_)
    · unfold flN; rw [if_neg hlen]
    · rw [show ps.length - 200 = 0 by omega, List.drop_zero]
def fNew (c : Int) : D → D
  | .int u => .tup [.int c, .int u]
  | _ => .non
def fOut (xs : List Int) : D → Bool
  | .tup (_ :: .int u :: _) => !decide (u ∈ xs)
  | _ => false
theorem out_map (us : List Rc) (xs : List Int) : ((us.map recD).filter (fOut xs)).map id = (out us xs).map recD := by
  rw [List.map_id, List.filter_map]; rfl
theorem take_k2 {Q : QD} {S : Sh} {b p3 p4 pu : Addr} {nx ch fl : Int} {us : List Rc} {xs : List Int} {gone : List (Int × Int)} {x2 x3 x4 x5 : Option D} (hb : S b = some (.lst [.int nx, .int (ch + 1), .int fl, .rf p3, .rf p4])) (h3 : S p3 = some (.lst (us.map recD))) (h4 : S p4 = some (.lst (gone.map pD))) (hu : S pu = some (.lst (xs.map D.int)))
    (n3 : b ≠ p3) (n4 : b ≠ p4) (n34 : p3 ≠ p4) (lx : xs.length ≤ 300) (lg : gone.length ≤ 300) (h : ∀ S', Mod S' b p3 p4 nx (ch + 1) (flN fl (prs ch gone xs)) us (goneN (prs ch gone xs)) → But b p3 p4 S S' → Q .non S') :
    llaw_take_k2 (endsD Q) [some (.rf b), some (.rf pu), x2, x3, x4, x5] S := by
  have sz := sz6
  have a1 := fun a b c d e => (at5 (a := a) (b := b) (c := c) (d := d) (e := e)).2.1
  have a4 := fun a b c d e => (at5 (a := a) (b := b) (c := c) (d := d) (e := e)).2.2.2.2
  have h' := Hd.mk h
  clear h
  unfold llaw_take_k2
  walk_at "dl*"
  refine comp_map fSwp h4 _ [] (fun x hx R hR => ?_) (by rw [List.length_map, List.length_nil]; omega) ?_
  · obtain ⟨p, _, rfl⟩ := List.mem_map.mp hx
    walk_at "dl"
    exact ⟨by omega, hR⟩
  rw [List.nil_append, swp_map]
  rw [hu]
  refine comp_map (fNew (ch + 1)) hu _ [] (fun x hx R hR => ?_) (by rw [List.length_map, List.length_nil]; omega) ?_
  · obtain ⟨u, _, rfl⟩ := List.mem_map.mp hx
    walk_at "dl*"
    exact ⟨by omega, hR⟩
  have el : (gone.map swp).map pD ++ ([] ++ (xs.map D.int).map (fNew (ch + 1))) = (gone.map swp ++ xs.map fun u => (ch + 1, u)).map pD := by
    rw [List.nil_append, List.map_append, List.map_map (l := xs), List.map_map (l := xs)]; rfl
  have ll : ((gone.map swp).map pD).length + ([] ++ (xs.map D.int).map (fNew (ch + 1))).length ≤ sizeLine := by
    rw [List.nil_append]; simp only [List.length_map]; omega
  refine ⟨ll, ?_⟩
  rw [el]
  refine sort_p fun q hq => ?_
  have q1 : q ≠ b := fun e => by rw [e, hb] at hq; cases hq
  have q3 : q ≠ p3 := fun e => by rw [e, h3] at hq; cases hq
  have q4 : q ≠ p4 := fun e => by rw [e, h4] at hq; cases hq
  refine take_k3 (L := gone.map pD) (ps := prs ch gone xs) (by rw [su_ne (Ne.symm q1)]; exact hb) (by rw [su_ne (Ne.symm q3)]; exact h3) (by rw [su_ne (Ne.symm q4)]; exact h4) su_same n3 n4 n34 q1 (by rw [List.length_map]; omega) (by rw [prs_len]; omega) fun S' g1 g2 => h'.a S' g1 fun x x1 x2 x3 hx => ?_
  have nx' : x ≠ q := fun e => by obtain ⟨o, ho⟩ := hx; rw [e, hq] at ho; cases ho
  have g := g2 x x1 x2 x3 (by rw [su_ne nx']; exact hx)
  rw [su_ne nx'] at g
  exact g
theorem take_k1 {Q : QD} {S : Sh} {b p3 p4 pu : Addr} {nx ch fl : Int} {us : List Rc} {xs : List Int} {gone : List (Int × Int)} {x2 x3 x4 x5 : Option D} (hb : S b = some (.lst [.int nx, .int (ch + 1), .int fl, .rf p3, .rf p4])) (h3 : S p3 = some (.lst (us.map recD))) (h4 : S p4 = some (.lst (gone.map pD))) (hu : S pu = some (.lst (xs.map D.int)))
    (n3 : b ≠ p3) (n4 : b ≠ p4) (n34 : p3 ≠ p4) (nu : pu ≠ p3) (lu : us.length ≤ 300) (lx : xs.length ≤ 300) (lg : gone.length ≤ 300) (h : ∀ S', Mod S' b p3 p4 nx (ch + 1) (flN fl (prs ch gone xs)) (out us xs) (goneN (prs ch gone xs)) → But b p3 p4 S S' → Q .non S') :
    llaw_take_k1 (endsD Q) [some (.rf b), some (.rf pu), x2, x3, x4, x5] S := by
  have sz := sz6
  have a3 := fun a b c d e => (at5 (a := a) (b := b) (c := c) (d := d) (e := e)).2.2.2.1
  have h' := Hd.mk h
  clear h
  unfold llaw_take_k1
  walk_at "dl*"
  refine comp_filter (fOut xs) id h3 _ [] (fun x hx Y Z hY hZ => ?_) (by rw [List.length_map, List.length_nil]; omega) ?_
  · obtain ⟨u, _, rfl⟩ := List.mem_map.mp hx
    have hY' := Hd.mk hY
    have hZ' := Hd.mk hZ
    have fi := flat_ints xs
    have ii := in_ints u.uid xs
    clear hY hZ
    show (dName 3) (.tup [.str [107, 101, 112, 116], .int u.uid, .int u.ch, .tup (u.fl.map D.str), .int u.tn, letD u.n u.ln]) _ S _
    have at1 : atI [D.str [107, 101, 112, 116], D.int u.uid, D.int u.ch, D.tup (u.fl.map D.str), D.int u.tn, letD u.n u.ln] 1 = some (.int u.uid) := rfl
    walk_at "dl*"
    refine ⟨rfl, ifB (fun y => hY'.a y) fun y => hZ'.a y⟩
  rw [List.nil_append, out_map]
  intro q hq
  have q1 : q ≠ b := fun e => by rw [e, hb] at hq; cases hq
  have q3 : q ≠ p3 := fun e => by rw [e, h3] at hq; cases hq
  have q4 : q ≠ p4 := fun e => by rw [e, h4] at hq; cases hq
  have qu : q ≠ pu := fun e => by rw [e, hu] at hq; cases hq
  have f1 : ∀ o, su S q o b = some (.lst [.int nx, .int (ch + 1), .int fl, .rf p3, .rf p4]) := fun o => by rw [su_ne (Ne.symm q1)]; exact hb
  have f3 : ∀ o, su S q o p3 = some (.lst (us.map recD)) := fun o => by rw [su_ne (Ne.symm q3)]; exact h3
  have lo : (out us xs).length ≤ us.length := List.length_filter_le _ _
  walk_at "dl*"
  refine ⟨Ne.symm q3, by omega, ?_⟩
  refine take_k2 (by rw [su_ne n3]; exact f1 _) su_same (by rw [su_ne (Ne.symm n34), su_ne (Ne.symm q4)]; exact h4) (by rw [su_ne nu, su_ne (Ne.symm qu)]; exact hu) n3 n4 n34 lx lg fun S' g1 g2 => h'.a S' g1 fun x x1 x2 x3 hx => ?_
  have nx' : x ≠ q := fun e => by obtain ⟨o, ho⟩ := hx; rw [e, hq] at ho; cases ho
  have g := g2 x x1 x2 x3 (by rw [su_ne x2, su_ne nx']; exact hx)
  rw [su_ne x2, su_ne nx'] at g
  exact g
theorem ok_llaw_take : ∀ ds S Q, ds.length = 2 → sp_llaw_take ds S Q → rd_llaw_take (endsD Q) (startD N_llaw_take ds) S := by
  rintro ds S Q - ⟨b, p3, p4, pu, nx, ch, fl, us, xs, gone, rfl, ⟨m1, m2, m3, m4, m5, m6⟩, hu, u1, u3, u4, lu, lx, lg, h⟩
  have sz := sz6
  obtain ⟨i1, i0, i2⟩ := ix5
  have a1 := fun a b c d e => (at5 (a := a) (b := b) (c := c) (d := d) (e := e)).2.1
  have h' := Hd.mk h
  clear h
  rw [cut_llaw_take]
  walk_at "dl*"
  refine take_k1 (Q := Q) su_same (by rw [su_ne (Ne.symm m4)]; exact m2) (by rw [su_ne (Ne.symm m5)]; exact m3) (by rw [su_ne u1]; exact hu) m4 m5 m6 u3 lu lx lg fun S' g1 g2 => h'.a S' g1 fun x x1 x2 x3 hx => ?_
  have g := g2 x x1 x2 x3 (by rw [su_ne x1]; exact hx)
  rw [su_ne x1] at g
  exact g
end LW

set_option Elab.async false
set_option linter.all false
set_option maxRecDepth 100000
set_option maxHeartbeats 4000000
namespace LW
open PySem PySem.Spec L2 DL
local macro_rules | `(tactic| walk_at "dl") => `(tactic| simp -implicitDefEqProofs only [↓dFmt, ↓dJsE, ↓dJs, ↓dSumL, ↓dAllL, ↓dAnyL, ↓dPartn, ↓dStrip, ↓dStripC, ↓dLower, ↓dUpper, ↓dRfind, ↓dCount, ↓okL, ↓dGunl, ↓dLc2_k, ↓dStarL, ↓dListT, ↓dTupT, ↓dSetK, ↓dSortS, ↓dEqL, ↓dOnL, ↓dTupRg, ↓dLstRg, ↓dInT, ↓dSetT, ↓dZipT, ↓dSetAll, ↓dEqO, ↓dMulT, ↓dSeq, ↓dIfS, ↓dTB, ↓dOp, ↓dVar, ↓dC, ↓dLt, ↓dLe, ↓dGt, ↓dGe, ↓rII, ↓rIIc, ↓dCB, ↓dCons, ↓dNil, ↓dLen, ↓dInt, ↓dRet, ↓dRetN, ↓dNext, ↓dIx, ↓dAt, ↓startD, List.map_cons, List.map_nil, List.cons_append, List.nil_append, List.append_nil, List.length_cons, List.length_nil, List.getElem?_cons_zero, List.getElem?_cons_succ, List.length_map, ↓dAsg, ↓dName, ↓dNew_k, ↓dLst, ↓dFor_k, ↓dRng1, ↓dRng2, ↓dCall_k, ↓dAdd, ↓dSub, ↓dMul, ↓dMod, ↓dFdiv, ↓dPow, ↓dEq, ↓dNe, ↓scd, ↓dIsN, ↓dNotN, ↓dIsB, ↓dNotB, ↓dUn, ↓dNeg, ↓dTru, ↓dTruS, ↓dAnd, ↓dOr, ↓dNot, ↓dNotV, ↓dAndV, ↓dOrV, ↓dIfE, ↓dTup, ↓dDrop, ↓dBM, ↓dBM0, ↓tyD, ↓dApp, ↓dSetL, ↓dAsL, ↓dOnL, ↓dOnN_k, ↓dIsi, ↓tyName, isT, ↓dBreak, ↓dCont, ↓dPar, ↓endsD, List.set_cons_zero, List.set_cons_succ, List.replicate_succ, List.replicate_zero, su_same, ↓dLc_k, ↓dWhile_k, ↓dWipe, ↓dYes, ↓dIt, ↓dItN, ↓dSlice, ↓dPart, ↓dNoP, ↓dCut, ↓dSliceE, ↓dIxL, ↓dChain, ↓dIn, ↓dNotIn, ↓dInS, ↓mS0, ↓mS1, ↓dSta, ↓dEnd, ↓dFind, ↓dIsasc, ↓dIsdig, ↓dIsalp, ↓dIsaln, ↓dIslow, ↓dIspri, ↓okT, ↓okU, ↓ok2, ↓dFind4, ↓dSplit, ↓dJoin, ↓dJoinT, ↓dMulS, ↓dCatL, ↓dCatE, ↓dCatR, ↓dCatEE, ↓dStar, ↓dIntS, ↓dStr, ↓dMax, ↓dMin, ↓dII, ↓dFld_m, ↓dSetF_m, ↓dMeth_m, ↓dMake_k, ↓dGtup, ↓dGcons, ↓dGnil, true_and, and_true, Nat.add_zero, reduceCtorEq, ↓reduceIte, Bool.not_true, Bool.not_false, Bool.false_eq_true, if_true, if_false])
local macro_rules | `(tactic| walk_at "dl*") => `(tactic| simp -implicitDefEqProofs only [*, ↓dFmt, ↓dJsE, ↓dJs, ↓dSumL, ↓dAllL, ↓dAnyL, ↓dPartn, ↓dStrip, ↓dStripC, ↓dLower, ↓dUpper, ↓dRfind, ↓dCount, ↓okL, ↓dGunl, ↓dLc2_k, ↓dStarL, ↓dListT, ↓dTupT, ↓dSetK, ↓dSortS, ↓dEqL, ↓dOnL, ↓dTupRg, ↓dLstRg, ↓dInT, ↓dSetT, ↓dZipT, ↓dSetAll, ↓dEqO, ↓dMulT, ↓dSeq, ↓dIfS, ↓dTB, ↓dOp, ↓dVar, ↓dC, ↓dLt, ↓dLe, ↓dGt, ↓dGe, ↓rII, ↓rIIc, ↓dCB, ↓dCons, ↓dNil, ↓dLen, ↓dInt, ↓dRet, ↓dRetN, ↓dNext, ↓dIx, ↓dAt, ↓startD, List.map_cons, List.map_nil, List.cons_append, List.nil_append, List.append_nil, List.length_cons, List.length_nil, List.getElem?_cons_zero, List.getElem?_cons_succ, List.length_map, ↓dAsg, ↓dName, ↓dNew_k, ↓dLst, ↓dFor_k, ↓dRng1, ↓dRng2, ↓dCall_k, ↓dAdd, ↓dSub, ↓dMul, ↓dMod, ↓dFdiv, ↓dPow, ↓dEq, ↓dNe, ↓scd, ↓dIsN, ↓dNotN, ↓dIsB, ↓dNotB, ↓dUn, ↓dNeg, ↓dTru, ↓dTruS, ↓dAnd, ↓dOr, ↓dNot, ↓dNotV, ↓dAndV, ↓dOrV, ↓dIfE, ↓dTup, ↓dDrop, ↓dBM, ↓dBM0, ↓tyD, ↓dApp, ↓dSetL, ↓dAsL, ↓dOnL, ↓dOnN_k, ↓dIsi, ↓tyName, isT, ↓dBreak, ↓dCont, ↓dPar, ↓endsD, List.set_cons_zero, List.set_cons_succ, List.replicate_succ, List.replicate_zero, su_same, ↓dLc_k, ↓dWhile_k, ↓dWipe, ↓dYes, ↓dIt, ↓dItN, ↓dSlice, ↓dPart, ↓dNoP, ↓dCut, ↓dSliceE, ↓dIxL, ↓dChain, ↓dIn, ↓dNotIn, ↓dInS, ↓mS0, ↓mS1, ↓dSta, ↓dEnd, ↓dFind, ↓dIsasc, ↓dIsdig, ↓dIsalp, ↓dIsaln, ↓dIslow, ↓dIspri, ↓okT, ↓okU, ↓ok2, ↓dFind4, ↓dSplit, ↓dJoin, ↓dJoinT, ↓dMulS, ↓dCatL, ↓dCatE, ↓dCatR, ↓dCatEE, ↓dStar, ↓dIntS, ↓dStr, ↓dMax, ↓dMin, ↓dII, ↓dFld_m, ↓dSetF_m, ↓dMeth_m, ↓dMake_k, ↓dGtup, ↓dGcons, ↓dGnil, true_and, and_true, Nat.add_zero, reduceCtorEq, ↓reduceIte, Bool.not_true, Bool.not_false, Bool.false_eq_true, if_true, if_false])
def taken_out_k9 (w : World) : SD := (dRet (dTup (dCons (dC (.str [98, 111, 120])) (dCons (dVar 9) (dCons (dVar 2) (dCons (dVar 10) (dCons (dVar 4) (dCons (dVar 7) dNil))))))))
def taken_out_k8 (w : World) : SD := dSeq (dAsg (dOnL (fun ds S Q => Q (.tup ds) S) (dOnN dSortP (dLc (dItN (dSliceE (dVar 5) (dPart (dUn dNeg (dC (.int 200)))) dNoP)) (dGtup (dGcons (dName 14) (dGcons (dName 13) dGnil)) 2) dYes (dTup (dCons (dVar 13) (dCons (dVar 14) dNil))) [14, 13]))) (dName 7)) (taken_out_k9 w)
def taken_out_k7 (w : World) : SD := dSeq (dIfS (dTru (dVar 6)) (dAsg (dCB dMax (dCons (dVar 10) (dCons (dOp dIx (dOp dIx (dVar 6) (dUn dNeg (dC (.int 1)))) (dC (.int 0))) dNil))) (dName 10)) dNext) (taken_out_k8 w)
def taken_out_k6 (w : World) : SD := dSeq (dAsg (dNew (dSliceE (dVar 5) dNoP (dPart (dUn dNeg (dC (.int 200)))))) (dName 6)) (taken_out_k7 w)
def taken_out_k5 (w : World) : SD := dSeq (dAsg (dNew (dOnN dSortP (dCatL (dLc (dIt (dVar 7)) (dGtup (dGcons (dName 13) (dGcons (dName 14) dGnil)) 2) dYes (dTup (dCons (dVar 14) (dCons (dVar 13) dNil))) [13, 14]) (dLc (dIt (dVar 1)) (dName 13) dYes (dTup (dCons (dVar 2) (dCons (dVar 13) dNil))) [13])))) (dName 5)) (taken_out_k6 w)
def taken_out_k4 (w : World) : SD := dSeq (dAsg (dOnL (fun ds S Q => Q (.tup ds) S) (dLc (dIt (dVar 11)) (dName 12) (dTB (dOp (dInT w true) (dOp dIx (dVar 12) (dC (.int 1))) (dVar 3))) (dVar 12) [12])) (dName 4)) (taken_out_k5 w)
def taken_out_k3 (w : World) : SD := dSeq (dAsg (dCB (dSetT w) (dCons (dVar 1) dNil)) (dName 3)) (taken_out_k4 w)
def taken_out_k2 (w : World) : SD := dSeq (dAsg (dOp dAdd (dVar 2) (dC (.int 1))) (dName 2)) (taken_out_k3 w)
def taken_out_k1 (w : World) : SD := dSeq (dAsg (dVar 0) (dGtup (dGcons (dName 8) (dGcons (dName 9) (dGcons (dName 2) (dGcons (dName 10) (dGcons (dName 11) (dGcons (dName 7) dGnil)))))) 6)) (taken_out_k2 w)
theorem cut_taken_out (w : World) : rd_taken_out w = dSeq (dIfS (dNot (dTru (dVar 1))) (dRet (dVar 0)) dNext) (taken_out_k1 w) := rfl
theorem sIx_m200 (n d : Nat) : HT.sIx n d (some (-200)) = n - 200 := by
  show (if (-200 : Int) < 0 then ((-200 : Int) + (n : Int)).toNat else min (-200 : Int).toNat n) = _
  rw [if_pos (by decide)]
  omega
theorem cut_m200 {β : Type} {xs : List β} : cutD xs none (some (-200)) = xs.take (xs.length - 200) := by
  unfold cutD
  rw [sIx_m200, HT.sIx_none, List.drop_zero, Nat.sub_zero]
theorem cut_m200' {β : Type} {xs : List β} : cutD xs (some (-200)) none = xs.drop (xs.length - 200) := by
  unfold cutD
  rw [sIx_m200, HT.sIx_none, List.take_of_length_le (by rw [List.length_drop]; exact Nat.le_refl _)]
theorem at_lastD {xs : List D} {x : D} : atI (xs ++ [x]) (-1) = some x := by
  unfold atI ixN
  rw [if_neg (by decide), if_pos (by rw [List.length_append, List.length_singleton]; omega)]
  show (xs ++ [x])[((-1 : Int) + ((xs ++ [x]).length : Nat)).toNat]? = some x
  rw [show ((-1 : Int) + ((xs ++ [x]).length : Nat)).toNat = xs.length by rw [List.length_append, List.length_singleton]; omega, List.getElem?_append_right (Nat.le_refl _), Nat.sub_self]
  rfl
theorem mem_i {u : Int} {xs : List Int} : decide (Ky.i u ∈ xs.map Ky.i) = decide (u ∈ xs) := by
  rw [Bool.eq_iff_iff, decide_eq_true_eq, decide_eq_true_eq, List.mem_map]
  exact ⟨fun ⟨j, h, e⟩ => by cases e; exact h, fun h => ⟨u, h, rfl⟩⟩
theorem ok_taken_out {w : World} : ∀ ds S Q, ds.length = 2 → sp_taken_out ds S Q → rd_taken_out w (endsD Q) (startD N_taken_out ds) S := by
  rintro ds S Q - ⟨nx, ch, fl, us, xs, gone, rfl, hx, lu, lx, lg, hf, hg, h⟩
  have sz := sz6
  have h' := Hd.mk h
  clear h
  obtain ⟨x, r, rfl⟩ : ∃ x r, xs = x :: r := by cases xs with | nil => exact absurd rfl hx | cons x r => exact ⟨x, r, rfl⟩
  rw [cut_taken_out]
  show dSeq _ _ (endsD Q) [some (.tup [.str cBox, .int nx, .int ch, .int fl, .tup (us.map recD), .tup (gone.map pD)]), some (.tup (.int x :: r.map D.int)), none, none, none, none, none, none, none, none, none, none, none, none, none] S
  walk_at "dl"
  unfold taken_out_k1
  walk_at "dl"
  unfold taken_out_k2
  walk_at "dl"
  unfold taken_out_k3
  have lxr : (x :: r).length ≤ 300 := lx
  rw [List.length_cons] at lx
  have exs : D.int x :: r.map D.int = (x :: r).map D.int := rfl
  walk_at "dl"
  rw [exs]
  rw [kysOf_ints, if_neg (by simp)]
  dsimp only
  refine ⟨by rw [List.length_map, List.length_cons]; unfold scanBound; omega, ?_⟩
  clear exs
  generalize x :: r = xs at *
  unfold taken_out_k4
  walk_at "dl"
  refine comp_filter (fOut xs) id (S := S) trivial _ [] (fun y hy Y Z hY hZ => ?_) (by rw [List.length_map, List.length_nil]; omega) ?_
  · obtain ⟨u, _, rfl⟩ := List.mem_map.mp hy
    have at1 : atI [D.str [107, 101, 112, 116], D.int u.uid, D.int u.ch, D.tup (u.fl.map D.str), D.int u.tn, letD u.n u.ln] 1 = some (.int u.uid) := rfl
    have hY' := Hd.mk hY
    have hZ' := Hd.mk hZ
    clear hY hZ
    show (dName 12) (.tup [.str [107, 101, 112, 116], .int u.uid, .int u.ch, .tup (u.fl.map D.str), .int u.tn, letD u.n u.ln]) _ S _
    walk_at "dl*"
    refine ⟨rfl, ?_⟩
    rw [mem_i]
    exact ifB (fun y => hY'.a y) fun y => hZ'.a y
  rw [List.nil_append, out_map]
  unfold taken_out_k5
  walk_at "dl"
  refine comp_map fSwp trivial _ [] (fun y hy R hR => ?_) (by rw [List.length_map, List.length_nil]; omega) ?_
  · obtain ⟨p, _, rfl⟩ := List.mem_map.mp hy
    walk_at "dl"
    exact ⟨by omega, hR⟩
  rw [List.nil_append, swp_map]
  refine comp_map (fNew (ch + 1)) trivial _ [] (fun y hy R hR => ?_) (by rw [List.length_map, List.length_nil]; omega) ?_
  · obtain ⟨u, _, rfl⟩ := List.mem_map.mp hy
    walk_at "dl"
    exact ⟨by omega, hR⟩
  have el : (gone.map swp).map pD ++ ([] ++ (xs.map D.int).map (fNew (ch + 1))) = (gone.map swp ++ xs.map fun u => (ch + 1, u)).map pD := by
    rw [List.nil_append, List.map_append, List.map_map (l := xs), List.map_map (l := xs)]; rfl
  have ll : ((gone.map swp).map pD).length + ([] ++ (xs.map D.int).map (fNew (ch + 1))).length ≤ sizeLine := by
    rw [List.nil_append]; simp only [List.length_map]; omega
  refine ⟨ll, ?_⟩
  rw [el]
  refine sort_p fun q hq => ?_
  show taken_out_k6 w (endsD Q) _ (su S q (.lst ((prs ch gone xs).map pD)))
  have lp := prs_len ch gone xs
  have hge : ∀ p ∈ prs ch gone xs, fl ≤ p.1 := fun p hp => by
    rcases List.mem_append.mp ((srt_perm _).mem_iff.mp hp) with z | z
    · obtain ⟨g, hg', rfl⟩ := List.mem_map.mp z
      exact hg g hg'
    · obtain ⟨u, _, rfl⟩ := List.mem_map.mp z
      show fl ≤ ch + 1
      omega
  generalize prs ch gone xs = ps at *
  have lp2 : (ps.map pD).length = ps.length := List.length_map ..
  unfold taken_out_k6
  walk_at "dl*"
  intro q2 hq2
  have nq : q2 ≠ q := fun e => by rw [e, su_same] at hq2; cases hq2
  have hS2 : su S q (MO.lst (ps.map pD)) q2 = none := hq2
  rw [cut_m200]
  generalize hS3 : su (su S q (MO.lst (ps.map pD))) q2 (MO.lst ((ps.map pD).take ((ps.map pD).length - 200))) = S3
  have gq : S3 q = some (.lst (ps.map pD)) := by rw [← hS3, su_ne (Ne.symm nq), su_same]
  have gq2 : S3 q2 = some (.lst ((ps.take (ps.length - 200)).map pD)) := by rw [← hS3, su_same, List.map_take, lp2]
  have sle : Sle S S3 := by rw [← hS3]; exact (Sle.new hq).trans (Sle.new hS2)
  have last : ∀ f' : Int, f' = flN fl ps → taken_out_k8 w (endsD Q) [some (D.tup [D.str cBox, D.int nx, D.int ch, D.int fl, D.tup (List.map recD us), D.tup (List.map pD gone)]), some (D.tup (List.map D.int xs)), some (D.int (ch + 1)), some (D.kst w (xs.map Ky.i)),
      some (D.tup (List.map recD (out us xs))), some (D.rf q), some (D.rf q2), some (D.tup (List.map pD gone)), some (D.str cBox), some (D.int nx), some (D.int f'), some (D.tup (List.map recD us)), none, none, none] S3 := fun f' hf' => by
    subst hf'
    unfold taken_out_k8
    walk_at "dl*"
    rw [cut_m200', lp2, ← List.map_drop]
    refine comp_map fSwp trivial _ [] (fun y hy R hR => ?_) (by rw [List.length_map, List.length_drop, List.length_nil]; omega) ?_
    · obtain ⟨p, _, rfl⟩ := List.mem_map.mp hy
      walk_at "dl"
      exact ⟨by omega, hR⟩
    rw [List.nil_append, swp_map]
    refine sort_p ?_
    unfold taken_out_k9
    walk_at "dl"
    exact ⟨by omega, S, sle, h'.a⟩
  unfold taken_out_k7
  by_cases hlen : 200 < ps.length
  · have e1 : ps[ps.length - 201]? = some (ps[ps.length - 201]'(by omega)) := List.getElem?_eq_getElem _
    have hp : fl ≤ (ps[ps.length - 201]'(by omega)).1 := hge _ (List.getElem_mem _)
    generalize ps[ps.length - 201]'(by omega) = p at e1 hp
    have et : ps.take (ps.length - 200) = ps.take (ps.length - 201) ++ [p] := by
      rw [show ps.length - 200 = (ps.length - 201) + 1 by omega, List.take_succ, e1]; rfl
    rw [et, List.map_append, List.map_singleton] at gq2
    have ea : atI ((ps.take (ps.length - 201)).map pD ++ [pD p]) (-1) = some (.tup [.int p.1, .int p.2]) := at_lastD
    have a0 : atI [D.int p.1, D.int p.2] 0 = some (.int p.1) := rfl
    have ne : ((ps.take (ps.length - 201)).map pD ++ [pD p]).isEmpty = false := by simp
    have ef : (if p.1 > fl then p.1 else fl) = flN fl ps := by
      unfold flN
      rw [if_pos hlen, e1]
      by_cases h : p.1 > fl
      · rw [if_pos h]
      · rw [if_neg h]; show fl = p.1; omega
    have := last _ ef
    have last' := Hd.mk this
    generalize (ps.take (ps.length - 201)).map pD = A at gq2 ea ne
    clear last this ef e1 lp et
    walk_at "dl*"
    exact last'.a
  · have e0 : ps.length - 200 = 0 := by omega
    rw [e0, List.take_zero] at gq2
    have := last fl (by unfold flN; rw [if_neg hlen])
    have last' := Hd.mk this
    clear last this
    walk_at "dl*"
    exact last'.a
end LW

set_option Elab.async false
set_option linter.all false
set_option maxRecDepth 100000
set_option maxHeartbeats 4000000
namespace LW
open PySem PySem.Spec L2 DL
local macro_rules | `(tactic| walk_at "dl") => `(tactic| simp -implicitDefEqProofs only [↓dFmt, ↓dJsE, ↓dJs, ↓dSumL, ↓dAllL, ↓dAnyL, ↓dPartn, ↓dStrip, ↓dStripC, ↓dLower, ↓dUpper, ↓dRfind, ↓dCount, ↓okL, ↓dGunl, ↓dLc2_k, ↓dStarL, ↓dListT, ↓dTupT, ↓dSetK, ↓dSortS, ↓dEqL, ↓dOnL, ↓dTupRg, ↓dLstRg, ↓dInT, ↓dSetT, ↓dZipT, ↓dSetAll, ↓dEqO, ↓dMulT, ↓dSeq, ↓dIfS, ↓dTB, ↓dOp, ↓dVar, ↓dC, ↓dLt, ↓dLe, ↓dGt, ↓dGe, ↓rII, ↓rIIc, ↓dCB, ↓dCons, ↓dNil, ↓dLen, ↓dInt, ↓dRet, ↓dRetN, ↓dNext, ↓dIx, ↓dAt, ↓startD, List.map_cons, List.map_nil, List.cons_append, List.nil_append, List.append_nil, List.length_cons, List.length_nil, List.getElem?_cons_zero, List.getElem?_cons_succ, List.length_map, ↓dAsg, ↓dName, ↓dNew_k, ↓dLst, ↓dFor_k, ↓dRng1, ↓dRng2, ↓dCall_k, ↓dAdd, ↓dSub, ↓dMul, ↓dMod, ↓dFdiv, ↓dPow, ↓dEq, ↓dNe, ↓scd, ↓dIsN, ↓dNotN, ↓dIsB, ↓dNotB, ↓dUn, ↓dNeg, ↓dTru, ↓dTruS, ↓dAnd, ↓dOr, ↓dNot, ↓dNotV, ↓dAndV, ↓dOrV, ↓dIfE, ↓dTup, ↓dDrop, ↓dBM, ↓dBM0, ↓tyD, ↓dApp, ↓dSetL, ↓dAsL, ↓dOnL, ↓dOnN_k, ↓dIsi, ↓tyName, isT, ↓dBreak, ↓dCont, ↓dPar, ↓endsD, List.set_cons_zero, List.set_cons_succ, List.replicate_succ, List.replicate_zero, su_same, ↓dLc_k, ↓dWhile_k, ↓dWipe, ↓dYes, ↓dIt, ↓dItN, ↓dSlice, ↓dPart, ↓dNoP, ↓dCut, ↓dSliceE, ↓dIxL, ↓dChain, ↓dIn, ↓dNotIn, ↓dInS, ↓mS0, ↓mS1, ↓dSta, ↓dEnd, ↓dFind, ↓dIsasc, ↓dIsdig, ↓dIsalp, ↓dIsaln, ↓dIslow, ↓dIspri, ↓okT, ↓okU, ↓ok2, ↓dFind4, ↓dSplit, ↓dJoin, ↓dJoinT, ↓dMulS, ↓dCatL, ↓dCatE, ↓dCatR, ↓dCatEE, ↓dStar, ↓dIntS, ↓dStr, ↓dMax, ↓dMin, ↓dII, ↓dFld_m, ↓dSetF_m, ↓dMeth_m, ↓dMake_k, ↓dGtup, ↓dGcons, ↓dGnil, true_and, and_true, Nat.add_zero, reduceCtorEq, ↓reduceIte, Bool.not_true, Bool.not_false, Bool.false_eq_true, if_true, if_false])
local macro_rules | `(tactic| walk_at "dl*") => `(tactic| simp -implicitDefEqProofs only [*, ↓dFmt, ↓dJsE, ↓dJs, ↓dSumL, ↓dAllL, ↓dAnyL, ↓dPartn, ↓dStrip, ↓dStripC, ↓dLower, ↓dUpper, ↓dRfind, ↓dCount, ↓okL, ↓dGunl, ↓dLc2_k, ↓dStarL, ↓dListT, ↓dTupT, ↓dSetK, ↓dSortS, ↓dEqL, ↓dOnL, ↓dTupRg, ↓dLstRg, ↓dInT, ↓dSetT, ↓dZipT, ↓dSetAll, ↓dEqO, ↓dMulT, ↓dSeq, ↓dIfS, ↓dTB, ↓dOp, ↓dVar, ↓dC, ↓dLt, ↓dLe, ↓dGt, ↓dGe, ↓rII, ↓rIIc, ↓dCB, ↓dCons, ↓dNil, ↓dLen, ↓dInt, ↓dRet, ↓dRetN, ↓dNext, ↓dIx, ↓dAt, ↓startD, List.map_cons, List.map_nil, List.cons_append, List.nil_append, List.append_nil, List.length_cons, List.length_nil, List.getElem?_cons_zero, List.getElem?_cons_succ, List.length_map, ↓dAsg, ↓dName, ↓dNew_k, ↓dLst, ↓dFor_k, ↓dRng1, ↓dRng2, ↓dCall_k, ↓dAdd, ↓dSub, ↓dMul, ↓dMod, ↓dFdiv, ↓dPow, ↓dEq, ↓dNe, ↓scd, ↓dIsN, ↓dNotN, ↓dIsB, ↓dNotB, ↓dUn, ↓dNeg, ↓dTru, ↓dTruS, ↓dAnd, ↓dOr, ↓dNot, ↓dNotV, ↓dAndV, ↓dOrV, ↓dIfE, ↓dTup, ↓dDrop, ↓dBM, ↓dBM0, ↓tyD, ↓dApp, ↓dSetL, ↓dAsL, ↓dOnL, ↓dOnN_k, ↓dIsi, ↓tyName, isT, ↓dBreak, ↓dCont, ↓dPar, ↓endsD, List.set_cons_zero, List.set_cons_succ, List.replicate_succ, List.replicate_zero, su_same, ↓dLc_k, ↓dWhile_k, ↓dWipe, ↓dYes, ↓dIt, ↓dItN, ↓dSlice, ↓dPart, ↓dNoP, ↓dCut, ↓dSliceE, ↓dIxL, ↓dChain, ↓dIn, ↓dNotIn, ↓dInS, ↓mS0, ↓mS1, ↓dSta, ↓dEnd, ↓dFind, ↓dIsasc, ↓dIsdig, ↓dIsalp, ↓dIsaln, ↓dIslow, ↓dIspri, ↓okT, ↓okU, ↓ok2, ↓dFind4, ↓dSplit, ↓dJoin, ↓dJoinT, ↓dMulS, ↓dCatL, ↓dCatE, ↓dCatR, ↓dCatEE, ↓dStar, ↓dIntS, ↓dStr, ↓dMax, ↓dMin, ↓dII, ↓dFld_m, ↓dSetF_m, ↓dMeth_m, ↓dMake_k, ↓dGtup, ↓dGcons, ↓dGnil, true_and, and_true, Nat.add_zero, reduceCtorEq, ↓reduceIte, Bool.not_true, Bool.not_false, Bool.false_eq_true, if_true, if_false])

/-! ### plain data made of ints, texts and tuples -/
mutual
def psd : D → Bool
  | .int _ => true
  | .str s => s.all (· < 1114112)
  | .tup xs => psds xs
  | _ => false
def psds : List D → Bool
  | [] => true
  | x :: xs => psd x && psds xs
end
theorem psds_of : ∀ {xs : List D}, (∀ x ∈ xs, psd x = true) → psds xs = true
  | [], _ => rfl
  | x :: xs, h => by show (psd x && psds xs) = true; rw [h x (List.mem_cons_self ..), psds_of fun y hy => h y (List.mem_cons_of_mem _ hy)]; rfl
mutual
theorem py_psd : ∀ a : D, psd a = true → ∃ x, toPy a = some x ∧ PyData.canLay0 x = true ∧ PyData.depth x ≤ dep a + 1
  | .int i, _ => ⟨.int i, rfl, rfl, by first | exact Nat.le_refl 1 | exact Nat.zero_le 1⟩
  | .str s, h => ⟨.str ⟨s.toArray⟩, rfl, by
      show (tx s).cps.all (· < 0x110000) = true
      rw [← Array.all_toList]
      exact h, by first | exact Nat.le_refl 1 | exact Nat.zero_le 1⟩
  | .tup xs, h => by
    obtain ⟨ys, e, c, d⟩ := pys_psd xs h
    refine ⟨.tuple ys, by unfold toPy; rw [e]; rfl, c, ?_⟩
    show PyData.depthAll ys + 1 ≤ deps xs + 1 + 1
    omega
  | .non, h => by cases h
  | .bl _, h => by cases h
  | .frz _, h => by cases h
  | .rf _, h => by cases h
  | .ty _, h => by cases h
  | .kst _ _, h => by cases h
theorem pys_psd : ∀ xs : List D, psds xs = true → ∃ ys, toPys xs = some ys ∧ PyData.canLayAll0 ys = true ∧ PyData.depthAll ys ≤ deps xs + 1
  | [], _ => ⟨[], rfl, rfl, Nat.zero_le _⟩
  | x :: xs, h => by
    have h' : (psd x && psds xs) = true := h
    rw [Bool.and_eq_true] at h'
    obtain ⟨y, e1, c1, d1⟩ := py_psd x h'.1
    obtain ⟨ys, e2, c2, d2⟩ := pys_psd xs h'.2
    refine ⟨y :: ys, by unfold toPys; rw [e1, e2], ?_, ?_⟩
    · show (PyData.canLay0 y && PyData.canLayAll0 ys) = true
      rw [c1, c2]; rfl
    · show max (PyData.depth y) (PyData.depthAll ys) ≤ max (dep x) (deps xs) + 1
      omega
end
mutual
theorem eqv_psd : ∀ (a b : D) (x y : PyData), psd a = true → psd b = true → toPy a = some x → toPy b = some y → (PyData.eqv x y = true ↔ a = b)
  | .int i, .int j, x, y, _, _, e1, e2 => by
    cases e1; cases e2
    show (i == j) = true ↔ _
    simp
  | .str i, .str j, x, y, _, _, e1, e2 => by
    cases e1; cases e2
    show ((⟨i.toArray⟩ : Str) == ⟨j.toArray⟩) = true ↔ _
    simp [str_inj]
  | .tup xs, .tup ys, x, y, h1, h2, e1, e2 => by
    unfold toPy at e1 e2
    cases g1 : toPys xs with
    | none => rw [g1] at e1; cases e1
    | some us =>
      cases g2 : toPys ys with
      | none => rw [g2] at e2; cases e2
      | some vs =>
        rw [g1] at e1; rw [g2] at e2
        cases e1; cases e2
        have := eqvs_psd xs ys us vs h1 h2 g1 g2
        show PyData.eqvAll us vs = true ↔ _
        rw [this]
        exact ⟨fun e => (by rw [e]), fun e => (by injection e)⟩
  | .int i, .str j, x, y, _, _, e1, e2 => by
    cases e1; cases e2
    exact ⟨fun h => (by cases h), fun h => (by cases h)⟩
  | .str i, .int j, x, y, _, _, e1, e2 => by
    cases e1; cases e2
    exact ⟨fun h => (by cases h), fun h => (by cases h)⟩
  | .int i, .tup ys, x, y, _, _, e1, e2 => by
    cases e1
    unfold toPy at e2
    cases g2 : toPys ys with
    | none => rw [g2] at e2; cases e2
    | some vs => rw [g2] at e2; cases e2; exact ⟨fun h => (by cases h), fun h => (by cases h)⟩
  | .str i, .tup ys, x, y, _, _, e1, e2 => by
    cases e1
    unfold toPy at e2
    cases g2 : toPys ys with
    | none => rw [g2] at e2; cases e2
    | some vs => rw [g2] at e2; cases e2; exact ⟨fun h => (by cases h), fun h => (by cases h)⟩
  | .tup ys, .int i, x, y, _, _, e2, e1 => by
    cases e1
    unfold toPy at e2
    cases g2 : toPys ys with
    | none => rw [g2] at e2; cases e2
    | some vs => rw [g2] at e2; cases e2; exact ⟨fun h => (by cases h), fun h => (by cases h)⟩
  | .tup ys, .str i, x, y, _, _, e2, e1 => by
    cases e1
    unfold toPy at e2
    cases g2 : toPys ys with
    | none => rw [g2] at e2; cases e2
    | some vs => rw [g2] at e2; cases e2; exact ⟨fun h => (by cases h), fun h => (by cases h)⟩
  | .non, _, _, _, h, _, _, _ => by cases h
  | .bl _, _, _, _, h, _, _, _ => by cases h
  | .frz _, _, _, _, h, _, _, _ => by cases h
  | .rf _, _, _, _, h, _, _, _ => by cases h
  | .ty _, _, _, _, h, _, _, _ => by cases h
  | .kst _ _, _, _, _, h, _, _, _ => by cases h
  | .int _, .non, _, _, _, h, _, _ => by cases h
  | .int _, .bl _, _, _, _, h, _, _ => by cases h
  | .int _, .frz _, _, _, _, h, _, _ => by cases h
  | .int _, .rf _, _, _, _, h, _, _ => by cases h
  | .int _, .ty _, _, _, _, h, _, _ => by cases h
  | .int _, .kst _ _, _, _, _, h, _, _ => by cases h
  | .str _, .non, _, _, _, h, _, _ => by cases h
  | .str _, .bl _, _, _, _, h, _, _ => by cases h
  | .str _, .frz _, _, _, _, h, _, _ => by cases h
  | .str _, .rf _, _, _, _, h, _, _ => by cases h
  | .str _, .ty _, _, _, _, h, _, _ => by cases h
  | .str _, .kst _ _, _, _, _, h, _, _ => by cases h
  | .tup _, .non, _, _, _, h, _, _ => by cases h
  | .tup _, .bl _, _, _, _, h, _, _ => by cases h
  | .tup _, .frz _, _, _, _, h, _, _ => by cases h
  | .tup _, .rf _, _, _, _, h, _, _ => by cases h
  | .tup _, .ty _, _, _, _, h, _, _ => by cases h
  | .tup _, .kst _ _, _, _, _, h, _, _ => by cases h
theorem eqvs_psd : ∀ (a b : List D) (x y : List PyData), psds a = true → psds b = true → toPys a = some x → toPys b = some y → (PyData.eqvAll x y = true ↔ a = b)
  | [], [], x, y, _, _, e1, e2 => by cases e1; cases e2; exact ⟨fun _ => rfl, fun _ => rfl⟩
  | [], b :: bs, x, y, _, h, e1, e2 => by
    cases e1
    obtain ⟨z, e3, _, _⟩ := pys_psd (b :: bs) h
    unfold toPys at e2
    cases g1 : toPy b with
    | none => rw [g1] at e2; cases e2
    | some u =>
      cases g2 : toPys bs with
      | none => rw [g1, g2] at e2; cases e2
      | some v => rw [g1, g2] at e2; cases e2; exact ⟨fun h => (by cases h), fun h => (by cases h)⟩
  | b :: bs, [], x, y, h, _, e2, e1 => by
    cases e1
    unfold toPys at e2
    cases g1 : toPy b with
    | none => rw [g1] at e2; cases e2
    | some u =>
      cases g2 : toPys bs with
      | none => rw [g1, g2] at e2; cases e2
      | some v => rw [g1, g2] at e2; cases e2; exact ⟨fun h => (by cases h), fun h => (by cases h)⟩
  | a :: as, b :: bs, x, y, h1, h2, e1, e2 => by
    have h1' : (psd a && psds as) = true := h1
    have h2' : (psd b && psds bs) = true := h2
    rw [Bool.and_eq_true] at h1' h2'
    unfold toPys at e1 e2
    cases g1 : toPy b with
    | none => rw [g1] at e2; cases e2
    | some u =>
      cases g2 : toPys bs with
      | none => rw [g1, g2] at e2; cases e2
      | some v =>
        rw [g1, g2] at e2; cases e2
        cases g3 : toPy a with
        | none => rw [g3] at e1; cases e1
        | some u' =>
          cases g4 : toPys as with
          | none => rw [g3, g4] at e1; cases e1
          | some v' =>
            rw [g3, g4] at e1; cases e1
            show (PyData.eqv u' u && PyData.eqvAll v' v) = true ↔ _
            rw [Bool.and_eq_true, eqv_psd a b u' u h1'.1 h2'.1 g3 g1, eqvs_psd as bs v' v h1'.2 h2'.2 g4 g2]
            exact ⟨fun ⟨p, q⟩ => (by rw [p, q]), fun e => (by injection e with p q; exact ⟨p, q⟩)⟩
end
theorem eqT_psd {a b : D} (ha : psd a = true) (hb : psd b = true) (da : dep a ≤ 60) (db : dep b ≤ 60) {S : Sh} {Q : QD} (h1 : a = b → Q (.bl true) S) (h2 : a ≠ b → Q (.bl false) S) : dEqT a b S Q := by
  obtain ⟨x, e1, c1, d1⟩ := py_psd a ha
  obtain ⟨y, e2, c2, d2⟩ := py_psd b hb
  have key := eqv_psd a b x y ha hb e1 e2
  unfold dEqT
  rw [e1, e2]
  refine ⟨?_, ?_, ?_⟩
  · show (PyData.canLay0 x && decide (PyData.depth x ≤ 64)) = true
    rw [c1, decide_eq_true (by omega)]; rfl
  · show (PyData.canLay0 y && decide (PyData.depth y ≤ 64)) = true
    rw [c2, decide_eq_true (by omega)]; rfl
  · show Q (.bl (PyData.eqv x y)) S
    cases e : PyData.eqv x y with
    | true => exact h1 (key.mp e)
    | false => exact h2 fun z => by rw [key.mpr z] at e; cases e
end LW

set_option Elab.async false
set_option linter.all false
set_option maxRecDepth 100000
set_option maxHeartbeats 4000000
namespace LW
open PySem PySem.Spec L2 DL
local macro_rules | `(tactic| walk_at "dl") => `(tactic| simp -implicitDefEqProofs only [↓dFmt, ↓dJsE, ↓dJs, ↓dSumL, ↓dAllL, ↓dAnyL, ↓dPartn, ↓dStrip, ↓dStripC, ↓dLower, ↓dUpper, ↓dRfind, ↓dCount, ↓okL, ↓dGunl, ↓dLc2_k, ↓dStarL, ↓dListT, ↓dTupT, ↓dSetK, ↓dSortS, ↓dEqL, ↓dOnL, ↓dTupRg, ↓dLstRg, ↓dInT, ↓dSetT, ↓dZipT, ↓dSetAll, ↓dEqO, ↓dMulT, ↓dSeq, ↓dIfS, ↓dTB, ↓dOp, ↓dVar, ↓dC, ↓dLt, ↓dLe, ↓dGt, ↓dGe, ↓rII, ↓rIIc, ↓dCB, ↓dCons, ↓dNil, ↓dLen, ↓dInt, ↓dRet, ↓dRetN, ↓dNext, ↓dIx, ↓dAt, ↓startD, List.map_cons, List.map_nil, List.cons_append, List.nil_append, List.append_nil, List.length_cons, List.length_nil, List.getElem?_cons_zero, List.getElem?_cons_succ, List.length_map, ↓dAsg, ↓dName, ↓dNew_k, ↓dLst, ↓dFor_k, ↓dRng1, ↓dRng2, ↓dCall_k, ↓dAdd, ↓dSub, ↓dMul, ↓dMod, ↓dFdiv, ↓dPow, ↓dEq, ↓dNe, ↓scd, ↓dIsN, ↓dNotN, ↓dIsB, ↓dNotB, ↓dUn, ↓dNeg, ↓dTru, ↓dTruS, ↓dAnd, ↓dOr, ↓dNot, ↓dNotV, ↓dAndV, ↓dOrV, ↓dIfE, ↓dTup, ↓dDrop, ↓dBM, ↓dBM0, ↓tyD, ↓dApp, ↓dSetL, ↓dAsL, ↓dOnL, ↓dOnN_k, ↓dIsi, ↓tyName, isT, ↓dBreak, ↓dCont, ↓dPar, ↓endsD, List.set_cons_zero, List.set_cons_succ, List.replicate_succ, List.replicate_zero, su_same, ↓dLc_k, ↓dWhile_k, ↓dWipe, ↓dYes, ↓dIt, ↓dItN, ↓dSlice, ↓dPart, ↓dNoP, ↓dCut, ↓dSliceE, ↓dIxL, ↓dChain, ↓dIn, ↓dNotIn, ↓dInS, ↓mS0, ↓mS1, ↓dSta, ↓dEnd, ↓dFind, ↓dIsasc, ↓dIsdig, ↓dIsalp, ↓dIsaln, ↓dIslow, ↓dIspri, ↓okT, ↓okU, ↓ok2, ↓dFind4, ↓dSplit, ↓dJoin, ↓dJoinT, ↓dMulS, ↓dCatL, ↓dCatE, ↓dCatR, ↓dCatEE, ↓dStar, ↓dIntS, ↓dStr, ↓dMax, ↓dMin, ↓dII, ↓dFld_m, ↓dSetF_m, ↓dMeth_m, ↓dMake_k, ↓dGtup, ↓dGcons, ↓dGnil, true_and, and_true, Nat.add_zero, reduceCtorEq, ↓reduceIte, Bool.not_true, Bool.not_false, Bool.false_eq_true, if_true, if_false])
local macro_rules | `(tactic| walk_at "dl*") => `(tactic| simp -implicitDefEqProofs only [*, ↓dFmt, ↓dJsE, ↓dJs, ↓dSumL, ↓dAllL, ↓dAnyL, ↓dPartn, ↓dStrip, ↓dStripC, ↓dLower, ↓dUpper, ↓dRfind, ↓dCount, ↓okL, ↓dGunl, ↓dLc2_k, ↓dStarL, ↓dListT, ↓dTupT, ↓dSetK, ↓dSortS, ↓dEqL, ↓dOnL, ↓dTupRg, ↓dLstRg, ↓dInT, ↓dSetT, ↓dZipT, ↓dSetAll, ↓dEqO, ↓dMulT, ↓dSeq, ↓dIfS, ↓dTB, ↓dOp, ↓dVar, ↓dC, ↓dLt, ↓dLe, ↓dGt, ↓dGe, ↓rII, ↓rIIc, ↓dCB, ↓dCons, ↓dNil, ↓dLen, ↓dInt, ↓dRet, ↓dRetN, ↓dNext, ↓dIx, ↓dAt, ↓startD, List.map_cons, List.map_nil, List.cons_append, List.nil_append, List.append_nil, List.length_cons, List.length_nil, List.getElem?_cons_zero, List.getElem?_cons_succ, List.length_map, ↓dAsg, ↓dName, ↓dNew_k, ↓dLst, ↓dFor_k, ↓dRng1, ↓dRng2, ↓dCall_k, ↓dAdd, ↓dSub, ↓dMul, ↓dMod, ↓dFdiv, ↓dPow, ↓dEq, ↓dNe, ↓scd, ↓dIsN, ↓dNotN, ↓dIsB, ↓dNotB, ↓dUn, ↓dNeg, ↓dTru, ↓dTruS, ↓dAnd, ↓dOr, ↓dNot, ↓dNotV, ↓dAndV, ↓dOrV, ↓dIfE, ↓dTup, ↓dDrop, ↓dBM, ↓dBM0, ↓tyD, ↓dApp, ↓dSetL, ↓dAsL, ↓dOnL, ↓dOnN_k, ↓dIsi, ↓tyName, isT, ↓dBreak, ↓dCont, ↓dPar, ↓endsD, List.set_cons_zero, List.set_cons_succ, List.replicate_succ, List.replicate_zero, su_same, ↓dLc_k, ↓dWhile_k, ↓dWipe, ↓dYes, ↓dIt, ↓dItN, ↓dSlice, ↓dPart, ↓dNoP, ↓dCut, ↓dSliceE, ↓dIxL, ↓dChain, ↓dIn, ↓dNotIn, ↓dInS, ↓mS0, ↓mS1, ↓dSta, ↓dEnd, ↓dFind, ↓dIsasc, ↓dIsdig, ↓dIsalp, ↓dIsaln, ↓dIslow, ↓dIspri, ↓okT, ↓okU, ↓ok2, ↓dFind4, ↓dSplit, ↓dJoin, ↓dJoinT, ↓dMulS, ↓dCatL, ↓dCatE, ↓dCatR, ↓dCatEE, ↓dStar, ↓dIntS, ↓dStr, ↓dMax, ↓dMin, ↓dII, ↓dFld_m, ↓dSetF_m, ↓dMeth_m, ↓dMake_k, ↓dGtup, ↓dGcons, ↓dGnil, true_and, and_true, Nat.add_zero, reduceCtorEq, ↓reduceIte, Bool.not_true, Bool.not_false, Bool.false_eq_true, if_true, if_false])

/-- no test; over any list -/
theorem comp_mapA {α : Type} (g f : α → D) {γ : GD} {τ : ED} {δ : Sl} {ck : Sh → Prop} {Q : List D → Sh → Prop} {S : Sh} (hc : ck S) : ∀ (xs : List α) (acc : List D), (∀ x ∈ xs, ∀ R : QD, R (f x) S → γ (g x) δ S fun δ1 S1 => τ δ1 S1 R) → acc.length + xs.length ≤ sizeLine → Q (acc ++ xs.map f) S →
    dComp γ dYes τ δ ck Q (xs.map g) acc S
  | [], acc, _, _, q => by rw [List.map_nil, List.append_nil] at q; exact q
  | x :: xs, acc, h, hl, q => by
    rw [List.length_cons] at hl
    refine h x List.mem_cons_self _ ⟨by omega, hc, comp_mapA g f hc xs (acc ++ [f x]) (fun y hy => h y (List.mem_cons_of_mem _ hy)) (by rw [List.length_append, List.length_singleton]; omega) ?_⟩
    rw [List.append_assoc]
    exact q
def zrec (r : Rc) : D := .tup [.int r.uid, .tup [.tup (r.fl.map D.str), .int r.tn, letD r.n r.ln]]
theorem rng_cons (lo : Int) (n : Nat) : rng lo (n + 1) = .int lo :: rng (lo + 1) n := by
  unfold rng
  rw [List.range_succ_eq_map, List.map_cons, List.map_map]
  congr 1
  · show D.int (lo + ((0 : Nat) : Int)) = _
    rw [Int.natCast_zero, Int.add_zero]
  · refine List.map_congr_left fun k _ => ?_
    show D.int (lo + ((k + 1 : Nat) : Int)) = .int (lo + 1 + (k : Int))
    congr 1; omega
theorem zip_put (ch : Int) : ∀ (ws : List Rw) (nx : Int), zipD (rng nx ws.length) (ws.map rowD) = (putR nx ch ws).map zrec
  | [], nx => rfl
  | w :: ws, nx => by
    rw [List.length_cons, rng_cons, List.map_cons, zipD, zip_put ch ws (nx + 1)]; rfl
theorem put_len (ch : Int) : ∀ (ws : List Rw) (nx : Int), (putR nx ch ws).length = ws.length
  | [], _ => rfl
  | w :: ws, nx => by rw [putR, List.length_cons, List.length_cons, put_len ch ws]
theorem put_ch {ch : Int} : ∀ {ws : List Rw} {nx : Int} {r : Rc}, r ∈ putR nx ch ws → r.ch = ch
  | [], _, r, h => by cases h
  | w :: ws, nx, r, h => by
    rcases List.mem_cons.mp h with rfl | h
    · rfl
    · exact put_ch h
theorem rng_uids (nx : Int) (k : Nat) : rng nx k = (uidsP nx k).map D.int := by unfold rng uidsP; rw [List.map_map]; rfl
theorem flat_strs : ∀ ns : List (List Nat), (ns.map D.str).all flatD = true
  | [] => rfl
  | n :: ns => by
    show (flatD (.str n) && (ns.map D.str).all flatD) = true
    rw [flat_strs ns]; rfl
theorem in_strs (u : List Nat) : ∀ ns : List (List Nat), inD (.str u) (ns.map D.str) = decide (u ∈ ns)
  | [] => rfl
  | n :: ns => by
    show (eqD (.str n) (.str u) || inD (.str u) (ns.map D.str)) = _
    rw [in_strs u ns, Bool.eq_iff_iff, Bool.or_eq_true, decide_eq_true_eq, decide_eq_true_eq, List.mem_cons, show eqD (.str n) (.str u) = (n == u) from rfl, beq_iff_eq]
    exact ⟨fun h => h.imp Eq.symm id, fun h => h.imp Eq.symm id⟩
theorem sort_strs {S : Sh} {Q : List D → Sh → Prop} : ∀ ss : List (List Nat), Q ((usort ltCps ss).map D.str) S → dSortKs (ss.map Ky.s) S Q
  | [], h => h
  | s :: ss, h => by
    unfold dSortKs
    rw [show kint ((s :: ss).map Ky.s) = none from rfl]
    dsimp only
    rw [kstr_map]
    exact h
def fKeep (fl : List (List Nat)) : D → Bool
  | .str f => !decide (f ∈ fl)
  | _ => false
theorem ok_put_in : ∀ ds S Q, ds.length = 2 → sp_put_in ds S Q → rd_put_in (endsD Q) (startD N_put_in ds) S := by
  rintro ds S Q - ⟨nx, ch, fl, rs, gone, ws, rfl, l1, l2, n1, n2, h⟩
  have sz := sz6
  show rd_put_in (endsD Q) (startD N_put_in [.tup [.str cBox, .int nx, .int ch, .int fl, .tup (rs.map recD), .tup (gone.map pD)], .tup (ws.map rowD)]) S
  have h' := Hd.mk h
  clear h
  walk_at "dl"
  have e1 : (nx + (ws.length : Int) - nx).toNat = ws.length := by omega
  have e2 : (nx + ((List.map rowD ws).length : Int) - nx).toNat = ws.length := by rw [List.length_map]; omega
  rw [e1, e2, zip_put (ch + 1)]
  refine ⟨⟨by omega, by omega, by omega, by omega, by omega⟩, ?_⟩
  refine comp_mapA zrec recD trivial _ [] (fun r hr R hR => ?_) (by rw [put_len, List.length_nil]; omega) ?_
  · have hR' := Hd.mk hR
    clear hR
    show (dGtup (dGcons (dName 10) (dGcons (dName 11) dGnil)) 2) (.tup [.int r.uid, .tup [.tup (r.fl.map D.str), .int r.tn, letD r.n r.ln]]) _ S _
    walk_at "dl"
    have e := put_ch hr
    refine ⟨by omega, ?_⟩
    have := hR'.a
    unfold recD at this
    rw [e] at this
    exact this
  · intro q hq
    dsimp only
    rw [su_same]
    dsimp only
    rw [List.nil_append]
    refine ⟨by rw [List.length_map, List.length_map, put_len]; omega, by omega, by omega, S, Sle.new hq, ?_⟩
    rw [List.length_map, rng_uids, ← List.map_append]
    exact h'.a
theorem ok_new_flags {w : World} : ∀ ds S Q, ds.length = 3 → sp_new_flags ds S Q → rd_new_flags w (endsD Q) (startD N_new_flags ds) S := by
  rintro ds S Q - ⟨old, m, fl, rfl, l1, l2, h⟩
  have sz := sz6
  have h' := Hd.mk h
  clear h
  walk_at "dl"
  refine ifb (fun z => ⟨by omega, ?_⟩) fun z => ifb (fun z2 => ?_) fun z2 => ⟨S, Sle.refl S, ?_⟩
  · rw [← List.map_append, kysOf_strs]
    dsimp only
    refine ⟨by rw [List.length_map, List.length_append]; unfold scanBound; omega, sort_strs _ ⟨S, Sle.refl S, ?_⟩⟩
    have := h'.a
    unfold nf cAdd at this
    rw [if_pos z] at this
    exact this
  · refine comp_filter (fKeep fl) id (S := S) trivial _ [] (fun y hy Y Z hY hZ => ?_) (by rw [List.length_map, List.length_nil]; omega) ?_
    · obtain ⟨f, _, rfl⟩ := List.mem_map.mp hy
      have hY' := Hd.mk hY
      have hZ' := Hd.mk hZ
      have fi := flat_strs fl
      have ii := in_strs f fl
      clear hY hZ
      walk_at "dl*"
      refine ⟨rfl, ifB (fun y => hY'.a y) fun y => hZ'.a y⟩
    · refine ⟨S, Sle.refl S, ?_⟩
      have := h'.a
      unfold nf cAdd cDrop at this
      rw [if_neg z, if_pos z2] at this
      rw [List.nil_append, List.map_id, List.filter_map]
      exact this
  · have := h'.a
    unfold nf cAdd cDrop at this
    rw [if_neg z, if_neg z2] at this
    exact this
theorem nf_abc {old : List (List Nat)} {m : List Nat} {fl : List (List Nat)} (h1 : Abc old) (h2 : Abc fl) : Abc (nf old m fl) := fun f hf => by
  unfold nf at hf
  by_cases z : m = cAdd
  · rw [if_pos z] at hf
    rcases List.mem_append.mp ((mem_usort slo_S).mp hf) with h | h
    · exact h1 f h
    · exact h2 f h
  · rw [if_neg z] at hf
    by_cases z2 : m = cDrop
    · rw [if_pos z2] at hf
      exact h1 f (List.mem_filter.mp hf).1
    · rw [if_neg z2] at hf
      exact h2 f hf
theorem psd_strs {fs : List (List Nat)} (h : Abc fs) : psd (.tup (fs.map D.str)) = true := psds_of fun x hx => by
  obtain ⟨f, hf, rfl⟩ := List.mem_map.mp hx
  have := h f hf
  simp only [List.mem_cons, List.not_mem_nil, or_false] at this
  rcases this with rfl | rfl | rfl <;> rfl
theorem deps_strs : ∀ fs : List (List Nat), deps (fs.map D.str) = 0
  | [] => rfl
  | f :: fs => by
    show max 0 (deps (fs.map D.str)) = 0
    rw [deps_strs fs]; rfl
theorem dep_strsD (fs : List (List Nat)) : dep (.tup (fs.map D.str)) = 1 := by
  show deps (fs.map D.str) + 1 = 1
  rw [deps_strs]
theorem str_map_inj : ∀ {a b : List (List Nat)}, a.map D.str = b.map D.str → a = b
  | [], [], _ => rfl
  | [], _ :: _, h => by cases h
  | _ :: _, [], h => by cases h
  | x :: xs, y :: ys, h => by
    rw [List.map_cons, List.map_cons] at h
    injection h with h1 h2
    injection h1 with h1
    rw [h1, str_map_inj h2]
theorem ok_with_flags : ∀ ds S Q, ds.length = 4 → sp_with_flags ds S Q → rd_with_flags (endsD Q) (startD N_with_flags ds) S := by
  rintro ds S Q - ⟨r, c, m, fl, rfl, ro, ab, l2, h⟩
  have sz := sz6
  have h' := Hd.mk h
  clear h
  show rd_with_flags (endsD Q) (startD N_with_flags [.tup [.str [107, 101, 112, 116], .int r.uid, .int r.ch, .tup (r.fl.map D.str), .int r.tn, letD r.n r.ln], .int c, .str m, .tup (fl.map D.str)]) S
  walk_at "dl"
  refine ⟨r.fl, m, fl, rfl, ro.fl, l2, ?_⟩
  have na := nf_abc (m := m) ro.abc ab
  refine eqT_psd (psd_strs na) (psd_strs ro.abc) (by rw [dep_strsD]; decide) (by rw [dep_strsD]; decide) (fun e => ?_) fun e => ?_
  · have e' : nf r.fl m fl = r.fl := str_map_inj (by injection e)
    have := h'.a
    unfold wf at this
    rw [if_pos e'] at this
    exact ⟨S, Sle.refl S, this⟩
  · have e' : nf r.fl m fl ≠ r.fl := fun z => e (by rw [z])
    have := h'.a
    unfold wf at this
    rw [if_neg e'] at this
    exact ⟨by omega, S, Sle.refl S, this⟩
theorem ok_record_of : ∀ ds S Q, ds.length = 2 → sp_record_of ds S Q → rd_record_of (endsD Q) (startD N_record_of ds) S := by
  rintro ds S Q - ⟨nx, ch, fl, u, rs, gone, rfl, h⟩
  have sz := sz6
  have h' := Hd.mk h
  clear h
  have t4 : atI [D.str cBox, D.int nx, D.int ch, D.int fl, D.tup (rs.map recD), D.tup (gone.map pD)] 4 = some (.tup (rs.map recD)) := rfl
  show rd_record_of (endsD Q) (startD N_record_of [.tup [.str cBox, .int nx, .int ch, .int fl, .tup (rs.map recD), .tup (gone.map pD)], .int u]) S
  walk_at "dl*"
  refine loop_inv (fun xs δ S' => ∃ (l : List Rc) (x2 : Option D), xs = l.map recD ∧ S' = S ∧ δ = [some (D.tup [D.str cBox, D.int nx, D.int ch, D.int fl, D.tup (rs.map recD), D.tup (gone.map pD)]), some (.int u), x2] ∧ l.find? (fun r => decide (r.uid = u)) = rs.find? (fun r => decide (r.uid = u))) ?_ (fun _ _ _ _ => trivial) ?_ _ _ _ ⟨rs, none, rfl, rfl, rfl, rfl⟩
  · rintro x xs δ S' N ⟨l, x2, e1, rfl, rfl, e2⟩ hN
    cases l with
    | nil => cases e1
    | cons r l =>
      rw [List.map_cons] at e1
      injection e1 with e3 e4
      subst e3
      subst e4
      have hN' := Hd.mk hN
      clear hN
      rw [List.find?_cons] at e2
      have e2' := Hd.mk e2
      clear e2
      have t1 : atI [D.str [107, 101, 112, 116], D.int r.uid, D.int r.ch, D.tup (r.fl.map D.str), D.int r.tn, letD r.n r.ln] 1 = some (.int r.uid) := rfl
      show (dName 2) (.tup [.str [107, 101, 112, 116], .int r.uid, .int r.ch, .tup (r.fl.map D.str), .int r.tn, letD r.n r.ln]) _ S' _
      walk_at "dl*"
      refine ifb (fun z => ⟨S', Sle.refl S', ?_⟩) fun z => ?_
      · have := e2'.a
        rw [decide_eq_true z] at this
        have h2 := h'.a
        rw [← this] at h2
        exact h2
      · refine hN'.a _ _ ⟨l, _, rfl, rfl, rfl, ?_⟩
        have := e2'.a
        rw [decide_eq_false z] at this
        exact this
  · rintro δ S' ⟨l, x2, e1, rfl, rfl, e2⟩
    cases l with
    | cons r l => cases e1
    | nil =>
      have h2 := h'.a
      rw [← e2] at h2
      have h2' := Hd.mk h2
      clear h2
      walk_at "dl*"
      exact ⟨S', Sle.refl S', h2'.a⟩
theorem ok_signs_of : ∀ ds S Q, ds.length = 1 → sp_signs_of ds S Q → rd_signs_of (endsD Q) (startD N_signs_of ds) S := by
  rintro ds S Q - ⟨nx, ch, fl, rs, gone, rfl, ro, l1, h⟩
  have sz := sz6
  have h' := Hd.mk h
  clear h
  have t4 : atI [D.str cBox, D.int nx, D.int ch, D.int fl, D.tup (rs.map recD), D.tup (gone.map pD)] 4 = some (.tup (rs.map recD)) := rfl
  show rd_signs_of (endsD Q) (startD N_signs_of [.tup [.str cBox, .int nx, .int ch, .int fl, .tup (rs.map recD), .tup (gone.map pD)]]) S
  walk_at "dl*"
  refine comp_mapA recD (fun r => .int (txtL r.n r.ln).length) trivial _ [] (fun r hr R hR => ?_) (by rw [List.length_nil]; omega) ?_
  · have hR' := Hd.mk hR
    clear hR
    have t5 : atI [D.str [107, 101, 112, 116], D.int r.uid, D.int r.ch, D.tup (r.fl.map D.str), D.int r.tn, letD r.n r.ln] 5 = some (letD r.n r.ln) := rfl
    show (dName 1) (.tup [.str [107, 101, 112, 116], .int r.uid, .int r.ch, .tup (r.fl.map D.str), .int r.tn, letD r.n r.ln]) _ S _
    walk_at "dl*"
    exact ⟨r.n, r.ln, (ro r hr).n0, (ro r hr).n1, (ro r hr).ln, rfl, hR'.a⟩
  · rw [List.nil_append, show (rs.map fun r => D.int ((txtL r.n r.ln).length : Int)) = (rs.map fun r => ((txtL r.n r.ln).length : Int)).map D.int by rw [List.map_map]; rfl, intsOf_map]
    exact ⟨S, Sle.refl S, h'.a⟩
theorem ok_has_room : ∀ ds S Q, ds.length = 2 → sp_has_room ds S Q → rd_has_room (endsD Q) (startD N_has_room ds) S := by
  rintro ds S Q - ⟨nx, ch, fl, rs, gone, ns, rfl, ro, l1, l2, h⟩
  have sz := sz6
  have h' := Hd.mk h
  clear h
  have t4 : atI [D.str cBox, D.int nx, D.int ch, D.int fl, D.tup (rs.map recD), D.tup (gone.map pD)] 4 = some (.tup (rs.map recD)) := rfl
  show rd_has_room (endsD Q) (startD N_has_room [.tup [.str cBox, .int nx, .int ch, .int fl, .tup (rs.map recD), .tup (gone.map pD)], .tup (ns.map D.int)]) S
  walk_at "dl*"
  refine ⟨nx, ch, fl, rs, gone, rfl, ro, l1, ?_⟩
  unfold dSumT
  dsimp only
  rw [intsOf_map]
  dsimp only
  refine ⟨rfl, _, _, rfl, S, Sle.refl S, ?_⟩
  rw [List.length_map, List.length_map]
  exact h'.a
theorem ok_llaw_told : ∀ ds S Q, ds.length = 1 → sp_llaw_told ds S Q → rd_llaw_told (endsD Q) (startD N_llaw_told ds) S := by
  rintro ds S Q - ⟨b, p3, p4, nx, ch, fl, us, gone, rfl, ⟨m1, m2, m3, m4, m5, m6⟩, h⟩
  have sz := sz6
  have h' := Hd.mk h
  clear h
  have a0 := fun a b c d e => (at5 (a := a) (b := b) (c := c) (d := d) (e := e)).1
  have a1 := fun a b c d e => (at5 (a := a) (b := b) (c := c) (d := d) (e := e)).2.1
  have a2 := fun a b c d e => (at5 (a := a) (b := b) (c := c) (d := d) (e := e)).2.2.1
  have a3 := fun a b c d e => (at5 (a := a) (b := b) (c := c) (d := d) (e := e)).2.2.2.1
  have a4 := fun a b c d e => (at5 (a := a) (b := b) (c := c) (d := d) (e := e)).2.2.2.2
  walk_at "dl*"
  exact ⟨by omega, S, Sle.refl S, h'.a⟩
end LW

set_option Elab.async false
set_option linter.all false
set_option maxRecDepth 100000
set_option maxHeartbeats 4000000
namespace LW
open PySem PySem.Spec L2 DL
local macro_rules | `(tactic| walk_at "dl") => `(tactic| simp -implicitDefEqProofs only [↓dFmt, ↓dJsE, ↓dJs, ↓dSumL, ↓dAllL, ↓dAnyL, ↓dPartn, ↓dStrip, ↓dStripC, ↓dLower, ↓dUpper, ↓dRfind, ↓dCount, ↓okL, ↓dGunl, ↓dLc2_k, ↓dStarL, ↓dListT, ↓dTupT, ↓dSetK, ↓dSortS, ↓dEqL, ↓dOnL, ↓dTupRg, ↓dLstRg, ↓dInT, ↓dSetT, ↓dZipT, ↓dSetAll, ↓dEqO, ↓dMulT, ↓dSeq, ↓dIfS, ↓dTB, ↓dOp, ↓dVar, ↓dC, ↓dLt, ↓dLe, ↓dGt, ↓dGe, ↓rII, ↓rIIc, ↓dCB, ↓dCons, ↓dNil, ↓dLen, ↓dInt, ↓dRet, ↓dRetN, ↓dNext, ↓dIx, ↓dAt, ↓startD, List.map_cons, List.map_nil, List.cons_append, List.nil_append, List.append_nil, List.length_cons, List.length_nil, List.getElem?_cons_zero, List.getElem?_cons_succ, List.length_map, ↓dAsg, ↓dName, ↓dNew_k, ↓dLst, ↓dFor_k, ↓dRng1, ↓dRng2, ↓dCall_k, ↓dAdd, ↓dSub, ↓dMul, ↓dMod, ↓dFdiv, ↓dPow, ↓dEq, ↓dNe, ↓scd, ↓dIsN, ↓dNotN, ↓dIsB, ↓dNotB, ↓dUn, ↓dNeg, ↓dTru, ↓dTruS, ↓dAnd, ↓dOr, ↓dNot, ↓dNotV, ↓dAndV, ↓dOrV, ↓dIfE, ↓dTup, ↓dDrop, ↓dBM, ↓dBM0, ↓tyD, ↓dApp, ↓dSetL, ↓dAsL, ↓dOnL, ↓dOnN_k, ↓dIsi, ↓tyName, isT, ↓dBreak, ↓dCont, ↓dPar, ↓endsD, List.set_cons_zero, List.set_cons_succ, List.replicate_succ, List.replicate_zero, su_same, ↓dLc_k, ↓dWhile_k, ↓dWipe, ↓dYes, ↓dIt, ↓dItN, ↓dSlice, ↓dPart, ↓dNoP, ↓dCut, ↓dSliceE, ↓dIxL, ↓dChain, ↓dIn, ↓dNotIn, ↓dInS, ↓mS0, ↓mS1, ↓dSta, ↓dEnd, ↓dFind, ↓dIsasc, ↓dIsdig, ↓dIsalp, ↓dIsaln, ↓dIslow, ↓dIspri, ↓okT, ↓okU, ↓ok2, ↓dFind4, ↓dSplit, ↓dJoin, ↓dJoinT, ↓dMulS, ↓dCatL, ↓dCatE, ↓dCatR, ↓dCatEE, ↓dStar, ↓dIntS, ↓dStr, ↓dMax, ↓dMin, ↓dII, ↓dFld_m, ↓dSetF_m, ↓dMeth_m, ↓dMake_k, ↓dGtup, ↓dGcons, ↓dGnil, true_and, and_true, Nat.add_zero, reduceCtorEq, ↓reduceIte, Bool.not_true, Bool.not_false, Bool.false_eq_true, if_true, if_false])
local macro_rules | `(tactic| walk_at "dl*") => `(tactic| simp -implicitDefEqProofs only [*, ↓dFmt, ↓dJsE, ↓dJs, ↓dSumL, ↓dAllL, ↓dAnyL, ↓dPartn, ↓dStrip, ↓dStripC, ↓dLower, ↓dUpper, ↓dRfind, ↓dCount, ↓okL, ↓dGunl, ↓dLc2_k, ↓dStarL, ↓dListT, ↓dTupT, ↓dSetK, ↓dSortS, ↓dEqL, ↓dOnL, ↓dTupRg, ↓dLstRg, ↓dInT, ↓dSetT, ↓dZipT, ↓dSetAll, ↓dEqO, ↓dMulT, ↓dSeq, ↓dIfS, ↓dTB, ↓dOp, ↓dVar, ↓dC, ↓dLt, ↓dLe, ↓dGt, ↓dGe, ↓rII, ↓rIIc, ↓dCB, ↓dCons, ↓dNil, ↓dLen, ↓dInt, ↓dRet, ↓dRetN, ↓dNext, ↓dIx, ↓dAt, ↓startD, List.map_cons, List.map_nil, List.cons_append, List.nil_append, List.append_nil, List.length_cons, List.length_nil, List.getElem?_cons_zero, List.getElem?_cons_succ, List.length_map, ↓dAsg, ↓dName, ↓dNew_k, ↓dLst, ↓dFor_k, ↓dRng1, ↓dRng2, ↓dCall_k, ↓dAdd, ↓dSub, ↓dMul, ↓dMod, ↓dFdiv, ↓dPow, ↓dEq, ↓dNe, ↓scd, ↓dIsN, ↓dNotN, ↓dIsB, ↓dNotB, ↓dUn, ↓dNeg, ↓dTru, ↓dTruS, ↓dAnd, ↓dOr, ↓dNot, ↓dNotV, ↓dAndV, ↓dOrV, ↓dIfE, ↓dTup, ↓dDrop, ↓dBM, ↓dBM0, ↓tyD, ↓dApp, ↓dSetL, ↓dAsL, ↓dOnL, ↓dOnN_k, ↓dIsi, ↓tyName, isT, ↓dBreak, ↓dCont, ↓dPar, ↓endsD, List.set_cons_zero, List.set_cons_succ, List.replicate_succ, List.replicate_zero, su_same, ↓dLc_k, ↓dWhile_k, ↓dWipe, ↓dYes, ↓dIt, ↓dItN, ↓dSlice, ↓dPart, ↓dNoP, ↓dCut, ↓dSliceE, ↓dIxL, ↓dChain, ↓dIn, ↓dNotIn, ↓dInS, ↓mS0, ↓mS1, ↓dSta, ↓dEnd, ↓dFind, ↓dIsasc, ↓dIsdig, ↓dIsalp, ↓dIsaln, ↓dIslow, ↓dIspri, ↓okT, ↓okU, ↓ok2, ↓dFind4, ↓dSplit, ↓dJoin, ↓dJoinT, ↓dMulS, ↓dCatL, ↓dCatE, ↓dCatR, ↓dCatEE, ↓dStar, ↓dIntS, ↓dStr, ↓dMax, ↓dMin, ↓dII, ↓dFld_m, ↓dSetF_m, ↓dMeth_m, ↓dMake_k, ↓dGtup, ↓dGcons, ↓dGnil, true_and, and_true, Nat.add_zero, reduceCtorEq, ↓reduceIte, Bool.not_true, Bool.not_false, Bool.false_eq_true, if_true, if_false])
mutual
theorem deq_refl : ∀ a : D, pln a = true → deq a a = true
  | .non, _ => rfl
  | .bl b, _ => by cases b <;> rfl
  | .int i, _ => by rw [deq_ii]; exact decide_eq_true rfl
  | .str s, _ => by rw [deq_ss]; exact decide_eq_true rfl
  | .tup xs, h => deqs_refl xs h
  | .frz xs, h => by cases h
  | .rf p, h => by cases h
  | .ty t, h => by cases h
  | .kst w t, h => by cases h
theorem deqs_refl : ∀ xs : List D, plns xs = true → deqs xs xs = true
  | [], _ => rfl
  | x :: xs, h => by
    have h' : (pln x && plns xs) = true := h
    rw [Bool.and_eq_true] at h'
    show (deq x x && deqs xs xs) = true
    rw [deq_refl x h'.1, deqs_refl xs h'.2]
    rfl
end
theorem plns_of : ∀ {xs : List D}, (∀ x ∈ xs, pln x = true) → plns xs = true
  | [], _ => rfl
  | x :: xs, h => by show (pln x && plns xs) = true; rw [h x (List.mem_cons_self ..), plns_of fun y hy => h y (List.mem_cons_of_mem _ hy)]; rfl
theorem szds_of : ∀ {xs : List D}, (∀ x ∈ xs, szd x = true) → szds xs = true
  | [], _ => rfl
  | x :: xs, h => by show (szd x && szds xs) = true; rw [h x (List.mem_cons_self ..), szds_of fun y hy => h y (List.mem_cons_of_mem _ hy)]; rfl
theorem deps_of {n : Nat} : ∀ {xs : List D}, (∀ x ∈ xs, dep x ≤ n) → deps xs ≤ n
  | [], _ => Nat.zero_le _
  | x :: xs, h => Nat.max_le.mpr ⟨h x (List.mem_cons_self ..), deps_of fun y hy => h y (List.mem_cons_of_mem _ hy)⟩
theorem same_any {S : Sh} {Q : QD} {a : D} (h1 : pln a = true) (h2 : szd a = true) (h3 : dep a < 8) (q : Q (.bl true) S) : sp_same 8 [a, a] S Q := ⟨a, a, rfl, h1, h1, h2, h3, by rw [deq_refl a h1]; exact q⟩
theorem same_tup {S : Sh} {Q : QD} {l : List D} {n : Nat} (h1 : ∀ x ∈ l, pln x = true) (h2 : ∀ x ∈ l, szd x = true) (h3 : ∀ x ∈ l, dep x ≤ n) (hn : n < 7) (hl : l.length ≤ 1000000) (q : Q (.bl true) S) : sp_same 8 [.tup l, .tup l] S Q := by
  refine same_any (plns_of h1) ?_ ?_ q
  · show (decide (l.length < 2 ^ 62) && szds l) = true
    rw [szds_of h2, decide_eq_true (by omega)]; rfl
  · show deps l + 1 < 8
    have := deps_of h3
    omega

theorem ok_llaw_flags {w : World} : ∀ ds S Q, ds.length = 3 → sp_llaw_flags ds S Q → rd_llaw_flags w (endsD Q) (startD N_llaw_flags ds) S := fun ds S Q h1 h2 => ok_new_flags (w := w) ds S Q h1 h2
theorem decs_cp : ∀ n : Nat, n < 100 → (decs ((n : Nat) : Int)).all (· < 1114112) = true := by decide +kernel
theorem psd_let {n : Int} {ln : Nat} (h0 : 0 ≤ n) (h1 : n < 100) : psd (letD n ln) = true := by
  obtain ⟨k, rfl⟩ := Int.eq_ofNat_of_zero_le h0
  have c := decs_cp k (by omega)
  have e1 : psd (.str ([115] ++ decs (k : Int))) = true := by
    show ([115] ++ decs (k : Int)).all (· < 1114112) = true
    rw [List.all_append, c]; rfl
  have e2 : psds (List.replicate ln (.str (cWord ++ decs (k : Int)))) = true := psds_of fun x hx => by
    rw [List.eq_of_mem_replicate hx]
    show (cWord ++ decs (k : Int)).all (· < 1114112) = true
    rw [List.all_append, c]; rfl
  show (true && ((((true && (psd (.str ([115] ++ decs (k : Int))) && true)) && true)) && ((true && (psds (List.replicate ln (.str (cWord ++ decs (k : Int)))) && true)) && true))) = true
  rw [e1, e2]; rfl
theorem dep_let {n : Int} {ln : Nat} (hl : ln ≤ 2) : dep (letD n ln) = 3 := by
  rcases ln3 hl with rfl | rfl | rfl <;> rfl
theorem psd_rec {r : Rc} (h0 : 0 ≤ r.n) (h1 : r.n < 100) (a : Abc r.fl) : psd (recD r) = true := by
  show (true && (true && (true && (psd (.tup (r.fl.map D.str)) && (true && (psd (letD r.n r.ln) && true)))))) = true
  rw [psd_strs a, psd_let h0 h1]; rfl
theorem dep_rec {r : Rc} (hl : r.ln ≤ 2) : dep (recD r) = 4 := by
  show max 0 (max 0 (max 0 (max (dep (.tup (r.fl.map D.str))) (max 0 (max (dep (letD r.n r.ln)) 0))))) + 1 = 4
  rw [dep_strsD, dep_let hl]; rfl
theorem wf_n {c : Int} {m : List Nat} {fl : List (List Nat)} {r : Rc} : (wf c m fl r).n = r.n ∧ (wf c m fl r).ln = r.ln ∧ (wf c m fl r).uid = r.uid ∧ (wf c m fl r).tn = r.tn := by
  unfold wf
  by_cases h : nf r.fl m fl = r.fl
  · rw [if_pos h]; exact ⟨rfl, rfl, rfl, rfl⟩
  · rw [if_neg h]; exact ⟨rfl, rfl, rfl, rfl⟩
theorem wf_abc {c : Int} {m : List Nat} {fl : List (List Nat)} {r : Rc} (h1 : Abc r.fl) (h2 : Abc fl) : Abc (wf c m fl r).fl := by
  unfold wf
  by_cases h : nf r.fl m fl = r.fl
  · rw [if_pos h]; exact h1
  · rw [if_neg h]; exact nf_abc h1 h2
def wfx (c : Int) (m : List Nat) (fl : List (List Nat)) (xs : List Int) (r : Rc) : Rc := if r.uid ∈ xs then wf c m fl r else r
theorem flg_eq (c : Int) (m : List Nat) (fl : List (List Nat)) (xs : List Int) (rs : List Rc) : flg c m fl xs rs = rs.map (wfx c m fl xs) := rfl
theorem wfx_n {c : Int} {m : List Nat} {fl : List (List Nat)} {xs : List Int} {r : Rc} : (wfx c m fl xs r).n = r.n ∧ (wfx c m fl xs r).ln = r.ln ∧ (wfx c m fl xs r).uid = r.uid ∧ (wfx c m fl xs r).tn = r.tn := by
  unfold wfx
  by_cases h : r.uid ∈ xs
  · rw [if_pos h]; exact wf_n
  · rw [if_neg h]; exact ⟨rfl, rfl, rfl, rfl⟩
theorem wfx_abc {c : Int} {m : List Nat} {fl : List (List Nat)} {xs : List Int} {r : Rc} (h1 : Abc r.fl) (h2 : Abc fl) : Abc (wfx c m fl xs r).fl := by
  unfold wfx
  by_cases h : r.uid ∈ xs
  · rw [if_pos h]; exact wf_abc h1 h2
  · rw [if_neg h]; exact h1
theorem rec_inj {r q : Rc} (h : recD r = recD q) (h1 : r.n = q.n) (h2 : r.ln = q.ln) : r = q := by
  obtain ⟨a1, a2, a3, a4, a5, a6⟩ := r
  obtain ⟨b1, b2, b3, b4, b5, b6⟩ := q
  simp only at h1 h2
  subst h1 h2
  unfold recD at h
  injection h with h
  injection h with _ h
  injection h with e1 h
  injection h with e2 h
  injection h with e3 h
  injection h with e4 _
  injection e1 with e1
  injection e2 with e2
  injection e3 with e3
  injection e4 with e4
  have e3' := str_map_inj e3
  simp only at e1 e2 e3' e4
  subst e1 e2 e3' e4
  rfl
theorem flg_inj (c : Int) (m : List Nat) (fl : List (List Nat)) (xs : List Int) : ∀ rs : List Rc, (rs.map fun r => recD (wfx c m fl xs r)) = rs.map recD → rs.map (wfx c m fl xs) = rs
  | [], _ => rfl
  | r :: rs, h => by
    rw [List.map_cons, List.map_cons] at h
    injection h with h1 h2
    rw [List.map_cons, flg_inj c m fl xs rs h2, rec_inj h1 wfx_n.1 wfx_n.2.1]
theorem psd_recs {rs : List Rc} (h : ∀ r ∈ rs, 0 ≤ r.n ∧ r.n < 100 ∧ Abc r.fl) : psd (.tup (rs.map recD)) = true := psds_of fun x hx => by
  obtain ⟨r, hr, rfl⟩ := List.mem_map.mp hx
  exact psd_rec (h r hr).1 (h r hr).2.1 (h r hr).2.2
theorem dep_recs {rs : List Rc} (h : ∀ r ∈ rs, r.ln ≤ 2) : dep (.tup (rs.map recD)) ≤ 5 := by
  have := deps_of (n := 4) (xs := rs.map recD) fun x hx => by
    obtain ⟨r, hr, rfl⟩ := List.mem_map.mp hx
    rw [dep_rec (h r hr)]; exact Nat.le_refl 4
  show deps (rs.map recD) + 1 ≤ 5
  omega
theorem ok_flagged {w : World} : ∀ ds S Q, ds.length = 4 → sp_flagged ds S Q → rd_flagged w (endsD Q) (startD N_flagged ds) S := by
  rintro ds S Q - ⟨nx, ch, fl, rs, gone, xs, m, fs, rfl, ro, l1, l2, ab, l3, h⟩
  have sz := sz6
  have h' := Hd.mk h
  clear h
  show rd_flagged w (endsD Q) (startD N_flagged [.tup [.str cBox, .int nx, .int ch, .int fl, .tup (rs.map recD), .tup (gone.map pD)], .tup (xs.map D.int), .str m, .tup (fs.map D.str)]) S
  walk_at "dl"
  rw [kysOf_ints]
  dsimp only
  refine ⟨by rw [List.length_map]; unfold scanBound; omega, ?_⟩
  refine comp_mapA recD (fun r => recD (wfx (ch + 1) m fs xs r)) trivial _ [] (fun r hr R hR => ?_) (by rw [List.length_nil]; omega) ?_
  · have hR' := Hd.mk hR
    clear hR
    have t1 : atI [D.str [107, 101, 112, 116], D.int r.uid, D.int r.ch, D.tup (r.fl.map D.str), D.int r.tn, letD r.n r.ln] 1 = some (.int r.uid) := rfl
    show (dName 12) (.tup [.str [107, 101, 112, 116], .int r.uid, .int r.ch, .tup (r.fl.map D.str), .int r.tn, letD r.n r.ln]) _ S _
    walk_at "dl*"
    refine ⟨rfl, ?_⟩
    have e := hR'.a
    unfold wfx at e
    rw [mem_i]
    refine ifb (fun z => ?_) fun z => ?_
    · rw [if_pos z] at e
      exact ⟨r, ch + 1, m, fs, rfl, ro r hr, ab, l3, e⟩
    · rw [if_neg z] at e
      exact e
  · intro q hq
    dsimp only
    rw [su_same]
    dsimp only
    rw [List.nil_append]
    have e1 : (rs.map fun r => recD (wfx (ch + 1) m fs xs r)) = (rs.map (wfx (ch + 1) m fs xs)).map recD := by rw [List.map_map]; rfl
    have p1 : psd (.tup ((rs.map (wfx (ch + 1) m fs xs)).map recD)) = true := psd_recs fun r hr => by
      obtain ⟨r0, h0, rfl⟩ := List.mem_map.mp hr
      rw [wfx_n.1]
      exact ⟨(ro r0 h0).n0, (ro r0 h0).n1, wfx_abc (ro r0 h0).abc ab⟩
    have p2 : psd (.tup (rs.map recD)) = true := psd_recs fun r hr => ⟨(ro r hr).n0, (ro r hr).n1, (ro r hr).abc⟩
    have d1 : dep (.tup ((rs.map (wfx (ch + 1) m fs xs)).map recD)) ≤ 5 := dep_recs fun r hr => by
      obtain ⟨r0, h0, rfl⟩ := List.mem_map.mp hr
      rw [wfx_n.2.1]
      exact (ro r0 h0).ln
    have d2 : dep (.tup (rs.map recD)) ≤ 5 := dep_recs fun r hr => (ro r hr).ln
    have fin := h'.a
    rw [flg_eq] at fin
    rw [e1]
    refine eqT_psd p1 p2 (by omega) (by omega) (fun e => ?_) fun e => ?_
    · have e' : rs.map (wfx (ch + 1) m fs xs) = rs := flg_inj _ _ _ _ rs (by rw [e1]; injection e)
      rw [if_pos e'] at fin
      exact ⟨S, Sle.new hq, fin⟩
    · have e' : rs.map (wfx (ch + 1) m fs xs) ≠ rs := fun z => e (by rw [z])
      rw [if_neg e'] at fin
      dsimp only
      rw [if_neg Bool.false_ne_true, su_same]
      exact ⟨by omega, S, Sle.new hq, fin⟩
theorem put_uid (ch : Int) : ∀ (ws : List Rw) (nx : Int), (putR nx ch ws).map (fun r => D.int r.uid) = rng nx ws.length
  | [], _ => rfl
  | w :: ws, nx => by rw [putR, List.map_cons, put_uid ch ws, List.length_cons, rng_cons]; rfl
theorem ok_llaw_put : ∀ ds S Q, ds.length = 2 → sp_llaw_put ds S Q → rd_llaw_put (endsD Q) (startD N_llaw_put ds) S := by
  rintro ds S Q - ⟨b, p3, p4, nx, ch, fl, us, gone, ws, rfl, lu, lw, ⟨m1, m2, m3, m4, m5, m6⟩, h⟩
  have sz := sz6
  obtain ⟨i1, i0, i2⟩ := ix5
  have a1 := fun a b c d e => (at5 (a := a) (b := b) (c := c) (d := d) (e := e)).2.1
  have a0 := fun a b c d e => (at5 (a := a) (b := b) (c := c) (d := d) (e := e)).1
  have a3 := fun a b c d e => (at5 (a := a) (b := b) (c := c) (d := d) (e := e)).2.2.2.1
  have h' := Hd.mk h
  clear h
  walk_at "dl*"
  refine ⟨by omega, fun p hp => ?_⟩
  have n1 : p ≠ b := fun e => by rw [e, su_same] at hp; cases hp
  rw [su_ne n1] at hp
  have n3 : p ≠ p3 := fun e => by rw [e, m2] at hp; cases hp
  have n4 : p ≠ p4 := fun e => by rw [e, m3] at hp; cases hp
  refine loop_inv (fun rest δ S' => ∃ (td : List Rw) (acc : List Rc) (k : Int) (x3 x4 x5 : Option D), acc ++ putR k (ch + 1) td = putR nx (ch + 1) ws ∧ k + td.length = nx + ws.length ∧ rest = td.map rowD ∧ δ = [some (.rf b), some (.tup (ws.map rowD)), some (.rf p), x3, x4, x5] ∧
    S' b = some (.lst [.int k, .int (ch + 1), .int fl, .rf p3, .rf p4]) ∧ S' p3 = some (.lst ((us ++ acc).map recD)) ∧ S' p = some (.lst (acc.map fun r => D.int r.uid)) ∧ ∀ q, q ≠ b → q ≠ p3 → q ≠ p → S' q = S q) ?_ ?_ ?_ _ _ _
    ⟨ws, [], nx, none, none, none, rfl, rfl, rfl, rfl, by rw [su_ne (Ne.symm n1), su_same], by rw [su_ne (Ne.symm n3), su_ne (Ne.symm m4), List.append_nil]; exact m2, su_same, fun q q1 q2 q3 => by rw [su_ne q3, su_ne q1]⟩
  · rintro x xs δ S' N ⟨td, acc, k, x3, x4, x5, e1, e0, e2, rfl, e3, e4, e5, e6⟩ hN
    cases td with
    | nil => cases e2
    | cons w td =>
      injection e2 with e2 e2'
      subst e2
      subst e2'
      rw [putR] at e1
      have hj : acc.length ≤ 300 := by
        have := congrArg List.length e1
        rw [List.length_append, put_len, List.length_cons] at this
        omega
      rw [List.length_cons] at e0
      have lr : ((us ++ acc).map recD).length = us.length + acc.length := by rw [List.length_map, List.length_append]
      have li : (acc.map fun r => D.int r.uid).length = acc.length := by rw [List.length_map]
      have f1 : ∀ o, su S' p3 o p = some (.lst (acc.map fun r => D.int r.uid)) := fun o => by rw [su_ne n3]; exact e5
      have f2 : ∀ o, su S' p3 o b = some (.lst [.int k, .int (ch + 1), .int fl, .rf p3, .rf p4]) := fun o => by rw [su_ne m4]; exact e3
      have f3 : ∀ o o', su (su S' p3 o) p o' b = some (.lst [.int k, .int (ch + 1), .int fl, .rf p3, .rf p4]) := fun o o' => by rw [su_ne (Ne.symm n1)]; exact f2 o
      have hN' := Hd.mk hN
      have e7' := Hd.mk e1
      have e6' := Hd.mk e6
      clear e1 hN h' e6
      show (dGtup (dGcons (dName 3) (dGcons (dName 4) (dGcons (dName 5) dGnil))) 3) (.tup [.tup (w.fl.map D.str), .int w.tn, letD w.n w.ln]) _ S' _
      walk_at "dl*"
      refine ⟨⟨_, rfl⟩, by omega, by omega, ⟨_, rfl⟩, by omega, hN'.a _ _ ⟨td, acc ++ [mkR k (ch + 1) w], k + 1, _, _, _, by rw [List.append_assoc]; exact e7'.a, by omega, rfl, rfl, ?_, ?_, ?_, fun q q1 q2 q3 => ?_⟩⟩
      · rw [su_same]
      · rw [su_ne (Ne.symm m4), su_ne (Ne.symm n3), su_same, ← List.append_assoc, List.map_append, List.map_append, List.map_append] <;> rfl
      · rw [su_ne n1, su_same, List.map_append]; rfl
      · rw [su_ne q1, su_ne q3, su_ne q2]; exact e6'.a q q1 q2 q3
  · exact fun _ _ _ _ => trivial
  · rintro δ S' ⟨td, acc, k, x3, x4, x5, e1, e0, e2, rfl, e3, e4, e5, e6⟩
    cases td with
    | cons u td => cases e2
    | nil =>
      rw [putR, List.append_nil] at e1
      rw [List.length_nil] at e0
      subst e1
      have ek : k = nx + (ws.length : Int) := by omega
      subst ek
      have h2 := h'
      have e6' := Hd.mk e6
      clear h' e0 e2 e6
      dsimp only
      walk_at "dl*"
      rw [put_uid, rng_uids]
      refine ⟨S', Sle.refl S', h2.a S' ⟨e3, e4, ?_, m4, m5, m6⟩ fun q q1 q2 q3 hq => e6'.a q q1 q2 fun e => ?_⟩
      · rw [e6'.a p4 (Ne.symm m5) (Ne.symm m6) (Ne.symm n4)]; exact m3
      · subst e
        obtain ⟨o, ho⟩ := hq
        rw [hp] at ho; cases ho
end LW

set_option Elab.async false
set_option linter.all false
set_option maxRecDepth 100000
set_option maxHeartbeats 4000000
namespace LW
open PySem PySem.Spec L2 DL
local macro_rules | `(tactic| walk_at "dl") => `(tactic| simp -implicitDefEqProofs only [↓dFmt, ↓dJsE, ↓dJs, ↓dSumL, ↓dAllL, ↓dAnyL, ↓dPartn, ↓dStrip, ↓dStripC, ↓dLower, ↓dUpper, ↓dRfind, ↓dCount, ↓okL, ↓dGunl, ↓dLc2_k, ↓dStarL, ↓dListT, ↓dTupT, ↓dSetK, ↓dSortS, ↓dEqL, ↓dOnL, ↓dTupRg, ↓dLstRg, ↓dInT, ↓dSetT, ↓dZipT, ↓dSetAll, ↓dEqO, ↓dMulT, ↓dSeq, ↓dIfS, ↓dTB, ↓dOp, ↓dVar, ↓dC, ↓dLt, ↓dLe, ↓dGt, ↓dGe, ↓rII, ↓rIIc, ↓dCB, ↓dCons, ↓dNil, ↓dLen, ↓dInt, ↓dRet, ↓dRetN, ↓dNext, ↓dIx, ↓dAt, ↓startD, List.map_cons, List.map_nil, List.cons_append, List.nil_append, List.append_nil, List.length_cons, List.length_nil, List.getElem?_cons_zero, List.getElem?_cons_succ, List.length_map, ↓dAsg, ↓dName, ↓dNew_k, ↓dLst, ↓dFor_k, ↓dRng1, ↓dRng2, ↓dCall_k, ↓dAdd, ↓dSub, ↓dMul, ↓dMod, ↓dFdiv, ↓dPow, ↓dEq, ↓dNe, ↓scd, ↓dIsN, ↓dNotN, ↓dIsB, ↓dNotB, ↓dUn, ↓dNeg, ↓dTru, ↓dTruS, ↓dAnd, ↓dOr, ↓dNot, ↓dNotV, ↓dAndV, ↓dOrV, ↓dIfE, ↓dTup, ↓dDrop, ↓dBM, ↓dBM0, ↓tyD, ↓dApp, ↓dSetL, ↓dAsL, ↓dOnL, ↓dOnN_k, ↓dIsi, ↓tyName, isT, ↓dBreak, ↓dCont, ↓dPar, ↓endsD, List.set_cons_zero, List.set_cons_succ, List.replicate_succ, List.replicate_zero, su_same, ↓dLc_k, ↓dWhile_k, ↓dWipe, ↓dYes, ↓dIt, ↓dItN, ↓dSlice, ↓dPart, ↓dNoP, ↓dCut, ↓dSliceE, ↓dIxL, ↓dChain, ↓dIn, ↓dNotIn, ↓dInS, ↓mS0, ↓mS1, ↓dSta, ↓dEnd, ↓dFind, ↓dIsasc, ↓dIsdig, ↓dIsalp, ↓dIsaln, ↓dIslow, ↓dIspri, ↓okT, ↓okU, ↓ok2, ↓dFind4, ↓dSplit, ↓dJoin, ↓dJoinT, ↓dMulS, ↓dCatL, ↓dCatE, ↓dCatR, ↓dCatEE, ↓dStar, ↓dIntS, ↓dStr, ↓dMax, ↓dMin, ↓dII, ↓dFld_m, ↓dSetF_m, ↓dMeth_m, ↓dMake_k, ↓dGtup, ↓dGcons, ↓dGnil, true_and, and_true, Nat.add_zero, reduceCtorEq, ↓reduceIte, Bool.not_true, Bool.not_false, Bool.false_eq_true, if_true, if_false])
local macro_rules | `(tactic| walk_at "dl*") => `(tactic| simp -implicitDefEqProofs only [*, ↓dFmt, ↓dJsE, ↓dJs, ↓dSumL, ↓dAllL, ↓dAnyL, ↓dPartn, ↓dStrip, ↓dStripC, ↓dLower, ↓dUpper, ↓dRfind, ↓dCount, ↓okL, ↓dGunl, ↓dLc2_k, ↓dStarL, ↓dListT, ↓dTupT, ↓dSetK, ↓dSortS, ↓dEqL, ↓dOnL, ↓dTupRg, ↓dLstRg, ↓dInT, ↓dSetT, ↓dZipT, ↓dSetAll, ↓dEqO, ↓dMulT, ↓dSeq, ↓dIfS, ↓dTB, ↓dOp, ↓dVar, ↓dC, ↓dLt, ↓dLe, ↓dGt, ↓dGe, ↓rII, ↓rIIc, ↓dCB, ↓dCons, ↓dNil, ↓dLen, ↓dInt, ↓dRet, ↓dRetN, ↓dNext, ↓dIx, ↓dAt, ↓startD, List.map_cons, List.map_nil, List.cons_append, List.nil_append, List.append_nil, List.length_cons, List.length_nil, List.getElem?_cons_zero, List.getElem?_cons_succ, List.length_map, ↓dAsg, ↓dName, ↓dNew_k, ↓dLst, ↓dFor_k, ↓dRng1, ↓dRng2, ↓dCall_k, ↓dAdd, ↓dSub, ↓dMul, ↓dMod, ↓dFdiv, ↓dPow, ↓dEq, ↓dNe, ↓scd, ↓dIsN, ↓dNotN, ↓dIsB, ↓dNotB, ↓dUn, ↓dNeg, ↓dTru, ↓dTruS, ↓dAnd, ↓dOr, ↓dNot, ↓dNotV, ↓dAndV, ↓dOrV, ↓dIfE, ↓dTup, ↓dDrop, ↓dBM, ↓dBM0, ↓tyD, ↓dApp, ↓dSetL, ↓dAsL, ↓dOnL, ↓dOnN_k, ↓dIsi, ↓tyName, isT, ↓dBreak, ↓dCont, ↓dPar, ↓endsD, List.set_cons_zero, List.set_cons_succ, List.replicate_succ, List.replicate_zero, su_same, ↓dLc_k, ↓dWhile_k, ↓dWipe, ↓dYes, ↓dIt, ↓dItN, ↓dSlice, ↓dPart, ↓dNoP, ↓dCut, ↓dSliceE, ↓dIxL, ↓dChain, ↓dIn, ↓dNotIn, ↓dInS, ↓mS0, ↓mS1, ↓dSta, ↓dEnd, ↓dFind, ↓dIsasc, ↓dIsdig, ↓dIsalp, ↓dIsaln, ↓dIslow, ↓dIspri, ↓okT, ↓okU, ↓ok2, ↓dFind4, ↓dSplit, ↓dJoin, ↓dJoinT, ↓dMulS, ↓dCatL, ↓dCatE, ↓dCatR, ↓dCatEE, ↓dStar, ↓dIntS, ↓dStr, ↓dMax, ↓dMin, ↓dII, ↓dFld_m, ↓dSetF_m, ↓dMeth_m, ↓dMake_k, ↓dGtup, ↓dGcons, ↓dGnil, true_and, and_true, Nat.add_zero, reduceCtorEq, ↓reduceIte, Bool.not_true, Bool.not_false, Bool.false_eq_true, if_true, if_false])
def llaw_step_b10_1 : SD := (dIfS (dTB (dOp dNeT (dOp dIx (dVar 8) (dVar 10)) (dOp dIx (dVar 9) (dC (.int 3))))) (dAsg (dTup (dCons (dC (.str [107, 101, 112, 116])) (dCons (dOp dIx (dVar 9) (dC (.int 1))) (dCons (dOp dIx (dVar 1) (dC (.int 1))) (dCons (dOp dIx (dVar 8) (dVar 10)) (dCons (dOp dIx (dVar 9) (dC (.int 4))) (dCons (dOp dIx (dVar 9) (dC (.int 5))) dNil))))))) (dSetL (dOp dIx (dVar 1) (dC (.int 3))) (dVar 10))) dNext)
def llaw_step_k11 : SD := (dRet (dCall 4 sp_flagged [] (dCons (dVar 2) (dCons (dVar 5) (dCons (dVar 6) (dCons (dVar 7) dNil))))))
def llaw_step_k10 : SD := dSeq (dFor (dRng1 (dCons (dCB dLen (dCons (dVar 8) dNil)) dNil)) (dName 10) (dSeq (dAsg (dOp dIx (dOp dIx (dVar 1) (dC (.int 3))) (dVar 10)) (dName 9)) (llaw_step_b10_1))) (llaw_step_k11)
def llaw_step_k9 : SD := dSeq (dAsg (dOp dAdd (dOp dIx (dVar 1) (dC (.int 1))) (dC (.int 1))) (dSetL (dVar 1) (dC (.int 1)))) (llaw_step_k10)
def llaw_step_k8 : SD := dSeq (dIfS (dTB (dEqO false (dVar 8) (dLc (dIt (dOp dIx (dVar 1) (dC (.int 3)))) (dName 9) dYes (dOp dIx (dVar 9) (dC (.int 3))) [9]))) (dRet (dCall 4 sp_flagged [] (dCons (dVar 2) (dCons (dVar 5) (dCons (dVar 6) (dCons (dVar 7) dNil)))))) dNext) (llaw_step_k9)
def llaw_step_k7 : SD := dSeq (dFor (dIt (dOp dIx (dVar 1) (dC (.int 3)))) (dName 9) (dDrop (dBM "list" dApp (dVar 8) (dCons (dIfE (dTB (dOp dIn (dOp dIx (dVar 9) (dC (.int 1))) (dVar 5))) (dCall 3 sp_llaw_flags [] (dCons (dOp dIx (dVar 9) (dC (.int 3))) (dCons (dVar 6) (dCons (dVar 7) dNil)))) (dOp dIx (dVar 9) (dC (.int 3)))) dNil)))) (llaw_step_k8)
def llaw_step_k6 : SD := dSeq (dAsg (dNew (dLst dNil)) (dName 8)) (llaw_step_k7)
def llaw_step_k5 : SD := dSeq (dAsg (dSlice (dTup (dCons (dC (.str [98])) (dCons (dC (.str [99])) dNil))) (dPart (dCall 2 sp_llaw_draw [] (dCons (dVar 0) (dCons (dC (.int 2)) dNil)))) dNoP) (dName 7)) (llaw_step_k6)
def llaw_step_k4 : SD := dSeq (dAsg (dCall 2 sp_llaw_pick [] (dCons (dVar 0) (dCons (dNew (dLst (dCons (dC (.str [97, 100, 100])) (dCons (dC (.str [100, 114, 111, 112])) (dCons (dC (.str [115, 101, 116])) dNil))))) dNil))) (dName 6)) (llaw_step_k5)
def llaw_step_k3 : SD := dSeq (dIfS (dTB (dOp dEq (dVar 4) (dC (.int 2)))) (dSeq (dDrop (dCall 2 sp_llaw_take [] (dCons (dVar 1) (dCons (dNew (dListT (dVar 5))) dNil))))
  (dRet (dCall 2 sp_taken_out [] (dCons (dVar 2) (dCons (dVar 5) dNil))))) dNext) (llaw_step_k4)
def llaw_step_k2 : SD := dSeq (dIfS (dOr (dTB (dOp dLt (dVar 4) (dC (.int 2)))) (dTB (dOp dEqT (dVar 5) (dTup dNil)))) (dSeq (dAsg (dOnL (fun ds S Q => Q (.tup ds) S) (dLc (dRng1 (dCons (dOp dAdd (dC (.int 1)) (dCall 2 sp_llaw_draw [] (dCons (dVar 0) (dCons (dC (.int 3)) dNil)))) dNil)) (dName 10) dYes (dTup (dCons (dSlice (dTup (dCons (dC (.str [97])) (dCons (dC (.str [98])) dNil))) dNoP (dPart (dCall 2 sp_llaw_draw [] (dCons (dVar 0) (dCons (dC (.int 3)) dNil))))) (dCons (dOp dAdd (dVar 3) (dVar 10)) (dCons (dCall 2 sp_llaw_letter [] (dCons (dOp dAdd (dOp dMul (dVar 3) (dC (.int 9))) (dVar 10)) (dCons (dCall 2 sp_llaw_draw [] (dCons (dVar 0) (dCons (dC (.int 3)) dNil))) dNil))) dNil)))) [10])) (dName 11))
  (dSeq (dAsg (dCall 2 sp_put_in [] (dCons (dVar 2) (dCons (dVar 11) dNil))) (dName 12))
  (dSeq (dAsg (dCall 2 sp_llaw_put [] (dCons (dVar 1) (dCons (dVar 11) dNil))) (dName 13))
  (dSeq (dIfS (dOr (dNot (dTru (dIsi .tTuple (dVar 12)))) (dOr (dTB (dOp dNe (dCB dLen (dCons (dVar 12) dNil)) (dC (.int 2)))) (dNot (dTru (dCall 2 (sp_same 8) [] (dCons (dOp dIx (dVar 12) (dC (.int 1))) (dCons (dVar 13) dNil))))))) (dRet (dC .non)) dNext)
  (dRet (dOp dIx (dVar 12) (dC (.int 0)))))))) dNext) (llaw_step_k3)
def llaw_step_k1 : SD := dSeq (dAsg (dOnL (fun ds S Q => Q (.tup ds) S) (dLc (dIt (dOp dIx (dVar 1) (dC (.int 3)))) (dName 9) (dTB (dOp dEq (dCall 2 sp_llaw_draw [] (dCons (dVar 0) (dCons (dC (.int 2)) dNil))) (dC (.int 0)))) (dOp dIx (dVar 9) (dC (.int 1))) [9])) (dName 5)) (llaw_step_k2)
theorem cut_llaw_step : rd_llaw_step = dSeq (dAsg (dCall 2 sp_llaw_draw [] (dCons (dVar 0) (dCons (dC (.int 4)) dNil))) (dName 4)) (llaw_step_k1) := rfl

theorem BoxA.bx {S : Sh} {b pm p3 p4 : Addr} (h : BoxA S b pm p3 p4) : Box S b := by
  obtain ⟨dg, gs, a, e1, e2, e3, e4, e5, _⟩ := h
  exact ⟨dg, gs, a, e1, e2, e3, e4, e5⟩
/-- what stands -/
structure St (S : Sh) (b pm p3 p4 : Addr) (nx ch fl : Int) (us : List Rc) (gone : List (Int × Int)) : Prop where
  a : BoxA S b pm p3 p4
  m : Mod S pm p3 p4 nx ch fl us gone
theorem St.draw {S S' : Sh} {b pm p3 p4 : Addr} {nx ch fl : Int} {us : List Rc} {gone : List (Int × Int)} (h : St S b pm p3 p4 nx ch fl us gone) (x : Bx b S S') : St S' b pm p3 p4 nx ch fl us gone := by
  obtain ⟨⟨dg, gs, a, e1, e2, e3, e4, e5, e6⟩, m1, m2, m3, m4⟩ := h
  obtain ⟨⟨d1, g1, a1, f1, f2, f3, f4, f5⟩, x2, d2, a2, a3, g6, g7⟩ := x
  rw [e1] at g6
  cases g6
  rw [g7] at f1
  cases f1
  exact ⟨⟨_, gs, _, g7, (x2 _ e5).trans e2, e3, f4, e5, e6⟩, (x2 pm (Ne.symm e6.bm)).trans m1, (x2 p3 (Ne.symm e6.b3)).trans m2, (x2 p4 (Ne.symm e6.b4)).trans m3, m4⟩
theorem St.new {S : Sh} {b pm p3 p4 q : Addr} {o : MO} {nx ch fl : Int} {us : List Rc} {gone : List (Int × Int)} (h : St S b pm p3 p4 nx ch fl us gone) (hq : S q = none) : St (su S q o) b pm p3 p4 nx ch fl us gone := by
  obtain ⟨⟨dg, gs, a, e1, e2, e3⟩, m1, m2, m3, m4⟩ := h
  have e : ∀ p u, S p = some u → su S q o p = some u := fun p u hp => by rw [su_ne (fun e => by rw [e, hq] at hp; cases hp)]; exact hp
  exact ⟨⟨dg, gs, a, e _ _ e1, e _ _ e2, e3⟩, e _ _ m1, e _ _ m2, e _ _ m3, m4⟩
/-- the model alone has changed -/
theorem BoxA.but {S S' : Sh} {b pm p3 p4 : Addr} (h : BoxA S b pm p3 p4) (x : But pm p3 p4 S S') : BoxA S' b pm p3 p4 := by
  obtain ⟨dg, gs, a, e1, e2, e3, e4, e5, e6⟩ := h
  exact ⟨dg, gs, a, (x b e6.bm e6.b3 e6.b4 ⟨_, e1⟩).trans e1, (x dg e6.dm e6.d3 e6.d4 ⟨_, e2⟩).trans e2, e3, e4, e5, e6⟩
theorem pys_some : ∀ xs : List D, psds xs = true → ∃ ys, toPys xs = some ys ∧ PyData.canLayAll0 ys = true ∧ PyData.depthAll ys ≤ deps xs + 1 := pys_psd
theorem eqL_psd {xs ys : List D} (ha : psds xs = true) (hb : psds ys = true) (da : deps xs ≤ 60) (db : deps ys ≤ 60) {S : Sh} {Q : QD} (h1 : xs = ys → Q (.bl true) S) (h2 : xs ≠ ys → Q (.bl false) S) : dEqP false ((toPys xs).map .list) ((toPys ys).map .list) S Q := by
  obtain ⟨x, e1, c1, d1⟩ := pys_psd xs ha
  obtain ⟨y, e2, c2, d2⟩ := pys_psd ys hb
  have key := eqvs_psd xs ys x y ha hb e1 e2
  rw [e1, e2]
  refine ⟨?_, ?_, ?_⟩
  · show (PyData.canLayAll0 x && decide (PyData.depthAll x + 1 ≤ 64)) = true
    rw [c1, decide_eq_true (by omega)]; rfl
  · show (PyData.canLayAll0 y && decide (PyData.depthAll y + 1 ≤ 64)) = true
    rw [c2, decide_eq_true (by omega)]; rfl
  · show Q (.bl (PyData.eqvAll x y)) S
    cases e : PyData.eqvAll x y with
    | true => exact h1 (key.mp e)
    | false => exact h2 fun z => by rw [key.mpr z] at e; cases e
theorem neT_psd {a b : D} (ha : psd a = true) (hb : psd b = true) (da : dep a ≤ 60) (db : dep b ≤ 60) {S : Sh} {Q : QD} (h1 : a = b → Q (.bl false) S) (h2 : a ≠ b → Q (.bl true) S) : dNeT a b S Q := by
  obtain ⟨x, e1, c1, d1⟩ := py_psd a ha
  obtain ⟨y, e2, c2, d2⟩ := py_psd b hb
  have key := eqv_psd a b x y ha hb e1 e2
  unfold dNeT
  rw [e1, e2]
  refine ⟨?_, ?_, ?_⟩
  · show (PyData.canLay0 x && decide (PyData.depth x ≤ 64)) = true
    rw [c1, decide_eq_true (by omega)]; rfl
  · show (PyData.canLay0 y && decide (PyData.depth y ≤ 64)) = true
    rw [c2, decide_eq_true (by omega)]; rfl
  · show Q (.bl (!PyData.eqv x y)) S
    cases e : PyData.eqv x y with
    | true => exact h1 (key.mp e)
    | false => exact h2 fun z => by rw [key.mpr z] at e; cases e
/-! the flags behind -/
def gfl (m : List Nat) (fs : List (List Nat)) (xs : List Int) (r : Rc) : List (List Nat) := if r.uid ∈ xs then nf r.fl m fs else r.fl
theorem wfx_eq (c : Int) (m : List Nat) (fs : List (List Nat)) (xs : List Int) (r : Rc) : wfx c m fs xs r = if gfl m fs xs r = r.fl then r else { r with ch := c, fl := gfl m fs xs r } := by
  unfold wfx gfl wf
  by_cases h : r.uid ∈ xs
  · rw [if_pos h, if_pos h]
  · rw [if_neg h, if_neg h, if_pos rfl]
theorem wfx_fl (c : Int) (m : List Nat) (fs : List (List Nat)) (xs : List Int) (r : Rc) : (wfx c m fs xs r).fl = gfl m fs xs r := by
  rw [wfx_eq]
  by_cases h : gfl m fs xs r = r.fl
  · rw [if_pos h]; exact h.symm
  · rw [if_neg h]
theorem flg_iff (c : Int) (m : List Nat) (fs : List (List Nat)) (xs : List Int) (us : List Rc) : flg c m fs xs us = us ↔ us.map (gfl m fs xs) = us.map (·.fl) := by
  rw [flg_eq]
  constructor
  · intro h
    have := congrArg (List.map Rc.fl) h
    rw [List.map_map] at this
    rw [← this]
    exact List.map_congr_left fun r _ => (wfx_fl c m fs xs r).symm
  · intro h
    have := List.map_inj_left.mp h
    have e : us.map (wfx c m fs xs) = us.map id := List.map_congr_left fun r hr => by rw [wfx_eq, if_pos (this r hr)]; rfl
    rw [e, List.map_id]
theorem uins_len (x : List Nat) : ∀ l : List (List Nat), (uins ltCps x l).length ≤ l.length + 1
  | [] => Nat.le_refl _
  | y :: r => by
    have := uins_len x r
    unfold uins
    split
    · exact Nat.le_refl _
    · split
      · rw [List.length_cons, List.length_cons]; omega
      · omega
theorem usort_len : ∀ l : List (List Nat), (usort ltCps l).length ≤ l.length
  | [] => Nat.le_refl _
  | x :: l => by
    have := usort_len l
    have := uins_len x (usort ltCps l)
    show (uins ltCps x (usort ltCps l)).length ≤ l.length + 1
    omega
theorem nf_len (old : List (List Nat)) (m : List Nat) (fs : List (List Nat)) : (nf old m fs).length ≤ old.length + fs.length := by
  unfold nf
  split
  · exact Nat.le_trans (usort_len _) (by rw [List.length_append]; exact Nat.le_refl _)
  · split
    · exact Nat.le_trans (List.length_filter_le _ _) (Nat.le_add_right _ _)
    · exact Nat.le_add_left _ _
theorem gfl_len (m : List Nat) (fs : List (List Nat)) (xs : List Int) (r : Rc) : (gfl m fs xs r).length ≤ r.fl.length + fs.length := by
  unfold gfl
  split
  · exact nf_len ..
  · exact Nat.le_add_right _ _
theorem gfl_abc {m : List Nat} {fs : List (List Nat)} {xs : List Int} {r : Rc} (h1 : Abc r.fl) (h2 : Abc fs) : Abc (gfl m fs xs r) := by
  unfold gfl
  split
  · exact nf_abc h1 h2
  · exact h1
theorem BInv.flags {k : Nat} {nx ch fl : Int} {us : List Rc} {gone : List (Int × Int)} (I : BInv k nx ch fl us gone) (hk : k < 8) {m : List Nat} {fs : List (List Nat)} {xs : List Int} (c : Int) (ab : Abc fs) (l3 : fs.length ≤ 2) {ch' : Int} (hc : ch ≤ ch') : BInv (k + 1) nx ch' fl (flg c m fs xs us) gone where
  len := by rw [flg_eq, List.length_map]; have := I.len; omega
  gl := I.gl
  nx0 := I.nx0
  nx1 := by have := I.nx1; omega
  uid := fun r hr => by
    obtain ⟨r0, h0, rfl⟩ := List.mem_map.mp hr
    show 1 ≤ (wfx c m fs xs r0).uid ∧ (wfx c m fs xs r0).uid < nx
    rw [wfx_n.2.2.1]; exact I.uid r0 h0
  nd := List.pairwise_map.mpr (I.nd.imp fun {a b} z => by
    show (wfx c m fs xs a).uid < (wfx c m fs xs b).uid
    rw [wfx_n.2.2.1, wfx_n.2.2.1]; exact z)
  ok := fun r hr => by
    obtain ⟨r0, h0, rfl⟩ := List.mem_map.mp hr
    obtain ⟨o, l⟩ := I.ok r0 h0
    show Rok (wfx c m fs xs r0) ∧ (wfx c m fs xs r0).fl.length ≤ _
    have l2 := gfl_len m fs xs r0
    have hfl := wfx_fl c m fs xs r0
    refine ⟨⟨by rw [wfx_n.1]; exact o.n0, by rw [wfx_n.1]; exact o.n1, by rw [wfx_n.2.1]; exact o.ln, wfx_abc o.abc ab, by rw [hfl]; omega⟩, by rw [hfl]; omega⟩
  flc := by have := I.flc; omega
  go := fun p hp => by have := I.go p hp; omega
def Fin (b pm p3 p4 : Addr) (k : Nat) (Q : QD) : Prop := ∀ nx' ch' fl' us' gone' S', BoxA S' b pm p3 p4 → Mod S' pm p3 p4 nx' ch' fl' us' gone' → BInv (k + 1) nx' ch' fl' us' gone' → Q (boxD nx' ch' fl' us' gone') S'
def stp (x0 x1 : Addr) (box : D) (k : Nat) (x4 : Option D) (xs : List Int) (x6 x7 x8 x9 x10 x11 x12 x13 : Option D) : Sl := [some (.rf x0), some (.rf x1), some box, some (.int k), x4, some (.tup (xs.map D.int)), x6, x7, x8, x9, x10, x11, x12, x13]
end LW

set_option Elab.async false
set_option linter.all false
set_option maxRecDepth 100000
set_option maxHeartbeats 4000000
namespace LW
open PySem PySem.Spec L2 DL
local macro_rules | `(tactic| walk_at "dl") => `(tactic| simp -implicitDefEqProofs only [↓dFmt, ↓dJsE, ↓dJs, ↓dSumL, ↓dAllL, ↓dAnyL, ↓dPartn, ↓dStrip, ↓dStripC, ↓dLower, ↓dUpper, ↓dRfind, ↓dCount, ↓okL, ↓dGunl, ↓dLc2_k, ↓dStarL, ↓dListT, ↓dTupT, ↓dSetK, ↓dSortS, ↓dEqL, ↓dOnL, ↓dTupRg, ↓dLstRg, ↓dInT, ↓dSetT, ↓dZipT, ↓dSetAll, ↓dEqO, ↓dMulT, ↓dSeq, ↓dIfS, ↓dTB, ↓dOp, ↓dVar, ↓dC, ↓dLt, ↓dLe, ↓dGt, ↓dGe, ↓rII, ↓rIIc, ↓dCB, ↓dCons, ↓dNil, ↓dLen, ↓dInt, ↓dRet, ↓dRetN, ↓dNext, ↓dIx, ↓dAt, ↓startD, List.map_cons, List.map_nil, List.cons_append, List.nil_append, List.append_nil, List.length_cons, List.length_nil, List.getElem?_cons_zero, List.getElem?_cons_succ, List.length_map, ↓dAsg, ↓dName, ↓dNew_k, ↓dLst, ↓dFor_k, ↓dRng1, ↓dRng2, ↓dCall_k, ↓dAdd, ↓dSub, ↓dMul, ↓dMod, ↓dFdiv, ↓dPow, ↓dEq, ↓dNe, ↓scd, ↓dIsN, ↓dNotN, ↓dIsB, ↓dNotB, ↓dUn, ↓dNeg, ↓dTru, ↓dTruS, ↓dAnd, ↓dOr, ↓dNot, ↓dNotV, ↓dAndV, ↓dOrV, ↓dIfE, ↓dTup, ↓dDrop, ↓dBM, ↓dBM0, ↓tyD, ↓dApp, ↓dSetL, ↓dAsL, ↓dOnL, ↓dOnN_k, ↓dIsi, ↓tyName, isT, ↓dBreak, ↓dCont, ↓dPar, ↓endsD, List.set_cons_zero, List.set_cons_succ, List.replicate_succ, List.replicate_zero, su_same, ↓dLc_k, ↓dWhile_k, ↓dWipe, ↓dYes, ↓dIt, ↓dItN, ↓dSlice, ↓dPart, ↓dNoP, ↓dCut, ↓dSliceE, ↓dIxL, ↓dChain, ↓dIn, ↓dNotIn, ↓dInS, ↓mS0, ↓mS1, ↓dSta, ↓dEnd, ↓dFind, ↓dIsasc, ↓dIsdig, ↓dIsalp, ↓dIsaln, ↓dIslow, ↓dIspri, ↓okT, ↓okU, ↓ok2, ↓dFind4, ↓dSplit, ↓dJoin, ↓dJoinT, ↓dMulS, ↓dCatL, ↓dCatE, ↓dCatR, ↓dCatEE, ↓dStar, ↓dIntS, ↓dStr, ↓dMax, ↓dMin, ↓dII, ↓dFld_m, ↓dSetF_m, ↓dMeth_m, ↓dMake_k, ↓dGtup, ↓dGcons, ↓dGnil, true_and, and_true, Nat.add_zero, reduceCtorEq, ↓reduceIte, Bool.not_true, Bool.not_false, Bool.false_eq_true, if_true, if_false])
local macro_rules | `(tactic| walk_at "dl*") => `(tactic| simp -implicitDefEqProofs only [*, ↓dFmt, ↓dJsE, ↓dJs, ↓dSumL, ↓dAllL, ↓dAnyL, ↓dPartn, ↓dStrip, ↓dStripC, ↓dLower, ↓dUpper, ↓dRfind, ↓dCount, ↓okL, ↓dGunl, ↓dLc2_k, ↓dStarL, ↓dListT, ↓dTupT, ↓dSetK, ↓dSortS, ↓dEqL, ↓dOnL, ↓dTupRg, ↓dLstRg, ↓dInT, ↓dSetT, ↓dZipT, ↓dSetAll, ↓dEqO, ↓dMulT, ↓dSeq, ↓dIfS, ↓dTB, ↓dOp, ↓dVar, ↓dC, ↓dLt, ↓dLe, ↓dGt, ↓dGe, ↓rII, ↓rIIc, ↓dCB, ↓dCons, ↓dNil, ↓dLen, ↓dInt, ↓dRet, ↓dRetN, ↓dNext, ↓dIx, ↓dAt, ↓startD, List.map_cons, List.map_nil, List.cons_append, List.nil_append, List.append_nil, List.length_cons, List.length_nil, List.getElem?_cons_zero, List.getElem?_cons_succ, List.length_map, ↓dAsg, ↓dName, ↓dNew_k, ↓dLst, ↓dFor_k, ↓dRng1, ↓dRng2, ↓dCall_k, ↓dAdd, ↓dSub, ↓dMul, ↓dMod, ↓dFdiv, ↓dPow, ↓dEq, ↓dNe, ↓scd, ↓dIsN, ↓dNotN, ↓dIsB, ↓dNotB, ↓dUn, ↓dNeg, ↓dTru, ↓dTruS, ↓dAnd, ↓dOr, ↓dNot, ↓dNotV, ↓dAndV, ↓dOrV, ↓dIfE, ↓dTup, ↓dDrop, ↓dBM, ↓dBM0, ↓tyD, ↓dApp, ↓dSetL, ↓dAsL, ↓dOnL, ↓dOnN_k, ↓dIsi, ↓tyName, isT, ↓dBreak, ↓dCont, ↓dPar, ↓endsD, List.set_cons_zero, List.set_cons_succ, List.replicate_succ, List.replicate_zero, su_same, ↓dLc_k, ↓dWhile_k, ↓dWipe, ↓dYes, ↓dIt, ↓dItN, ↓dSlice, ↓dPart, ↓dNoP, ↓dCut, ↓dSliceE, ↓dIxL, ↓dChain, ↓dIn, ↓dNotIn, ↓dInS, ↓mS0, ↓mS1, ↓dSta, ↓dEnd, ↓dFind, ↓dIsasc, ↓dIsdig, ↓dIsalp, ↓dIsaln, ↓dIslow, ↓dIspri, ↓okT, ↓okU, ↓ok2, ↓dFind4, ↓dSplit, ↓dJoin, ↓dJoinT, ↓dMulS, ↓dCatL, ↓dCatE, ↓dCatR, ↓dCatEE, ↓dStar, ↓dIntS, ↓dStr, ↓dMax, ↓dMin, ↓dII, ↓dFld_m, ↓dSetF_m, ↓dMeth_m, ↓dMake_k, ↓dGtup, ↓dGcons, ↓dGnil, true_and, and_true, Nat.add_zero, reduceCtorEq, ↓reduceIte, Bool.not_true, Bool.not_false, Bool.false_eq_true, if_true, if_false])
def gT (m : List Nat) (fs : List (List Nat)) (xs : List Int) (r : Rc) : D := .tup ((gfl m fs xs r).map D.str)
theorem step_k10 {Q : QD} {b pm p3 p4 q : Addr} {nx ch fl : Int} {us : List Rc} {gone : List (Int × Int)} {xs : List Int} {m : List Nat} {fs : List (List Nat)} {k : Nat} {S : Sh} {x4 x9 x10 x11 x12 x13 : Option D}
    (A : BoxA S b pm p3 p4) (M : Mod S pm p3 p4 nx (ch + 1) fl us gone) (I : BInv k nx ch fl us gone) (hk : k < 8) (lx : xs.length ≤ 300) (ab : Abc fs) (l3 : fs.length ≤ 2) (hq : S q = some (.lst (us.map (gT m fs xs)))) (q1 : q ≠ pm) (q3 : q ≠ p3) (q4 : q ≠ p4)
    (ne : us.map (gfl m fs xs) ≠ us.map (·.fl)) (h' : Hd (Fin b pm p3 p4 k Q)) :
    llaw_step_k10 (endsD Q) (stp b pm (boxD nx ch fl us gone) k x4 xs (some (.str m)) (some (.tup (fs.map D.str))) (some (.rf q)) x9 x10 x11 x12 x13) S := by
  have sz := sz6
  have ll := I.len
  unfold llaw_step_k10 stp
  walk_at "dl*"
  obtain ⟨m1, m2, m3, m4, m5, m6⟩ := id M
  have a3 := fun a b c d e => (at5 (a := a) (b := b) (c := c) (d := d) (e := e)).2.2.2.1
  have a1 := fun a b c d e => (at5 (a := a) (b := b) (c := c) (d := d) (e := e)).2.1
  refine ⟨by omega, by omega, ?_⟩
  refine loop_pre (fun pre δ S' => But pm p3 p4 S S' ∧ S' pm = some (.lst [.int nx, .int (ch + 1), .int fl, .rf p3, .rf p4]) ∧ S' p4 = some (.lst (gone.map pD)) ∧ ∃ (dn td : List Rc) (y9 y10 : Option D), dn ++ td = us ∧ dn.length = pre.length ∧ S' p3 = some (.lst ((dn.map (wfx (ch + 1) m fs xs) ++ td).map recD)) ∧ δ = stp b pm (boxD nx ch fl us gone) k x4 xs (some (.str m)) (some (.tup (fs.map D.str))) (some (.rf q)) y9 y10 x11 x12 x13)
    ⟨fun _ _ _ _ _ => rfl, m1, m3, [], us, x9, x10, rfl, rfl, m2, rfl⟩ ?_ (fun _ _ _ _ => trivial) ?_
  · rintro pre x post e δ S' N ⟨B, s1, s4, dn, td, y9, y10, e1, e2, s3, rfl⟩ hN
    obtain ⟨rfl, hj⟩ := rng_split e
    rw [Int.toNat_natCast] at hj
    cases td with
    | nil =>
      have := congrArg List.length e1
      rw [List.append_nil] at this
      omega
    | cons r td =>
      have gq : S' q = some (.lst (us.map (gT m fs xs))) := (B q q1 q3 q4 ⟨_, hq⟩).trans hq
      have hr : r ∈ us := by rw [← e1]; exact List.mem_append_right _ (List.mem_cons_self ..)
      have ok := (I.ok r hr).1
      have aG : atI (us.map (gT m fs xs)) (0 + (pre.length : Int)) = some (.tup ((gfl m fs xs r).map D.str)) := by
        rw [Int.zero_add, ← e2]
        refine atI_nat ?_
        rw [← e1, List.getElem?_map, List.getElem?_append_right (Nat.le_refl _), Nat.sub_self]; rfl
      have aL : atI ((dn.map (wfx (ch + 1) m fs xs) ++ r :: td).map recD) (0 + (pre.length : Int)) = some (.tup [.str [107, 101, 112, 116], .int r.uid, .int r.ch, .tup (r.fl.map D.str), .int r.tn, letD r.n r.ln]) := by
        rw [Int.zero_add, ← e2]
        refine atI_nat ?_
        rw [List.getElem?_map, List.getElem?_append_right (by rw [List.length_map]; exact Nat.le_refl _), List.length_map, Nat.sub_self]; rfl
      have iL : ixN ((dn.map (wfx (ch + 1) m fs xs) ++ r :: td).map recD).length (0 + (pre.length : Int)) = some pre.length := by
        rw [Int.zero_add]
        unfold ixN
        rw [if_pos (by omega), if_pos (by rw [List.length_map, List.length_append, List.length_map, List.length_cons]; omega), Int.toNat_natCast]
      have sL : ∀ v, ((dn.map (wfx (ch + 1) m fs xs) ++ r :: td).map recD).set pre.length (recD v) = ((dn.map (wfx (ch + 1) m fs xs) ++ v :: td).map recD) := fun v => by
        rw [← List.map_set, ← e2, List.set_append, if_neg (by rw [List.length_map]; omega), List.length_map, Nat.sub_self]; rfl
      have hL : ((dn.map (wfx (ch + 1) m fs xs) ++ wfx (ch + 1) m fs xs r :: td)) = (dn ++ [r]).map (wfx (ch + 1) m fs xs) ++ td := by
        rw [List.map_append, List.append_assoc]; rfl
      generalize hLL : (dn.map (wfx (ch + 1) m fs xs) ++ r :: td).map recD = L at s3 aL iL sL
      generalize us.map (gT m fs xs) = G at gq aG
      have hN' := Hd.mk hN
      have we := Hd.mk (wfx_eq (ch + 1) m fs xs r)
      have hL' := Hd.mk hL
      have sL' := Hd.mk sL
      have B' := Hd.mk B
      have e1' := Hd.mk e1
      have pf : psd (.tup ((gfl m fs xs r).map D.str)) = true := psd_strs (gfl_abc ok.abc ab)
      have pr : psd (.tup (r.fl.map D.str)) = true := psd_strs ok.abc
      have hx := Hd.mk (And.intro pf pr)
      have t3 : atI [D.str [107, 101, 112, 116], .int r.uid, .int r.ch, .tup (r.fl.map D.str), .int r.tn, letD r.n r.ln] 3 = some (.tup (r.fl.map D.str)) := rfl
      have t1 : atI [D.str [107, 101, 112, 116], .int r.uid, .int r.ch, .tup (r.fl.map D.str), .int r.tn, letD r.n r.ln] 1 = some (.int r.uid) := rfl
      have t4 : atI [D.str [107, 101, 112, 116], .int r.uid, .int r.ch, .tup (r.fl.map D.str), .int r.tn, letD r.n r.ln] 4 = some (.int r.tn) := rfl
      have t5 : atI [D.str [107, 101, 112, 116], .int r.uid, .int r.ch, .tup (r.fl.map D.str), .int r.tn, letD r.n r.ln] 5 = some (letD r.n r.ln) := rfl
      clear hN hL B e1 pf pr sL e A M I ne h' ok hr
      unfold stp
      walk_at "dl*"
      unfold llaw_step_b10_1
      walk_at "dl*"
      refine neT_psd hx.a.1 hx.a.2 (by rw [dep_strsD]; decide) (by rw [dep_strsD]; decide) (fun e => ?_) fun e => ?_
      · have e' : gfl m fs xs r = r.fl := str_map_inj (by injection e)
        have w1 := we.a
        rw [if_pos e'] at w1
        dsimp only
        rw [if_neg Bool.false_ne_true]
        refine hN'.a _ _ ⟨B'.a, s1, s4, dn ++ [r], td, _, _, by rw [List.append_assoc]; exact e1'.a, by rw [List.length_append, List.length_append, e2]; rfl, ?_, rfl⟩
        rw [← hL'.a, w1, hLL]; exact s3
      · have e' : gfl m fs xs r ≠ r.fl := fun z => e (by rw [z])
        have w1 := we.a
        rw [if_neg e'] at w1
        simp only [↓reduceIte, s1, a1, a3, gq, aG, s3, iL]
        refine ⟨by omega, hN'.a _ _ ⟨?_, by rw [su_ne m4]; exact s1, by rw [su_ne (Ne.symm m6)]; exact s4, dn ++ [r], td, _, _, by rw [List.append_assoc]; exact e1'.a, by rw [List.length_append, List.length_append, e2]; rfl, ?_, rfl⟩⟩
        · intro x x1 x2 x3 hx
          rw [su_ne x2]; exact B'.a x x1 x2 x3 hx
        · rw [su_same, ← hL'.a, w1]
          exact congrArg (fun l => some (MO.lst l)) (sL'.a { r with ch := ch + 1, fl := gfl m fs xs r })
  · rintro δ S' ⟨B, s1, s4, dn, td, y9, y10, e1, e2, s3, rfl⟩
    rw [rng_len, Int.toNat_natCast] at e2
    have et : td = [] := by
      have := congrArg List.length e1
      rw [List.length_append] at this
      exact List.eq_nil_of_length_eq_zero (by omega)
    subst et
    rw [List.append_nil] at e1 s3
    subst e1
    have J := I.flags hk (m := m) (fs := fs) (xs := xs) (ch + 1) ab l3 (ch' := ch + 1) (by omega)
    have AB := A.but B
    have fin := h'.a nx (ch + 1) fl _ gone S' AB ⟨s1, s3, s4, m4, m5, m6⟩ J
    have nq : flg (ch + 1) m fs xs dn ≠ dn := fun z => ne ((flg_iff ..).mp z)
    have fin' := Hd.mk fin
    have I' := Hd.mk I
    have nq' := Hd.mk nq
    have ab' := Hd.mk ab
    clear fin I nq J AB A M h' ne ab
    unfold llaw_step_k11 stp
    walk_at "dl*"
    refine ⟨nx, ch, fl, dn, gone, xs, m, fs, rfl, fun r hr => (I'.a.ok r hr).1, by omega, lx, ab'.a, by omega, ?_⟩
    rw [if_neg nq'.a]
    exact ⟨S', Sle.refl S', fin'.a⟩
theorem step_k8 {Q : QD} {b pm p3 p4 q : Addr} {nx ch fl : Int} {us : List Rc} {gone : List (Int × Int)} {xs : List Int} {m : List Nat} {fs : List (List Nat)} {k : Nat} {S : Sh} {x4 x9 x10 x11 x12 x13 : Option D}
    (A : BoxA S b pm p3 p4) (M : Mod S pm p3 p4 nx ch fl us gone) (I : BInv k nx ch fl us gone) (hk : k < 8) (lx : xs.length ≤ 300) (ab : Abc fs) (l3 : fs.length ≤ 2) (hq : S q = some (.lst (us.map (gT m fs xs)))) (q1 : q ≠ pm) (q3 : q ≠ p3) (q4 : q ≠ p4)
    (h' : Hd (Fin b pm p3 p4 k Q)) :
    llaw_step_k8 (endsD Q) (stp b pm (boxD nx ch fl us gone) k x4 xs (some (.str m)) (some (.tup (fs.map D.str))) (some (.rf q)) x9 x10 x11 x12 x13) S := by
  have sz := sz6
  have ll := I.len
  obtain ⟨m1, m2, m3, m4, m5, m6⟩ := id M
  have a3 := fun a b c d e => (at5 (a := a) (b := b) (c := c) (d := d) (e := e)).2.2.2.1
  have a1 := fun a b c d e => (at5 (a := a) (b := b) (c := c) (d := d) (e := e)).2.1
  obtain ⟨i1, i0, i2⟩ := ix5
  unfold llaw_step_k8 stp
  walk_at "dl*"
  refine comp_mapA recD (fun r => .tup (r.fl.map D.str)) m2 _ [] (fun r hr R hR => ?_) (by rw [List.length_nil]; omega) ?_
  · have hR' := Hd.mk hR
    clear hR
    have t3 : atI [D.str [107, 101, 112, 116], .int r.uid, .int r.ch, .tup (r.fl.map D.str), .int r.tn, letD r.n r.ln] 3 = some (.tup (r.fl.map D.str)) := rfl
    show (dName 9) (.tup [.str [107, 101, 112, 116], .int r.uid, .int r.ch, .tup (r.fl.map D.str), .int r.tn, letD r.n r.ln]) _ S _
    walk_at "dl*"
    exact hR'.a
  · rw [hq]
    dsimp only
    rw [List.nil_append]
    have p1 : psds (us.map (gT m fs xs)) = true := psds_of fun x hx => by
      obtain ⟨r, hr, rfl⟩ := List.mem_map.mp hx
      exact psd_strs (gfl_abc (I.ok r hr).1.abc ab)
    have p2 : psds (us.map fun r => .tup (r.fl.map D.str)) = true := psds_of fun x hx => by
      obtain ⟨r, hr, rfl⟩ := List.mem_map.mp hx
      exact psd_strs (I.ok r hr).1.abc
    have d1 : deps (us.map (gT m fs xs)) ≤ 1 := deps_of fun x hx => by
      obtain ⟨r, hr, rfl⟩ := List.mem_map.mp hx
      show dep (.tup ((gfl m fs xs r).map D.str)) ≤ 1
      rw [dep_strsD]; exact Nat.le_refl 1
    have d2 : deps (us.map fun r => D.tup (r.fl.map D.str)) ≤ 1 := deps_of fun x hx => by
      obtain ⟨r, hr, rfl⟩ := List.mem_map.mp hx
      rw [dep_strsD]; exact Nat.le_refl 1
    refine eqL_psd p1 p2 (by omega) (by omega) (fun e => ?_) fun e => ?_
    · have e' : us.map (gfl m fs xs) = us.map (·.fl) := List.map_congr_left fun r hr => by
        have := List.map_inj_left.mp e r hr
        exact str_map_inj (by injection this)
      have e2 := (flg_iff (ch + 1) m fs xs us).mpr e'
      have J := I.flags hk (m := m) (fs := fs) (xs := xs) (ch + 1) ab l3 (Int.le_refl ch)
      rw [e2] at J
      dsimp only
      rw [if_pos rfl]
      refine ⟨rfl, nx, ch, fl, us, gone, xs, m, fs, rfl, fun r hr => (I.ok r hr).1, by omega, lx, ab, by omega, ?_⟩
      rw [if_pos e2]
      exact ⟨S, Sle.refl S, h'.a _ _ _ _ _ S A M J⟩
    · have ne : us.map (gfl m fs xs) ≠ us.map (·.fl) := fun z => e (List.map_congr_left fun r hr => by
        have := List.map_inj_left.mp z r hr
        show D.tup ((gfl m fs xs r).map D.str) = _
        rw [this])
      dsimp only
      rw [if_neg Bool.false_ne_true]
      clear p1 p2 d1 d2 e
      have key := step_k10 (Q := Q) (x4 := x4) (x9 := x9) (x10 := x10) (x11 := x11) (x12 := x12) (x13 := x13) (S := su S pm (.lst [.int nx, .int (ch + 1), .int fl, .rf p3, .rf p4])) (A.but fun x x1 _ _ _ => su_ne x1) ⟨su_same, by rw [su_ne (Ne.symm m4)]; exact m2, by rw [su_ne (Ne.symm m5)]; exact m3, m4, m5, m6⟩ I hk lx ab l3 (by rw [su_ne q1]; exact hq) q1 q3 q4 ne h'
      have key' := Hd.mk key
      clear key
      unfold llaw_step_k9
      walk_at "dl*"
      exact key'.a
theorem step_k6 {Q : QD} {b pm p3 p4 : Addr} {nx ch fl : Int} {us : List Rc} {gone : List (Int × Int)} {xs : List Int} {m : List Nat} {fs : List (List Nat)} {k : Nat} {S : Sh} {x4 x8 x9 x10 x11 x12 x13 : Option D}
    (A : BoxA S b pm p3 p4) (M : Mod S pm p3 p4 nx ch fl us gone) (I : BInv k nx ch fl us gone) (hk : k < 8) (lx : xs.length ≤ 300) (ab : Abc fs) (l3 : fs.length ≤ 2)
    (h' : Hd (Fin b pm p3 p4 k Q)) :
    llaw_step_k6 (endsD Q) (stp b pm (boxD nx ch fl us gone) k x4 xs (some (.str m)) (some (.tup (fs.map D.str))) x8 x9 x10 x11 x12 x13) S := by
  have sz := sz6
  have ll := I.len
  obtain ⟨m1, m2, m3, m4, m5, m6⟩ := id M
  have a3 := fun a b c d e => (at5 (a := a) (b := b) (c := c) (d := d) (e := e)).2.2.2.1
  unfold llaw_step_k6 stp
  walk_at "dl*"
  refine ⟨by omega, fun q hq => ?_⟩
  unfold llaw_step_k7
  have n1 : q ≠ pm := fun e => by rw [e, m1] at hq; cases hq
  have n3 : q ≠ p3 := fun e => by rw [e, m2] at hq; cases hq
  have g1 : ∀ o, su S q o pm = some (.lst [.int nx, .int ch, .int fl, .rf p3, .rf p4]) := fun o => by rw [su_ne (Ne.symm n1)]; exact m1
  have g2 : ∀ o, su S q o p3 = some (.lst (us.map recD)) := fun o => by rw [su_ne (Ne.symm n3)]; exact m2
  walk_at "dl*"
  have n4 : q ≠ p4 := fun e => by rw [e, m3] at hq; cases hq
  refine loop_inv (fun rest δ S' => ∃ (dn td : List Rc) (y9 : Option D), dn ++ td = us ∧ rest = td.map recD ∧ S' = su S q (.lst (dn.map (gT m fs xs))) ∧ δ = stp b pm (boxD nx ch fl us gone) k x4 xs (some (.str m)) (some (.tup (fs.map D.str))) (some (.rf q)) y9 x10 x11 x12 x13) ?_ ?_ ?_ _ _ _ ⟨[], us, x9, rfl, rfl, rfl, rfl⟩
  · rintro x rest δ S' N ⟨dn, td, y9, e1, e2, rfl, rfl⟩ hN
    cases td with
    | nil => cases e2
    | cons r td =>
      injection e2 with e2 e3
      subst e2
      subst e3
      have hr : r ∈ us := by rw [← e1]; exact List.mem_append_right _ (List.mem_cons_self ..)
      have ok := (I.ok r hr).1
      have ld : dn.length ≤ us.length := by rw [← e1, List.length_append]; omega
      have ii := in_ints r.uid xs
      have t1 : atI [D.str [107, 101, 112, 116], .int r.uid, .int r.ch, .tup (r.fl.map D.str), .int r.tn, letD r.n r.ln] 1 = some (.int r.uid) := rfl
      have t3 : atI [D.str [107, 101, 112, 116], .int r.uid, .int r.ch, .tup (r.fl.map D.str), .int r.tn, letD r.n r.ln] 3 = some (.tup (r.fl.map D.str)) := rfl
      have hN' := Hd.mk hN
      have e1' := Hd.mk e1
      have okf := ok.fl
      have s0 : su S q (.lst (dn.map (gT m fs xs))) q = some (.lst (dn.map (gT m fs xs))) := su_same
      have lG : (dn.map (gT m fs xs)).length ≤ 300 := by rw [List.length_map]; omega
      have fin : ∀ v, v = gT m fs xs r → N (stp b pm (boxD nx ch fl us gone) k x4 xs (some (.str m)) (some (.tup (fs.map D.str))) (some (.rf q)) (some (recD r)) x10 x11 x12 x13) (su (su S q (.lst (dn.map (gT m fs xs)))) q (.lst (dn.map (gT m fs xs) ++ [v]))) := fun v hv => by
        subst hv
        refine hN'.a _ _ ⟨dn ++ [r], td, _, by rw [List.append_assoc]; exact e1'.a, rfl, ?_, rfl⟩
        rw [su_su, List.map_append]; rfl
      have fin' := Hd.mk fin
      clear hN hN' e1 I A M ok hr fin
      generalize dn.map (gT m fs xs) = G at fin' s0 lG
      show (dName 9) (.tup [.str [107, 101, 112, 116], .int r.uid, .int r.ch, .tup (r.fl.map D.str), .int r.tn, letD r.n r.ln]) _ _ _
      unfold stp
      walk_at "dl*"
      refine ⟨⟨_, rfl⟩, rfl, flat_ints xs, ifb (fun z => ?_) fun z => ?_⟩
      · refine ⟨r.fl, m, fs, rfl, okf, by omega, ?_⟩
        dsimp only
        rw [s0]
        exact ⟨by omega, fin'.a _ (by unfold gT gfl; rw [if_pos z])⟩
      · exact ⟨by omega, fin'.a _ (by unfold gT gfl; rw [if_neg z])⟩
  · rintro rest δ S' ⟨dn, td, y9, _, _, rfl, _⟩
    exact g2 _
  · rintro δ S' ⟨dn, td, y9, e1, e2, rfl, rfl⟩
    cases td with
    | cons u td => cases e2
    | nil =>
      rw [List.append_nil] at e1
      subst e1
      exact step_k8 (A.but fun x _ _ _ hx => su_ne (fun e => by obtain ⟨o, ho⟩ := hx; rw [e, hq] at ho; cases ho)) ⟨g1 _, g2 _, by rw [su_ne (Ne.symm n4)]; exact m3, m4, m5, m6⟩ I hk lx ab l3 su_same n1 n3 n4 h'
end LW

set_option Elab.async false
set_option linter.all false
set_option maxRecDepth 100000
set_option maxHeartbeats 4000000
namespace LW
open PySem PySem.Spec L2 DL
local macro_rules | `(tactic| walk_at "dl") => `(tactic| simp -implicitDefEqProofs only [↓dFmt, ↓dJsE, ↓dJs, ↓dSumL, ↓dAllL, ↓dAnyL, ↓dPartn, ↓dStrip, ↓dStripC, ↓dLower, ↓dUpper, ↓dRfind, ↓dCount, ↓okL, ↓dGunl, ↓dLc2_k, ↓dStarL, ↓dListT, ↓dTupT, ↓dSetK, ↓dSortS, ↓dEqL, ↓dOnL, ↓dTupRg, ↓dLstRg, ↓dInT, ↓dSetT, ↓dZipT, ↓dSetAll, ↓dEqO, ↓dMulT, ↓dSeq, ↓dIfS, ↓dTB, ↓dOp, ↓dVar, ↓dC, ↓dLt, ↓dLe, ↓dGt, ↓dGe, ↓rII, ↓rIIc, ↓dCB, ↓dCons, ↓dNil, ↓dLen, ↓dInt, ↓dRet, ↓dRetN, ↓dNext, ↓dIx, ↓dAt, ↓startD, List.map_cons, List.map_nil, List.cons_append, List.nil_append, List.append_nil, List.length_cons, List.length_nil, List.getElem?_cons_zero, List.getElem?_cons_succ, List.length_map, ↓dAsg, ↓dName, ↓dNew_k, ↓dLst, ↓dFor_k, ↓dRng1, ↓dRng2, ↓dCall_k, ↓dAdd, ↓dSub, ↓dMul, ↓dMod, ↓dFdiv, ↓dPow, ↓dEq, ↓dNe, ↓scd, ↓dIsN, ↓dNotN, ↓dIsB, ↓dNotB, ↓dUn, ↓dNeg, ↓dTru, ↓dTruS, ↓dAnd, ↓dOr, ↓dNot, ↓dNotV, ↓dAndV, ↓dOrV, ↓dIfE, ↓dTup, ↓dDrop, ↓dBM, ↓dBM0, ↓tyD, ↓dApp, ↓dSetL, ↓dAsL, ↓dOnL, ↓dOnN_k, ↓dIsi, ↓tyName, isT, ↓dBreak, ↓dCont, ↓dPar, ↓endsD, List.set_cons_zero, List.set_cons_succ, List.replicate_succ, List.replicate_zero, su_same, ↓dLc_k, ↓dWhile_k, ↓dWipe, ↓dYes, ↓dIt, ↓dItN, ↓dSlice, ↓dPart, ↓dNoP, ↓dCut, ↓dSliceE, ↓dIxL, ↓dChain, ↓dIn, ↓dNotIn, ↓dInS, ↓mS0, ↓mS1, ↓dSta, ↓dEnd, ↓dFind, ↓dIsasc, ↓dIsdig, ↓dIsalp, ↓dIsaln, ↓dIslow, ↓dIspri, ↓okT, ↓okU, ↓ok2, ↓dFind4, ↓dSplit, ↓dJoin, ↓dJoinT, ↓dMulS, ↓dCatL, ↓dCatE, ↓dCatR, ↓dCatEE, ↓dStar, ↓dIntS, ↓dStr, ↓dMax, ↓dMin, ↓dII, ↓dFld_m, ↓dSetF_m, ↓dMeth_m, ↓dMake_k, ↓dGtup, ↓dGcons, ↓dGnil, true_and, and_true, Nat.add_zero, reduceCtorEq, ↓reduceIte, Bool.not_true, Bool.not_false, Bool.false_eq_true, if_true, if_false])
local macro_rules | `(tactic| walk_at "dl*") => `(tactic| simp -implicitDefEqProofs only [*, ↓dFmt, ↓dJsE, ↓dJs, ↓dSumL, ↓dAllL, ↓dAnyL, ↓dPartn, ↓dStrip, ↓dStripC, ↓dLower, ↓dUpper, ↓dRfind, ↓dCount, ↓okL, ↓dGunl, ↓dLc2_k, ↓dStarL, ↓dListT, ↓dTupT, ↓dSetK, ↓dSortS, ↓dEqL, ↓dOnL, ↓dTupRg, ↓dLstRg, ↓dInT, ↓dSetT, ↓dZipT, ↓dSetAll, ↓dEqO, ↓dMulT, ↓dSeq, ↓dIfS, ↓dTB, ↓dOp, ↓dVar, ↓dC, ↓dLt, ↓dLe, ↓dGt, ↓dGe, ↓rII, ↓rIIc, ↓dCB, ↓dCons, ↓dNil, ↓dLen, ↓dInt, ↓dRet, ↓dRetN, ↓dNext, ↓dIx, ↓dAt, ↓startD, List.map_cons, List.map_nil, List.cons_append, List.nil_append, List.append_nil, List.length_cons, List.length_nil, List.getElem?_cons_zero, List.getElem?_cons_succ, List.length_map, ↓dAsg, ↓dName, ↓dNew_k, ↓dLst, ↓dFor_k, ↓dRng1, ↓dRng2, ↓dCall_k, ↓dAdd, ↓dSub, ↓dMul, ↓dMod, ↓dFdiv, ↓dPow, ↓dEq, ↓dNe, ↓scd, ↓dIsN, ↓dNotN, ↓dIsB, ↓dNotB, ↓dUn, ↓dNeg, ↓dTru, ↓dTruS, ↓dAnd, ↓dOr, ↓dNot, ↓dNotV, ↓dAndV, ↓dOrV, ↓dIfE, ↓dTup, ↓dDrop, ↓dBM, ↓dBM0, ↓tyD, ↓dApp, ↓dSetL, ↓dAsL, ↓dOnL, ↓dOnN_k, ↓dIsi, ↓tyName, isT, ↓dBreak, ↓dCont, ↓dPar, ↓endsD, List.set_cons_zero, List.set_cons_succ, List.replicate_succ, List.replicate_zero, su_same, ↓dLc_k, ↓dWhile_k, ↓dWipe, ↓dYes, ↓dIt, ↓dItN, ↓dSlice, ↓dPart, ↓dNoP, ↓dCut, ↓dSliceE, ↓dIxL, ↓dChain, ↓dIn, ↓dNotIn, ↓dInS, ↓mS0, ↓mS1, ↓dSta, ↓dEnd, ↓dFind, ↓dIsasc, ↓dIsdig, ↓dIsalp, ↓dIsaln, ↓dIslow, ↓dIspri, ↓okT, ↓okU, ↓ok2, ↓dFind4, ↓dSplit, ↓dJoin, ↓dJoinT, ↓dMulS, ↓dCatL, ↓dCatE, ↓dCatR, ↓dCatEE, ↓dStar, ↓dIntS, ↓dStr, ↓dMax, ↓dMin, ↓dII, ↓dFld_m, ↓dSetF_m, ↓dMeth_m, ↓dMake_k, ↓dGtup, ↓dGcons, ↓dGnil, true_and, and_true, Nat.add_zero, reduceCtorEq, ↓reduceIte, Bool.not_true, Bool.not_false, Bool.false_eq_true, if_true, if_false])
theorem gone_len (ch : Int) (gone : List (Int × Int)) (xs : List Int) : (goneN (prs ch gone xs)).length ≤ 200 := by
  unfold goneN
  rw [srt_len, List.length_map, List.length_drop]
  omega
theorem fl_inv {ch fl : Int} {gone : List (Int × Int)} {xs : List Int} (g5 : fl ≤ ch) (g6 : ∀ p ∈ gone, fl ≤ p.2 ∧ p.2 ≤ ch) : flN fl (prs ch gone xs) ≤ ch + 1 ∧ ∀ p ∈ goneN (prs ch gone xs), flN fl (prs ch gone xs) ≤ p.2 ∧ p.2 ≤ ch + 1 := by
  have all : ∀ p ∈ prs ch gone xs, fl ≤ p.1 ∧ p.1 ≤ ch + 1 := fun p hp => by
    rcases List.mem_append.mp ((srt_perm _).mem_iff.mp hp) with z | z
    · obtain ⟨g, hg, rfl⟩ := List.mem_map.mp z
      have := g6 g hg
      exact ⟨this.1, by show g.2 ≤ _; omega⟩
    · obtain ⟨u, _, rfl⟩ := List.mem_map.mp z
      exact ⟨by show fl ≤ ch + 1; omega, Int.le_refl _⟩
  have so : (prs ch gone xs).Pairwise lexle := srt_sorted _
  generalize prs ch gone xs = ps at all so
  have mem : ∀ q ∈ goneN ps, ∃ r, r ∈ ps.drop (ps.length - 200) ∧ q.2 = r.1 := fun q hq => by
    obtain ⟨r, hr, rfl⟩ := List.mem_map.mp ((srt_perm _).mem_iff.mp hq)
    exact ⟨r, hr, rfl⟩
  by_cases hl : 200 < ps.length
  · have e1 : ps[ps.length - 201]? = some (ps[ps.length - 201]'(by omega)) := List.getElem?_eq_getElem _
    have hm : ps[ps.length - 201]'(by omega) ∈ ps := List.getElem_mem _
    have ed : ps.drop (ps.length - 201) = ps[ps.length - 201]'(by omega) :: ps.drop (ps.length - 200) := by
      rw [List.drop_eq_getElem_cons (by omega), show ps.length - 201 + 1 = ps.length - 200 by omega]
    generalize ps[ps.length - 201]'(by omega) = p at e1 hm ed
    have ef : flN fl ps = p.1 := by unfold flN; rw [if_pos hl, e1]
    have so2 := so.sublist (List.drop_sublist (ps.length - 201) ps)
    rw [ed] at so2
    rw [ef]
    refine ⟨(all p hm).2, fun q hq => ?_⟩
    obtain ⟨r, hr, hqr⟩ := mem q hq
    have h1 : p.1 < r.1 ∨ (p.1 = r.1 ∧ p.2 ≤ r.2) := (List.pairwise_cons.mp so2).1 r hr
    have h2 := (all r (List.mem_of_mem_drop hr)).2
    rw [hqr]
    omega
  · have ef : flN fl ps = fl := by unfold flN; rw [if_neg hl]
    rw [ef]
    refine ⟨by omega, fun q hq => ?_⟩
    obtain ⟨r, hr, hqr⟩ := mem q hq
    rw [hqr]
    exact all r (List.mem_of_mem_drop hr)
def put5 : SD := (dRet (dOp dIx (dVar 12) (dC (.int 0))))
def put4 : SD := dSeq (dIfS (dOr (dNot (dTru (dIsi .tTuple (dVar 12)))) (dOr (dTB (dOp dNe (dCB dLen (dCons (dVar 12) dNil)) (dC (.int 2)))) (dNot (dTru (dCall 2 (sp_same 8) [] (dCons (dOp dIx (dVar 12) (dC (.int 1))) (dCons (dVar 13) dNil))))))) (dRet (dC .non)) dNext) put5
def put3 : SD := dSeq (dAsg (dCall 2 sp_llaw_put [] (dCons (dVar 1) (dCons (dVar 11) dNil))) (dName 13)) put4
def put2 : SD := dSeq (dAsg (dCall 2 sp_put_in [] (dCons (dVar 2) (dCons (dVar 11) dNil))) (dName 12)) put3
def putS : SD := dSeq (dAsg (dOnL (fun ds S Q => Q (.tup ds) S) (dLc (dRng1 (dCons (dOp dAdd (dC (.int 1)) (dCall 2 sp_llaw_draw [] (dCons (dVar 0) (dCons (dC (.int 3)) dNil)))) dNil)) (dName 10) dYes (dTup (dCons (dSlice (dTup (dCons (dC (.str [97])) (dCons (dC (.str [98])) dNil))) dNoP (dPart (dCall 2 sp_llaw_draw [] (dCons (dVar 0) (dCons (dC (.int 3)) dNil))))) (dCons (dOp dAdd (dVar 3) (dVar 10)) (dCons (dCall 2 sp_llaw_letter [] (dCons (dOp dAdd (dOp dMul (dVar 3) (dC (.int 9))) (dVar 10)) (dCons (dCall 2 sp_llaw_draw [] (dCons (dVar 0) (dCons (dC (.int 3)) dNil))) dNil))) dNil)))) [10])) (dName 11)) put2
theorem cut_put : llaw_step_k2 = dSeq (dIfS (dOr (dTB (dOp dLt (dVar 4) (dC (.int 2)))) (dTB (dOp dEqT (dVar 5) (dTup dNil)))) putS dNext) llaw_step_k3 := rfl
theorem BInv.take {k : Nat} {nx ch fl : Int} {us : List Rc} {gone : List (Int × Int)} (I : BInv k nx ch fl us gone) (xs : List Int) : BInv (k + 1) nx (ch + 1) (flN fl (prs ch gone xs)) (out us xs) (goneN (prs ch gone xs)) where
  len := by have := I.len; have : (out us xs).length ≤ us.length := List.length_filter_le _ _; omega
  gl := gone_len ch gone xs
  nx0 := I.nx0
  nx1 := by have := I.nx1; omega
  uid := fun r hr => I.uid r (List.mem_filter.mp hr).1
  nd := I.nd.filter _
  ok := fun r hr => by
    obtain ⟨o, l⟩ := I.ok r (List.mem_filter.mp hr).1
    exact ⟨o, by omega⟩
  flc := (fl_inv I.flc I.go).1
  go := (fl_inv I.flc I.go).2
theorem put_rng {ch : Int} : ∀ {ws : List Rw} {nx : Int} {r : Rc}, r ∈ putR nx ch ws → nx ≤ r.uid ∧ r.uid < nx + ws.length
  | [], _, r, h => by cases h
  | w :: ws, nx, r, h => by
    rw [List.length_cons]
    rcases List.mem_cons.mp h with rfl | h
    · show nx ≤ nx ∧ nx < _; omega
    · have := put_rng h; omega
theorem put_nd {ch : Int} : ∀ (ws : List Rw) (nx : Int), (putR nx ch ws).Pairwise fun r q => r.uid < q.uid
  | [], _ => List.Pairwise.nil
  | w :: ws, nx => List.pairwise_cons.mpr ⟨fun r hr => by have := put_rng hr; show nx < _; omega, put_nd ws (nx + 1)⟩
theorem put_ok {ch : Int} : ∀ {ws : List Rw} {nx : Int} {r : Rc}, (∀ w ∈ ws, Wok w) → r ∈ putR nx ch ws → Rok r ∧ r.fl.length ≤ 2
  | [], _, r, _, h => by cases h
  | w :: ws, nx, r, hw, h => by
    rcases List.mem_cons.mp h with rfl | h
    · have o := hw w (List.mem_cons_self ..)
      exact ⟨⟨o.n0, o.n1, o.ln, o.abc, Nat.le_trans o.fl (by decide)⟩, o.fl⟩
    · exact put_ok (fun w hw' => hw w (List.mem_cons_of_mem _ hw')) h
theorem BInv.put {k : Nat} {nx ch fl : Int} {us : List Rc} {gone : List (Int × Int)} (I : BInv k nx ch fl us gone) {ws : List Rw} (lw : ws.length ≤ 3) (hw : ∀ w ∈ ws, Wok w) : BInv (k + 1) (nx + ws.length) (ch + 1) fl (us ++ putR nx (ch + 1) ws) gone where
  len := by have := I.len; rw [List.length_append, put_len]; omega
  gl := I.gl
  nx0 := by have := I.nx0; omega
  nx1 := by have := I.nx1; omega
  uid := fun r hr => by
    rcases List.mem_append.mp hr with h | h
    · have := I.uid r h; omega
    · have := put_rng h; have := I.nx0; omega
  nd := List.pairwise_append.mpr ⟨I.nd, put_nd ws nx, fun a ha c hc => by have := I.uid a ha; have := put_rng hc; omega⟩
  ok := fun r hr => by
    rcases List.mem_append.mp hr with h | h
    · obtain ⟨o, l⟩ := I.ok r h
      exact ⟨o, by omega⟩
    · obtain ⟨o, l⟩ := put_ok hw h
      exact ⟨o, by omega⟩
  flc := by have := I.flc; omega
  go := fun p hp => by have := I.go p hp; omega
theorem rows_of_all : ∀ {ds : List D}, (∀ d ∈ ds, ∃ w, d = rowD w ∧ Wok w) → ∃ ws : List Rw, ds = ws.map rowD ∧ ∀ w ∈ ws, Wok w
  | [], _ => ⟨[], rfl, fun _ h => by cases h⟩
  | d :: ds, h => by
    obtain ⟨w, rfl, hw⟩ := h d (List.mem_cons_self ..)
    obtain ⟨ws, rfl, hs⟩ := rows_of_all fun e he => h e (List.mem_cons_of_mem _ he)
    exact ⟨w :: ws, rfl, fun j hj => by rcases List.mem_cons.mp hj with rfl | hj; exact hw; exact hs j hj⟩
theorem same_ints {S : Sh} {Q : QD} {us : List Int} (hl : us.length ≤ 1000) (q : Q (.bl true) S) : sp_same 8 [.tup (us.map D.int), .tup (us.map D.int)] S Q :=
  same_tup (n := 0) (fun x hx => by obtain ⟨u, _, rfl⟩ := List.mem_map.mp hx; rfl) (fun x hx => by obtain ⟨u, _, rfl⟩ := List.mem_map.mp hx; rfl) (fun x hx => by obtain ⟨u, _, rfl⟩ := List.mem_map.mp hx; exact Nat.le_refl 0) (by decide) (by rw [List.length_map]; omega) q
theorem step_k4 {Q : QD} {b pm p3 p4 : Addr} {nx ch fl : Int} {us : List Rc} {gone : List (Int × Int)} {xs : List Int} {k : Nat} {S : Sh} {x4 x6 x7 x8 x9 x10 x11 x12 x13 : Option D}
    (H : St S b pm p3 p4 nx ch fl us gone) (I : BInv k nx ch fl us gone) (hk : k < 8) (lx : xs.length ≤ 300) (h' : Hd (Fin b pm p3 p4 k Q)) :
    llaw_step_k4 (endsD Q) (stp b pm (boxD nx ch fl us gone) k x4 xs x6 x7 x8 x9 x10 x11 x12 x13) S := by
  have sz := sz6
  unfold llaw_step_k4 stp
  walk_at "dl"
  refine ⟨by omega, fun q hq => ?_⟩
  have H1 := H.new (o := .lst [.str cAdd, .str cDrop, .str cSet]) hq
  have nq : q ≠ b := fun e => by obtain ⟨dg, gs, a, e1, _⟩ := H.a; rw [e, e1] at hq; cases hq
  refine ⟨rfl, b, q, [.str cAdd, .str cDrop, .str cSet], rfl, nq, by simp, by decide, H1.a.bx, su_same, fun x S1 hx bx => ?_⟩
  have H2 := H1.draw bx
  obtain ⟨m, rfl⟩ : ∃ m, x = .str m := by
    simp only [List.mem_cons, List.not_mem_nil, or_false] at hx
    rcases hx with rfl | rfl | rfl <;> exact ⟨_, rfl⟩
  clear hx bx H H1 hq nq
  unfold llaw_step_k5
  walk_at "dl"
  refine ⟨by omega, b, 2, rfl, by decide, H2.a.bx, fun r S2 r0 r1 b2 => ?_⟩
  have H3 := H2.draw b2
  have e1 : cutD [D.str [98], D.str [99]] (some (0 : Int)) none = [[98], [99]].map D.str := rfl
  have e2 : cutD [D.str [98], D.str [99]] (some (1 : Int)) none = [[99]].map D.str := rfl
  have a1 : Abc [[98], [99]] := fun f hf => by
    simp only [List.mem_cons, List.not_mem_nil, or_false] at hf ⊢
    rcases hf with rfl | rfl <;> simp
  have a2 : Abc [[99]] := fun f hf => by
    simp only [List.mem_cons, List.not_mem_nil, or_false] at hf ⊢
    rcases hf with rfl; simp
  have h2 : r = 0 ∨ r = 1 := by omega
  rcases h2 with rfl | rfl
  · exact step_k6 (fs := [[98], [99]]) H3.a H3.m I hk lx a1 (by decide) h'
  · exact step_k6 (fs := [[99]]) H3.a H3.m I hk lx a2 (by decide) h'
theorem step_k3 {Q : QD} {b pm p3 p4 : Addr} {nx ch fl kd : Int} {us : List Rc} {gone : List (Int × Int)} {xs : List Int} {k : Nat} {S : Sh} {x6 x7 x8 x9 x10 x11 x12 x13 : Option D}
    (H : St S b pm p3 p4 nx ch fl us gone) (I : BInv k nx ch fl us gone) (hk : k < 8) (lx : xs.length ≤ 300) (hne : xs ≠ []) (h' : Hd (Fin b pm p3 p4 k Q)) :
    llaw_step_k3 (endsD Q) (stp b pm (boxD nx ch fl us gone) k (some (.int kd)) xs x6 x7 x8 x9 x10 x11 x12 x13) S := by
  have sz := sz6
  have ll := I.len
  have lg := I.gl
  have key := step_k4 (Q := Q) (x4 := some (.int kd)) (x6 := x6) (x7 := x7) (x8 := x8) (x9 := x9) (x10 := x10) (x11 := x11) (x12 := x12) (x13 := x13) H I hk lx h'
  have key' := Hd.mk key
  clear key
  unfold llaw_step_k3 stp
  walk_at "dl"
  refine ifb (fun _ => ?_) fun _ => key'.a
  intro q hq
  obtain ⟨m1, m2, m3, m4, m5, m6⟩ := id H.m
  have H1 := H.new (o := .lst (xs.map D.int)) hq
  have n1 : q ≠ pm := fun e => by rw [e, m1] at hq; cases hq
  have n3 : q ≠ p3 := fun e => by rw [e, m2] at hq; cases hq
  have n4 : q ≠ p4 := fun e => by rw [e, m3] at hq; cases hq
  refine ⟨rfl, pm, p3, p4, q, nx, ch, fl, us, xs, gone, rfl, H1.m, su_same, n1, n3, n4, by omega, lx, by omega, fun S' M B => ?_⟩
  exact ⟨rfl, nx, ch, fl, us, xs, gone, rfl, hne, by omega, lx, by omega, I.flc, fun p hp => (I.go p hp).1, S', Sle.refl S', h'.a _ _ _ _ _ S' (H1.a.but B) M (I.take xs)⟩
theorem comp_allP {γ : GD} {τ : ED} {δ : Sl} {ck : Sh → Prop} {Q : List D → Sh → Prop} (P Pe : D → Prop) (Iv : Sh → Prop) (hck : ∀ S, Iv S → ck S) (hs : ∀ x : D, Pe x → ∀ S, Iv S → ∀ R : QD, (∀ d S', P d → Iv S' → R d S') → γ x δ S fun δ1 S1 => τ δ1 S1 R) :
    ∀ (xs acc : List D) (S : Sh), Iv S → (∀ x ∈ xs, Pe x) → (∀ d ∈ acc, P d) → acc.length + xs.length ≤ sizeLine → (∀ ds S', ds.length = acc.length + xs.length → (∀ d ∈ ds, P d) → Iv S' → Q ds S') → dComp γ dYes τ δ ck Q xs acc S
  | [], acc, S, hi, _, ha, _, q => q acc S (by simp) ha hi
  | x :: xs, acc, S, hi, he, ha, hl, q => by
    rw [List.length_cons] at hl
    refine hs x (he x List.mem_cons_self) S hi _ fun d S' hp hi' => ⟨by omega, hck S' hi', comp_allP P Pe Iv hck hs xs (acc ++ [d]) S' hi' (fun y hy => he y (List.mem_cons_of_mem _ hy)) (fun e he => ?_) (by rw [List.length_append, List.length_singleton]; omega) fun ds S2 e1 e2 e3 => q ds S2 (by rw [e1, List.length_append, List.length_singleton, List.length_cons]; omega) e2 e3⟩
    rcases List.mem_append.mp he with z | z
    · exact ha e z
    · rw [List.mem_singleton.mp z]; exact hp
theorem cmul9 {k : Nat} (hk : k < 8) : CMul (k : Int) 9 := by
  exact .inr ⟨by decide, by decide⟩
theorem step_put2 {Q : QD} {b pm p3 p4 : Addr} {nx ch fl : Int} {us : List Rc} {gone : List (Int × Int)} {xs : List Int} {ws : List Rw} {k : Nat} {S : Sh} {N : Sl → Sh → Prop} {x4 x6 x7 x8 x9 x10 x12 x13 : Option D}
    (H : St S b pm p3 p4 nx ch fl us gone) (I : BInv k nx ch fl us gone) (hk : k < 8) (lw : ws.length ≤ 3) (hw : ∀ w ∈ ws, Wok w) (h' : Hd (Fin b pm p3 p4 k Q)) :
    put2 { nx := N, rt := fun d S => ∃ S', Sle S' S ∧ Q d S' } (stp b pm (boxD nx ch fl us gone) k x4 xs x6 x7 x8 x9 x10 (some (.tup (ws.map rowD))) x12 x13) S := by
  have sz := sz6
  have ll := I.len
  have n0 := I.nx0
  have n1 := I.nx1
  unfold put2 stp
  walk_at "dl"
  refine ⟨nx, ch, fl, us, gone, ws, rfl, by omega, by omega, by omega, by omega, ?_⟩
  dsimp only
  unfold put3
  walk_at "dl"
  refine ⟨pm, p3, p4, nx, ch, fl, us, gone, ws, rfl, by omega, by omega, H.m, fun S' M B => ?_⟩
  have fin := Hd.mk (h'.a _ _ _ _ _ S' (H.a.but B) M (I.put lw hw))
  have lu : (uidsP nx ws.length).length = ws.length := by unfold uidsP; rw [List.length_map, List.length_range]
  clear M B H I h'
  unfold put4
  walk_at "dl"
  rw [if_neg (by decide)]
  refine same_ints (by omega) ?_
  dsimp only
  rw [if_neg (by decide)]
  unfold put5
  walk_at "dl"
  exact ⟨S', Sle.refl S', fin.a⟩
theorem step_put {Q : QD} {b pm p3 p4 : Addr} {nx ch fl : Int} {us : List Rc} {gone : List (Int × Int)} {xs : List Int} {k : Nat} {S : Sh} {N : Sl → Sh → Prop} {x4 x6 x7 x8 x9 x10 x11 x12 x13 : Option D}
    (H : St S b pm p3 p4 nx ch fl us gone) (I : BInv k nx ch fl us gone) (hk : k < 8) (h' : Hd (Fin b pm p3 p4 k Q)) :
    putS { nx := N, rt := fun d S => ∃ S', Sle S' S ∧ Q d S' } (stp b pm (boxD nx ch fl us gone) k x4 xs x6 x7 x8 x9 x10 x11 x12 x13) S := by
  have sz := sz6
  have ll := I.len
  have lg := I.gl
  unfold putS stp
  walk_at "dl"
  refine ⟨b, 3, rfl, by decide, H.a.bx, fun r S1 r0 r1 b1 => ?_⟩
  have H1 := H.draw b1
  dsimp only
  refine ⟨by omega, by omega, ?_⟩
  refine comp_allP (fun d => ∃ w, d = rowD w ∧ Wok w) (fun x => ∃ i : Nat, i < 3 ∧ x = .int (0 + (i : Int))) (fun S' => St S' b pm p3 p4 nx ch fl us gone) (fun _ _ => trivial) (fun x hex S' hS R hR => ?_) _ [] S1 H1 (fun x hx => ?_) (fun _ h => by cases h) (by rw [rng_len, List.length_nil]; omega) fun ds S' e1 e2 e3 => ?_
  · obtain ⟨i, hi, rfl⟩ := hex
    have hR' := Hd.mk hR
    clear hR H1 b1 H
    walk_at "dl"
    refine ⟨by omega, b, 3, rfl, by decide, hS.a.bx, fun t S2 t0 t1 c1 => ?_⟩
    have K1 := hS.draw c1
    dsimp only
    refine ⟨cmul9 hk, rfl, b, 3, rfl, by decide, K1.a.bx, fun u S3 u0 u1 c2 => ?_⟩
    have K2 := K1.draw c2
    obtain ⟨v, rfl⟩ := Int.eq_ofNat_of_zero_le u0
    obtain ⟨fs, e1, a1, l1⟩ : ∃ fs : List (List Nat), cutD [D.str [97], D.str [98]] none (some t) = fs.map D.str ∧ Abc fs ∧ fs.length ≤ 2 := by
      have h3 : t = 0 ∨ t = 1 ∨ t = 2 := by omega
      rcases h3 with rfl | rfl | rfl
      · exact ⟨[], rfl, (fun f hf => by cases hf), by decide⟩
      · refine ⟨[[97]], rfl, fun f hf => ?_, by decide⟩
        simp only [List.mem_cons, List.not_mem_nil, or_false] at hf ⊢
        exact .inl hf
      · refine ⟨[[97], [98]], rfl, fun f hf => ?_, by decide⟩
        simp only [List.mem_cons, List.not_mem_nil, or_false] at hf ⊢
        rcases hf with rfl | rfl
        · exact .inl rfl
        · exact .inr (.inl rfl)
    refine ⟨rfl, (k : Int) * 9 + (0 + (i : Int)), v, by omega, by omega, by omega, rfl, by omega, ?_⟩
    rw [e1]
    exact hR'.a _ _ ⟨⟨fs, (k : Int) + (0 + (i : Int)), (k : Int) * 9 + (0 + (i : Int)), v⟩, rfl, by show (0 : Int) ≤ (k : Int) * 9 + (0 + (i : Int)); omega, by show (k : Int) * 9 + (0 + (i : Int)) < 100; omega, by show v ≤ 2; omega, a1, l1⟩ K2
  · obtain ⟨i, hi, rfl⟩ := rng_mem hx
    exact ⟨i, by omega, rfl⟩
  · obtain ⟨ws, rfl, hw⟩ := rows_of_all e2
    rw [List.length_map, List.length_nil, rng_len] at e1
    exact step_put2 e3 I hk (by omega) hw h'

theorem ok_llaw_step : ∀ ds S Q, ds.length = 4 → sp_llaw_step ds S Q → rd_llaw_step (endsD Q) (startD N_llaw_step ds) S := by
  rintro ds S Q - ⟨b, pm, p3, p4, nx, ch, fl, us, gone, k, rfl, hk, A, M, I, h⟩
  have sz := sz6
  have H : St S b pm p3 p4 nx ch fl us gone := ⟨A, M⟩
  have h' : Hd (Fin b pm p3 p4 k Q) := ⟨h⟩
  have ll := I.len
  clear h A M
  rw [cut_llaw_step]
  walk_at "dl"
  refine ⟨b, 4, rfl, by decide, H.a.bx, fun kd S1 k0 k1 b1 => ?_⟩
  have H1 := H.draw b1
  have a3 := fun a b c d e => (at5 (a := a) (b := b) (c := c) (d := d) (e := e)).2.2.2.1
  have m1 := H1.m.1
  have m2 := H1.m.2.1
  clear b1 H
  unfold llaw_step_k1
  walk_at "dl*"
  refine comp_inv (fun rest acc S' => St S' b pm p3 p4 nx ch fl us gone ∧ ∃ (td : List Rc) (as : List Int), rest = td.map recD ∧ acc = as.map D.int ∧ as.length + td.length ≤ us.length) ?_ ?_ ?_ ?_ _ _ _ ⟨H1, us, [], rfl, rfl, by rw [List.length_nil]; omega⟩
  · rintro x rest acc S' Y Z ⟨hS, td, as, e1, e2, e3⟩ hY hZ
    cases td with
    | nil => cases e1
    | cons r td =>
      injection e1 with e1 e1'
      subst e1
      subst e1'
      subst e2
      rw [List.length_cons] at e3
      have t1 : atI [D.str [107, 101, 112, 116], .int r.uid, .int r.ch, .tup (r.fl.map D.str), .int r.tn, letD r.n r.ln] 1 = some (.int r.uid) := rfl
      have hY' := Hd.mk hY
      have hZ' := Hd.mk hZ
      clear hY hZ H1 m1 m2
      show (dName 9) (.tup [.str [107, 101, 112, 116], .int r.uid, .int r.ch, .tup (r.fl.map D.str), .int r.tn, letD r.n r.ln]) _ S' _
      walk_at "dl*"
      refine ⟨b, 2, rfl, by decide, hS.a.bx, fun t S2 t0 t1' c1 => ?_⟩
      have K := hS.draw c1
      dsimp only
      refine ifb (fun z => ?_) fun z => ?_
      · exact hY'.a (.int r.uid) S2 ⟨K, td, as ++ [r.uid], rfl, by rw [List.map_append]; rfl, by rw [List.length_append, List.length_singleton]; omega⟩ (by rw [List.length_map]; omega)
      · exact hZ'.a S2 ⟨K, td, as, rfl, rfl, by omega⟩
  · rintro x rest acc S' ⟨_, td, as, e1, rfl, e3⟩
    rw [List.length_map]; omega
  · rintro rest acc S' ⟨hS, _⟩
    exact hS.m.2.1
  · rintro acc S' ⟨hS, td, as, e1, rfl, e3⟩
    have la : as.length ≤ 300 := by omega
    clear e1 e3 H1 m1 m2
    rw [cut_put]
    walk_at "dl"
    have p1 : psd (.tup (as.map D.int)) = true := psds_of fun x hx => by
      obtain ⟨u, _, rfl⟩ := List.mem_map.mp hx; rfl
    have d1 : dep (.tup (as.map D.int)) ≤ 1 := by
      have := deps_of (n := 0) (xs := as.map D.int) fun x hx => by
        obtain ⟨u, _, rfl⟩ := List.mem_map.mp hx; exact Nat.le_refl 0
      show deps _ + 1 ≤ 1
      omega
    refine ifb (fun _ => step_put hS I hk h') fun _ => ⟨by omega, eqT_psd p1 rfl (by omega) (by decide) (fun e => ?_) fun e => ?_⟩
    · dsimp only
      rw [if_pos rfl]
      exact step_put hS I hk h'
    · dsimp only
      rw [if_neg Bool.false_ne_true]
      exact step_k3 hS I hk la (fun z => e (by rw [z]; rfl)) h'
end LW

set_option Elab.async false
set_option linter.all false
set_option maxRecDepth 100000
set_option maxHeartbeats 4000000
namespace LW
open PySem PySem.Spec L2 DL
local macro_rules | `(tactic| walk_at "dl") => `(tactic| simp -implicitDefEqProofs only [↓dFmt, ↓dJsE, ↓dJs, ↓dSumL, ↓dAllL, ↓dAnyL, ↓dPartn, ↓dStrip, ↓dStripC, ↓dLower, ↓dUpper, ↓dRfind, ↓dCount, ↓okL, ↓dGunl, ↓dLc2_k, ↓dStarL, ↓dListT, ↓dTupT, ↓dSetK, ↓dSortS, ↓dEqL, ↓dOnL, ↓dTupRg, ↓dLstRg, ↓dInT, ↓dSetT, ↓dZipT, ↓dSetAll, ↓dEqO, ↓dMulT, ↓dSeq, ↓dIfS, ↓dTB, ↓dOp, ↓dVar, ↓dC, ↓dLt, ↓dLe, ↓dGt, ↓dGe, ↓rII, ↓rIIc, ↓dCB, ↓dCons, ↓dNil, ↓dLen, ↓dInt, ↓dRet, ↓dRetN, ↓dNext, ↓dIx, ↓dAt, ↓startD, List.map_cons, List.map_nil, List.cons_append, List.nil_append, List.append_nil, List.length_cons, List.length_nil, List.getElem?_cons_zero, List.getElem?_cons_succ, List.length_map, ↓dAsg, ↓dName, ↓dNew_k, ↓dLst, ↓dFor_k, ↓dRng1, ↓dRng2, ↓dCall_k, ↓dAdd, ↓dSub, ↓dMul, ↓dMod, ↓dFdiv, ↓dPow, ↓dEq, ↓dNe, ↓scd, ↓dIsN, ↓dNotN, ↓dIsB, ↓dNotB, ↓dUn, ↓dNeg, ↓dTru, ↓dTruS, ↓dAnd, ↓dOr, ↓dNot, ↓dNotV, ↓dAndV, ↓dOrV, ↓dIfE, ↓dTup, ↓dDrop, ↓dBM, ↓dBM0, ↓tyD, ↓dApp, ↓dSetL, ↓dAsL, ↓dOnL, ↓dOnN_k, ↓dIsi, ↓tyName, isT, ↓dBreak, ↓dCont, ↓dPar, ↓endsD, List.set_cons_zero, List.set_cons_succ, List.replicate_succ, List.replicate_zero, su_same, ↓dLc_k, ↓dWhile_k, ↓dWipe, ↓dYes, ↓dIt, ↓dItN, ↓dSlice, ↓dPart, ↓dNoP, ↓dCut, ↓dSliceE, ↓dIxL, ↓dChain, ↓dIn, ↓dNotIn, ↓dInS, ↓mS0, ↓mS1, ↓dSta, ↓dEnd, ↓dFind, ↓dIsasc, ↓dIsdig, ↓dIsalp, ↓dIsaln, ↓dIslow, ↓dIspri, ↓okT, ↓okU, ↓ok2, ↓dFind4, ↓dSplit, ↓dJoin, ↓dJoinT, ↓dMulS, ↓dCatL, ↓dCatE, ↓dCatR, ↓dCatEE, ↓dStar, ↓dIntS, ↓dStr, ↓dMax, ↓dMin, ↓dII, ↓dFld_m, ↓dSetF_m, ↓dMeth_m, ↓dMake_k, ↓dGtup, ↓dGcons, ↓dGnil, true_and, and_true, Nat.add_zero, reduceCtorEq, ↓reduceIte, Bool.not_true, Bool.not_false, Bool.false_eq_true, if_true, if_false])
local macro_rules | `(tactic| walk_at "dl*") => `(tactic| simp -implicitDefEqProofs only [*, ↓dFmt, ↓dJsE, ↓dJs, ↓dSumL, ↓dAllL, ↓dAnyL, ↓dPartn, ↓dStrip, ↓dStripC, ↓dLower, ↓dUpper, ↓dRfind, ↓dCount, ↓okL, ↓dGunl, ↓dLc2_k, ↓dStarL, ↓dListT, ↓dTupT, ↓dSetK, ↓dSortS, ↓dEqL, ↓dOnL, ↓dTupRg, ↓dLstRg, ↓dInT, ↓dSetT, ↓dZipT, ↓dSetAll, ↓dEqO, ↓dMulT, ↓dSeq, ↓dIfS, ↓dTB, ↓dOp, ↓dVar, ↓dC, ↓dLt, ↓dLe, ↓dGt, ↓dGe, ↓rII, ↓rIIc, ↓dCB, ↓dCons, ↓dNil, ↓dLen, ↓dInt, ↓dRet, ↓dRetN, ↓dNext, ↓dIx, ↓dAt, ↓startD, List.map_cons, List.map_nil, List.cons_append, List.nil_append, List.append_nil, List.length_cons, List.length_nil, List.getElem?_cons_zero, List.getElem?_cons_succ, List.length_map, ↓dAsg, ↓dName, ↓dNew_k, ↓dLst, ↓dFor_k, ↓dRng1, ↓dRng2, ↓dCall_k, ↓dAdd, ↓dSub, ↓dMul, ↓dMod, ↓dFdiv, ↓dPow, ↓dEq, ↓dNe, ↓scd, ↓dIsN, ↓dNotN, ↓dIsB, ↓dNotB, ↓dUn, ↓dNeg, ↓dTru, ↓dTruS, ↓dAnd, ↓dOr, ↓dNot, ↓dNotV, ↓dAndV, ↓dOrV, ↓dIfE, ↓dTup, ↓dDrop, ↓dBM, ↓dBM0, ↓tyD, ↓dApp, ↓dSetL, ↓dAsL, ↓dOnL, ↓dOnN_k, ↓dIsi, ↓tyName, isT, ↓dBreak, ↓dCont, ↓dPar, ↓endsD, List.set_cons_zero, List.set_cons_succ, List.replicate_succ, List.replicate_zero, su_same, ↓dLc_k, ↓dWhile_k, ↓dWipe, ↓dYes, ↓dIt, ↓dItN, ↓dSlice, ↓dPart, ↓dNoP, ↓dCut, ↓dSliceE, ↓dIxL, ↓dChain, ↓dIn, ↓dNotIn, ↓dInS, ↓mS0, ↓mS1, ↓dSta, ↓dEnd, ↓dFind, ↓dIsasc, ↓dIsdig, ↓dIsalp, ↓dIsaln, ↓dIslow, ↓dIspri, ↓okT, ↓okU, ↓ok2, ↓dFind4, ↓dSplit, ↓dJoin, ↓dJoinT, ↓dMulS, ↓dCatL, ↓dCatE, ↓dCatR, ↓dCatEE, ↓dStar, ↓dIntS, ↓dStr, ↓dMax, ↓dMin, ↓dII, ↓dFld_m, ↓dSetF_m, ↓dMeth_m, ↓dMake_k, ↓dGtup, ↓dGcons, ↓dGnil, true_and, and_true, Nat.add_zero, reduceCtorEq, ↓reduceIte, Bool.not_true, Bool.not_false, Bool.false_eq_true, if_true, if_false])
def law_b3_3 : SD := (dIfS (dOr (dTB (dOp dIsN (dVar 3) (dC .non))) (dOr (dNot (dTru (dCall 2 (sp_same 8) [] (dCons (dVar 3) (dCons (dCall 1 sp_llaw_told [] (dCons (dVar 2) dNil)) dNil))))) (dNot (dTru (dCall 2 (sp_same 8) [] (dCons (dVar 9) (dCons (dVar 8) dNil))))))) (dRet (dC (.bl false))) dNext)
def law_b3_2 : SD := dSeq (dAsg (dCall 4 sp_llaw_step [] (dCons (dVar 1) (dCons (dVar 2) (dCons (dVar 3) (dCons (dVar 4) dNil))))) (dName 3)) (law_b3_3)
def law_b3_1 : SD := dSeq (dAsg (dVar 3) (dName 9)) (law_b3_2)
def law_k10 : SD := (dRet (dAndV (dOp dIsB (dCall 2 sp_has_room [] (dCons (dVar 3) (dCons (dTup (dCons (dOp dSub (dC (.int 1000000)) (dVar 6)) dNil)) dNil))) (dC (.bl true))) (dOp dIsB (dCall 2 sp_has_room [] (dCons (dVar 3) (dCons (dTup (dCons (dOp dSub (dC (.int 999999)) (dVar 6)) (dCons (dC (.int 2)) dNil))) dNil))) (dC (.bl false)))))
def law_k9 : SD := dSeq (dIfS (dOr (dTB (dOp dNotB (dCall 2 sp_has_room [] (dCons (dVar 3) (dCons (dOp dMulT (dTup (dCons (dC (.int 1)) dNil)) (dVar 7)) dNil))) (dC (.bl true)))) (dTB (dOp dNotB (dCall 2 sp_has_room [] (dCons (dVar 3) (dCons (dOp dMulT (dTup (dCons (dC (.int 1)) dNil)) (dOp dAdd (dVar 7) (dC (.int 1)))) dNil))) (dC (.bl false))))) (dRet (dC (.bl false))) dNext) (law_k10)
def law_k8 : SD := dSeq (dAsg (dOp dSub (dC (.int 1000)) (dCB dLen (dCons (dOp dIx (dVar 2) (dC (.int 3))) dNil))) (dName 7)) (law_k9)
def law_k7 : SD := dSeq (dIfS (dNot (dTru (dCall 2 (sp_same 8) [] (dCons (dCall 1 sp_signs_of [] (dCons (dVar 3) dNil)) (dCons (dVar 6) dNil))))) (dRet (dC (.bl false))) dNext) (law_k8)
def law_k6 : SD := dSeq (dAsg (dOnL dSumL (dLc (dIt (dOp dIx (dVar 2) (dC (.int 3)))) (dName 5) dYes (dCB dLen (dCons (dCall 1 sp_llaw_text [] (dCons (dOp dIx (dVar 5) (dC (.int 5))) dNil)) dNil)) [5])) (dName 6)) (law_k7)
def law_k5 : SD := dSeq (dIfS (dTB (dOp dNotN (dCall 2 sp_record_of [] (dCons (dVar 3) (dCons (dOp dAdd (dOp dIx (dVar 2) (dC (.int 0))) (dCall 2 sp_llaw_draw [] (dCons (dVar 1) (dCons (dC (.int 3)) dNil)))) dNil))) (dC .non))) (dRet (dC (.bl false))) dNext) (law_k6)
def law_k4 : SD := dSeq (dFor (dIt (dOp dIx (dVar 2) (dC (.int 3)))) (dName 5) (dIfS (dNot (dTru (dCall 2 (sp_same 8) [] (dCons (dCall 2 sp_record_of [] (dCons (dVar 3) (dCons (dOp dIx (dVar 5) (dC (.int 1))) dNil))) (dCons (dVar 5) dNil))))) (dRet (dC (.bl false))) dNext)) (law_k5)
def law_k3 : SD := dSeq (dFor (dRng1 (dCons (dOp dAdd (dC (.int 1)) (dCall 2 sp_llaw_draw [] (dCons (dVar 1) (dCons (dC (.int 8)) dNil)))) dNil)) (dName 4) (dSeq (dAsg (dCall 1 sp_llaw_told [] (dCons (dVar 2) dNil)) (dName 8)) (law_b3_1))) (law_k4)
def law_k2 : SD := dSeq (dAsg (dCall 0 sp_new_box [] dNil) (dName 3)) (law_k3)
def law_k1 : SD := dSeq (dAsg (dNew (dLst (dCons (dC (.int 1)) (dCons (dC (.int 0)) (dCons (dC (.int 0)) (dCons (dNew (dLst dNil)) (dCons (dNew (dLst dNil)) dNil))))))) (dName 2)) (law_k2)
theorem cut_law : rd_law = dSeq (dAsg (dNew (dLst (dCons (dCall 3 sp_llaw_digits [] (dCons (dVar 0) (dCons (dC (.int 0)) (dCons (dC (.int 63)) dNil)))) (dCons (dC (.int 0)) dNil)))) (dName 1)) (law_k1) := rfl
theorem txt_nn (n : Int) (ln : Nat) : (0 : Int) ≤ ((txtL n ln).length : Int) := Int.natCast_nonneg _
theorem sgn_le : ∀ rs : List Rc, (∀ r ∈ rs, Rok r) → 0 ≤ sgn rs ∧ sgn rs ≤ 50 * (rs.length : Int)
  | [], _ => by decide
  | r :: rs, h => by
    have h1 := sgn_le rs fun q hq => h q (List.mem_cons_of_mem _ hq)
    have o := h r (List.mem_cons_self ..)
    have h2 := txt_k o.n0 o.n1 r.ln
    have h3 := o.ln
    have e : sgn (r :: rs) = ((txtL r.n r.ln).length : Int) + sgn rs := rfl
    rw [e, List.length_cons]
    have := txt_nn r.n r.ln
    omega
theorem find_self : ∀ {us : List Rc}, (us.Pairwise fun r q => r.uid < q.uid) → ∀ r ∈ us, us.find? (fun q => decide (q.uid = r.uid)) = some r
  | [], _, r, h => by cases h
  | q :: us, hp, r, h => by
    rw [List.find?_cons]
    obtain ⟨h1, h2⟩ := List.pairwise_cons.mp hp
    rcases List.mem_cons.mp h with rfl | h
    · rw [decide_eq_true rfl]
    · have := h1 r h
      rw [decide_eq_false (by omega)]
      exact find_self h2 r h
theorem find_no {us : List Rc} {u : Int} (h : ∀ r ∈ us, r.uid < u) : us.find? (fun q => decide (q.uid = u)) = none :=
  List.find?_eq_none.mpr fun r hr => by have := h r hr; rw [decide_eq_true_eq]; omega
theorem pln_let (n : Int) (ln : Nat) : pln (letD n ln) = true := by
  have e : plns (List.replicate ln (.str (cWord ++ decs n))) = true := plns_of fun x hx => by rw [List.eq_of_mem_replicate hx]; rfl
  show (true && ((((true && (true && true)) && true)) && ((true && (plns (List.replicate ln (.str (cWord ++ decs n))) && true)) && true))) = true
  rw [e]; rfl
theorem szd_let {n : Int} {ln : Nat} (hl : ln ≤ 2) : szd (letD n ln) = true := by
  rcases ln3 hl with rfl | rfl | rfl <;> rfl
theorem pln_strs (fs : List (List Nat)) : pln (.tup (fs.map D.str)) = true := plns_of fun x hx => by obtain ⟨u, _, rfl⟩ := List.mem_map.mp hx; rfl
theorem szd_strs {fs : List (List Nat)} (h : fs.length ≤ 1000) : szd (.tup (fs.map D.str)) = true := by
  have e : szds (fs.map D.str) = true := szds_of fun x hx => by obtain ⟨u, _, rfl⟩ := List.mem_map.mp hx; rfl
  show (decide ((fs.map D.str).length < 2 ^ 62) && szds (fs.map D.str)) = true
  rw [e, decide_eq_true (by rw [List.length_map]; omega)]; rfl
theorem pln_rec (r : Rc) : pln (recD r) = true := by
  show (true && (true && (true && (pln (.tup (r.fl.map D.str)) && (true && (pln (letD r.n r.ln) && true)))))) = true
  rw [pln_strs, pln_let]; rfl
theorem szd_rec {r : Rc} (h : Rok r) : szd (recD r) = true := by
  show (decide (6 < 2 ^ 62) && (true && (true && (true && (szd (.tup (r.fl.map D.str)) && (true && (szd (letD r.n r.ln) && true))))))) = true
  rw [szd_strs h.fl, szd_let h.ln]; rfl
theorem same_box {S : Sh} {Q : QD} {nx ch fl : Int} {us : List Rc} {gone : List (Int × Int)} {k : Nat} (I : BInv k nx ch fl us gone) (hk : k ≤ 8) (q : Q (.bl true) S) : sp_same 8 [boxD nx ch fl us gone, boxD nx ch fl us gone] S Q := by
  have ll := I.len
  have lg := I.gl
  have p1 : plns (us.map recD) = true := plns_of fun x hx => by obtain ⟨r, _, rfl⟩ := List.mem_map.mp hx; exact pln_rec r
  have p2 : plns (gone.map pD) = true := plns_of fun x hx => by obtain ⟨r, _, rfl⟩ := List.mem_map.mp hx; rfl
  have s1 : szds (us.map recD) = true := szds_of fun x hx => by obtain ⟨r, hr, rfl⟩ := List.mem_map.mp hx; exact szd_rec (I.ok r hr).1
  have s2 : szds (gone.map pD) = true := szds_of fun x hx => by obtain ⟨r, _, rfl⟩ := List.mem_map.mp hx; rfl
  have d1 : deps (us.map recD) ≤ 4 := deps_of fun x hx => by obtain ⟨r, hr, rfl⟩ := List.mem_map.mp hx; rw [dep_rec (I.ok r hr).1.ln]; exact Nat.le_refl 4
  have d2 : deps (gone.map pD) ≤ 1 := deps_of fun x hx => by obtain ⟨r, hr, rfl⟩ := List.mem_map.mp hx; exact Nat.le_refl 1
  refine same_any ?_ ?_ ?_ q
  · show (true && (true && (true && (true && (plns (us.map recD) && (plns (gone.map pD) && true)))))) = true
    rw [p1, p2]; rfl
  · show (decide (6 < 2 ^ 62) && (true && (true && (true && (true && ((decide ((us.map recD).length < 2 ^ 62) && szds (us.map recD)) && ((decide ((gone.map pD).length < 2 ^ 62) && szds (gone.map pD)) && true))))))) = true
    have z1 : decide ((us.map recD).length < 2 ^ 62) = true := decide_eq_true (by rw [List.length_map]; omega)
    have z2 : decide ((gone.map pD).length < 2 ^ 62) = true := decide_eq_true (by rw [List.length_map]; omega)
    rw [s1, s2, z1, z2]; rfl
  · show max 0 (max 0 (max 0 (max 0 (max (deps (us.map recD) + 1) (max (deps (gone.map pD) + 1) 0))))) + 1 < 8
    omega
theorem same_rec {S : Sh} {Q : QD} {r : Rc} (h : Rok r) (q : Q (.bl true) S) : sp_same 8 [recD r, recD r] S Q := same_any (pln_rec r) (szd_rec h) (by rw [dep_rec h.ln]; decide) q
theorem flat_ones (n : Nat) : (List.replicate n [D.int 1]).flatten = (List.replicate n (1 : Int)).map D.int := by
  induction n with
  | zero => rfl
  | succ n ih => rw [List.replicate_succ, List.flatten_cons, ih, List.replicate_succ, List.map_cons]; rfl
theorem sum_ones (n : Nat) : (List.replicate n (1 : Int)).sum = n := by
  induction n with
  | zero => rfl
  | succ n ih => rw [List.replicate_succ, List.sum_cons, ih]; omega
def lw (x0 : Option D) (b pm : Addr) (box : D) (x4 x5 x6 x7 x8 x9 : Option D) : Sl := [x0, some (.rf b), some (.rf pm), some box, x4, x5, x6, x7, x8, x9]
theorem law_k9e {Q : QD} {b pm : Addr} {nx ch fl : Int} {us : List Rc} {gone : List (Int × Int)} {k : Nat} {S : Sh} {x0 x4 x5 x8 x9 : Option D} (I : BInv k nx ch fl us gone) (hk : k ≤ 8) (h' : Hd (Q (.bl true) (fun _ => none))) :
    law_k9 (endsD Q) (lw x0 b pm (boxD nx ch fl us gone) x4 x5 (some (.int (sgn us))) (some (.int (1000 - (us.length : Int)))) x8 x9) S := by
  have sz := sz6
  have ll := I.len
  have sg := sgn_le us fun r hr => (I.ok r hr).1
  obtain ⟨n, hn⟩ : ∃ n : Nat, 1000 - (us.length : Int) = (n : Int) := ⟨1000 - us.length, by omega⟩
  rw [hn]
  unfold law_k9 lw
  walk_at "dl"
  refine ⟨by omega, by simp, .inl ⟨by omega, .inl ⟨by omega, by omega⟩, nx, ch, fl, us, gone, List.replicate n 1, ?_, fun r hr => (I.ok r hr).1, by omega, by rw [List.length_replicate]; omega, ?_⟩⟩
  · rw [Int.toNat_natCast, flat_ones]
  · rw [List.length_replicate, sum_ones, decide_eq_true (by omega), decide_eq_true (by omega)]
    dsimp only
    rw [if_neg (by decide)]
    refine ⟨by omega, by simp, .inl ⟨by omega, .inr ⟨by omega, by omega⟩, rfl, nx, ch, fl, us, gone, List.replicate (n + 1) 1, ?_, fun r hr => (I.ok r hr).1, by omega, by rw [List.length_replicate]; omega, ?_⟩⟩
    · rw [show ((n : Int) + 1).toNat = n + 1 by omega, flat_ones]
    · rw [List.length_replicate, decide_eq_false (show ¬((us.length : Int) + ((n + 1 : Nat) : Int) ≤ 1000) by omega), Bool.false_and]
      dsimp only
      rw [if_neg (by decide)]
      unfold law_k10
      walk_at "dl"
      have z1 : decide ((us.length : Int) + (([1000000 - sgn us] : List Int).length : Int) ≤ 1000) = true := decide_eq_true (by rw [List.length_singleton]; omega)
      have z2 : decide (sgn us + ([1000000 - sgn us] : List Int).sum ≤ 1000000) = true := decide_eq_true (by rw [List.sum_cons, List.sum_nil]; omega)
      have z3 : decide (sgn us + ([999999 - sgn us, 2] : List Int).sum ≤ 1000000) = false := decide_eq_false (by rw [List.sum_cons, List.sum_cons, List.sum_nil]; omega)
      refine ⟨by omega, nx, ch, fl, us, gone, [1000000 - sgn us], rfl, fun r hr => (I.ok r hr).1, by omega, by rw [List.length_singleton]; decide, ?_⟩
      rw [z1, z2]
      dsimp only
      rw [if_pos (by decide)]
      refine ⟨by omega, rfl, nx, ch, fl, us, gone, [999999 - sgn us, 2], rfl, fun r hr => (I.ok r hr).1, by omega, by show 2 ≤ 2000; decide, ?_⟩
      rw [z3, Bool.and_false]
      exact ⟨_, fun p o e => (by cases e), h'.a⟩
theorem law_k6e {Q : QD} {b pm p3 p4 : Addr} {nx ch fl : Int} {us : List Rc} {gone : List (Int × Int)} {k : Nat} {S : Sh} {x0 x4 x5 x6 x7 x8 x9 : Option D} (H : St S b pm p3 p4 nx ch fl us gone) (I : BInv k nx ch fl us gone) (hk : k ≤ 8) (h' : Hd (Q (.bl true) (fun _ => none))) :
    law_k6 (endsD Q) (lw x0 b pm (boxD nx ch fl us gone) x4 x5 x6 x7 x8 x9) S := by
  have sz := sz6
  have ll := I.len
  have a3 := fun a b c d e => (at5 (a := a) (b := b) (c := c) (d := d) (e := e)).2.2.2.1
  have m1 := H.m.1
  have m2 := H.m.2.1
  unfold law_k6 lw
  walk_at "dl*"
  refine comp_mapA recD (fun r => .int (txtL r.n r.ln).length) m2 _ [] (fun r hr R hR => ?_) (by rw [List.length_nil]; omega) ?_
  · have hR' := Hd.mk hR
    clear hR
    have t5 : atI [D.str [107, 101, 112, 116], D.int r.uid, D.int r.ch, D.tup (r.fl.map D.str), D.int r.tn, letD r.n r.ln] 5 = some (letD r.n r.ln) := rfl
    have o := (I.ok r hr).1
    show (dName 5) (.tup [.str [107, 101, 112, 116], .int r.uid, .int r.ch, .tup (r.fl.map D.str), .int r.tn, letD r.n r.ln]) _ S _
    walk_at "dl*"
    refine ⟨r.n, r.ln, o.n0, o.n1, o.ln, rfl, ?_⟩
    exact ⟨txt_len o.n0 o.n1 o.ln, hR'.a⟩
  · rw [List.nil_append, show (us.map fun r => D.int ((txtL r.n r.ln).length : Int)) = (us.map fun r => ((txtL r.n r.ln).length : Int)).map D.int by rw [List.map_map]; rfl, intsOf_map]
    show law_k7 (endsD Q) (lw x0 b pm (boxD nx ch fl us gone) x4 x5 (some (.int (sgn us))) x7 x8 x9) S
    have key := Hd.mk (law_k9e (Q := Q) (b := b) (pm := pm) (S := S) (x0 := x0) (x4 := x4) (x5 := x5) (x8 := x8) (x9 := x9) I hk h')
    have I' := Hd.mk I
    clear H I h'
    unfold law_k7 lw
    walk_at "dl"
    refine ⟨nx, ch, fl, us, gone, rfl, fun r hr => (I'.a.ok r hr).1, by omega, rfl, same_any rfl rfl (by show 0 < 8; decide) ?_⟩
    dsimp only
    rw [if_neg (by decide)]
    unfold law_k8
    walk_at "dl*"
    exact key.a
theorem law_k4e {Q : QD} {b pm p3 p4 : Addr} {nx ch fl : Int} {us : List Rc} {gone : List (Int × Int)} {k : Nat} {S : Sh} {x0 x4 x5 x6 x7 x8 x9 : Option D} (H : St S b pm p3 p4 nx ch fl us gone) (I : BInv k nx ch fl us gone) (hk : k ≤ 8) (h' : Hd (Q (.bl true) (fun _ => none))) :
    law_k4 (endsD Q) (lw x0 b pm (boxD nx ch fl us gone) x4 x5 x6 x7 x8 x9) S := by
  have sz := sz6
  have ll := I.len
  have a3 := fun a b c d e => (at5 (a := a) (b := b) (c := c) (d := d) (e := e)).2.2.2.1
  have a0 := fun a b c d e => (at5 (a := a) (b := b) (c := c) (d := d) (e := e)).1
  have m1 := H.m.1
  have m2 := H.m.2.1
  unfold law_k4 lw
  walk_at "dl*"
  refine loop_inv (fun rest δ S' => S' = S ∧ ∃ (td : List Rc) (y5 : Option D), rest = td.map recD ∧ (∀ r ∈ td, r ∈ us) ∧ δ = lw x0 b pm (boxD nx ch fl us gone) x4 y5 x6 x7 x8 x9) ?_ ?_ ?_ _ _ _ ⟨rfl, us, x5, rfl, fun _ h => h, rfl⟩
  · rintro x rest δ S' N ⟨rfl, td, y5, e1, e2, rfl⟩ hN
    cases td with
    | nil => cases e1
    | cons r td =>
      injection e1 with e1 e1'
      subst e1
      subst e1'
      have hr := e2 r (List.mem_cons_self ..)
      have o := (I.ok r hr).1
      have fs := find_self I.nd r hr
      have hN' := Hd.mk hN
      have e2' := Hd.mk e2
      have t1 : atI [D.str [107, 101, 112, 116], .int r.uid, .int r.ch, .tup (r.fl.map D.str), .int r.tn, letD r.n r.ln] 1 = some (.int r.uid) := rfl
      clear hN e2 H I h' m1 m2
      show (dName 5) (.tup [.str [107, 101, 112, 116], .int r.uid, .int r.ch, .tup (r.fl.map D.str), .int r.tn, letD r.n r.ln]) _ S' _
      unfold lw
      walk_at "dl*"
      refine ⟨nx, ch, fl, r.uid, us, gone, rfl, ?_⟩
      rw [fs]
      refine ⟨rfl, same_rec o ?_⟩
      dsimp only
      rw [if_neg (by decide)]
      exact hN'.a _ _ ⟨rfl, td, _, rfl, fun q hq => e2'.a q (List.mem_cons_of_mem _ hq), rfl⟩
  · rintro rest δ S' ⟨rfl, _⟩
    exact m2
  · rintro δ S' ⟨rfl, td, y5, e1, e2, rfl⟩
    have I' := Hd.mk I
    have H' := Hd.mk H
    clear I H e1 e2
    unfold law_k5 lw
    walk_at "dl*"
    refine ⟨b, 3, rfl, by decide, H'.a.a.bx, fun t S2 t0 t1 c1 => ?_⟩
    have H2 := H'.a.draw c1
    dsimp only
    have key := Hd.mk (law_k6e (Q := Q) (x0 := x0) (x4 := x4) (x5 := y5) (x6 := x6) (x7 := x7) (x8 := x8) (x9 := x9) H2 I'.a hk h')
    have fn := find_no (us := us) (u := nx + t) fun r hr => by have := I'.a.uid r hr; omega
    refine ⟨rfl, nx, ch, fl, nx + t, us, gone, rfl, ?_⟩
    rw [fn]
    dsimp only
    rw [if_neg (by decide)]
    exact key.a
theorem law_k3e {Q : QD} {b pm p3 p4 : Addr} {S : Sh} {x0 x4 x5 x6 x7 x8 x9 : Option D} (H : St S b pm p3 p4 1 0 0 [] []) (h' : Hd (Q (.bl true) (fun _ => none))) :
    law_k3 (endsD Q) (lw x0 b pm (boxD 1 0 0 [] []) x4 x5 x6 x7 x8 x9) S := by
  have sz := sz6
  unfold law_k3 lw
  walk_at "dl"
  refine ⟨b, 8, rfl, by decide, H.a.bx, fun r S1 r0 r1 b1 => ?_⟩
  have H1 := H.draw b1
  dsimp only
  refine ⟨by omega, by omega, ?_⟩
  refine loop_pre (fun pre δ S' => ∃ (nx ch fl : Int) (us : List Rc) (gone : List (Int × Int)) (y4 y8 y9 : Option D), St S' b pm p3 p4 nx ch fl us gone ∧ BInv pre.length nx ch fl us gone ∧ δ = lw x0 b pm (boxD nx ch fl us gone) y4 x5 x6 x7 y8 y9) ⟨1, 0, 0, [], [], x4, x8, x9, H1, ⟨by decide, by decide, by decide, by decide, (fun _ h => by cases h), List.Pairwise.nil, (fun _ h => by cases h), by decide, (fun _ h => by cases h)⟩, rfl⟩ ?_ (fun _ _ _ _ => trivial) ?_
  · rintro pre x post e δ S' N ⟨nx, ch, fl, us, gone, y4, y8, y9, hS, I, rfl⟩ hN
    obtain ⟨rfl, hj⟩ := rng_split e
    have hk : pre.length < 8 := by omega
    have hN' := Hd.mk hN
    clear hN H1 H b1 e
    unfold lw
    walk_at "dl"
    refine ⟨pm, p3, p4, nx, ch, fl, us, gone, rfl, hS.m, ?_⟩
    unfold law_b3_1
    walk_at "dl"
    unfold law_b3_2
    walk_at "dl"
    refine ⟨b, pm, p3, p4, nx, ch, fl, us, gone, pre.length, by rw [Int.zero_add], hk, hS.a, hS.m, I, fun nx' ch' fl' us' gone' S2 A2 M2 I2 => ?_⟩
    unfold law_b3_3
    walk_at "dl"
    rw [if_neg (by unfold boxD; exact Bool.false_ne_true)]
    refine ⟨pm, p3, p4, nx', ch', fl', us', gone', rfl, M2, rfl, same_box I2 (by omega) ?_⟩
    dsimp only
    rw [if_neg (by decide)]
    refine ⟨rfl, same_box I (by omega) ?_⟩
    dsimp only
    rw [if_neg (by decide)]
    exact hN'.a _ _ ⟨nx', ch', fl', us', gone', _, _, _, ⟨A2, M2⟩, by rw [List.length_append, List.length_singleton]; exact I2, rfl⟩
  · rintro δ S' ⟨nx, ch, fl, us, gone, y4, y8, y9, hS, I, rfl⟩
    rw [rng_len] at I
    exact law_k4e hS I (by omega) h'
theorem ok_law : ∀ ds S Q, ds.length = 1 → sp_law ds S Q → rd_law (endsD Q) (startD N_law ds) S := by
  rintro ds S Q - ⟨⟨ns, rfl, hns⟩, h⟩
  have sz := sz6
  have h' := Hd.mk h
  clear h
  rw [cut_law]
  show dSeq _ _ (endsD Q) [some (.frz (ns.map D.int)), none, none, none, none, none, none, none, none, none] S
  walk_at "dl*"
  refine ⟨ns, rfl, fun gs pd hg hpd => ?_⟩
  walk_at "dl*"
  refine ⟨by omega, fun b hb => ?_⟩
  have nd : pd ≠ b := fun e => by rw [e, su_same] at hb; cases hb
  have o1 : su (su S pd (.lst (gs.map D.int))) b (.lst [.rf pd, .int 0]) b = some (.lst [.rf pd, .int 0]) := su_same
  have o2 : su (su S pd (.lst (gs.map D.int))) b (.lst [.rf pd, .int 0]) pd = some (.lst (gs.map D.int)) := by rw [su_ne nd, su_same]
  generalize su (su S pd (.lst (gs.map D.int))) b (.lst [.rf pd, .int 0]) = S1 at o1 o2
  unfold law_k1
  walk_at "dl*"
  refine ⟨by omega, fun p3 hp3 => ⟨by omega, fun p4 hp4 => ⟨by omega, fun pm hpm => ?_⟩⟩⟩
  have n34 : p3 ≠ p4 := fun e => by rw [← e, su_same] at hp4; cases hp4
  have nm4 : pm ≠ p4 := fun e => by rw [e, su_same] at hpm; cases hpm
  have nm3 : pm ≠ p3 := fun e => by rw [e, su_ne n34, su_same] at hpm; cases hpm
  have M0 : Mod (su (su (su S1 p3 (.lst [])) p4 (.lst [])) pm (.lst [.int 1, .int 0, .int 0, .rf p3, .rf p4])) pm p3 p4 1 0 0 [] [] :=
    ⟨su_same, by rw [su_ne (Ne.symm nm3), su_ne n34, su_same]; rfl, by rw [su_ne (Ne.symm nm4), su_same]; rfl, nm3, nm4, n34⟩
  have nb3 : b ≠ p3 := fun e => by rw [← e, o1] at hp3; cases hp3
  have nd3 : pd ≠ p3 := fun e => by rw [← e, o2] at hp3; cases hp3
  have nb4 : b ≠ p4 := fun e => by rw [← e, su_ne nb3, o1] at hp4; cases hp4
  have nd4 : pd ≠ p4 := fun e => by rw [← e, su_ne nd3, o2] at hp4; cases hp4
  have nbm : b ≠ pm := fun e => by rw [← e, su_ne nb4, su_ne nb3, o1] at hpm; cases hpm
  have ndm : pd ≠ pm := fun e => by rw [← e, su_ne nd4, su_ne nd3, o2] at hpm; cases hpm
  have x1 : su (su (su S1 p3 (.lst [])) p4 (.lst [])) pm (.lst [.int 1, .int 0, .int 0, .rf p3, .rf p4]) b = some (.lst [.rf pd, .int 0]) := by rw [su_ne nbm, su_ne nb4, su_ne nb3]; exact o1
  have x2 : su (su (su S1 p3 (.lst [])) p4 (.lst [])) pm (.lst [.int 1, .int 0, .int 0, .rf p3, .rf p4]) pd = some (.lst (gs.map D.int)) := by rw [su_ne ndm, su_ne nd4, su_ne nd3]; exact o2
  generalize su (su (su S1 p3 (.lst [])) p4 (.lst [])) pm (.lst [.int 1, .int 0, .int 0, .rf p3, .rf p4]) = S2 at M0 x1 x2
  have H : St S2 b pm p3 p4 1 0 0 [] [] := ⟨⟨pd, gs, 0, x1, x2, hg, Int.le_refl _, nd, ⟨nbm, nb3, nb4, ndm, nd3, nd4⟩⟩, M0⟩
  clear hp3 hp4 hpm
  unfold law_k2
  walk_at "dl*"
  refine ⟨rfl, ?_⟩
  exact law_k3e H h'
theorem ok_llaw_pick : ∀ ds S Q, ds.length = 2 → sp_llaw_pick ds S Q → rd_llaw_pick (endsD Q) (startD N_llaw_pick ds) S := by
  rintro ds S Q - ⟨b, p, xs, rfl, hne, hx, hl, hb, hp, h⟩
  have sz := sz6
  walk_at "dl"
  refine ⟨b, 900, rfl, by decide, hb, fun r S' r0 r1 bx => ?_⟩
  have hp' : S' p = some (.lst xs) := (bx.2.1 p hne).trans hp
  have pos : 0 < xs.length := List.length_pos_iff.mpr hx
  dsimp only
  rw [hp']
  dsimp only
  obtain ⟨j, hj⟩ := Int.eq_ofNat_of_zero_le (Int.emod_nonneg r (show (xs.length : Int) ≠ 0 by omega))
  have lt := Int.emod_lt_of_pos r (show (0 : Int) < xs.length by omega)
  have lt' : j < xs.length := by omega
  rw [hj, atI_nat (List.getElem?_eq_getElem lt')]
  exact ⟨by omega, S', Sle.refl S', h _ S' (List.getElem_mem _) bx⟩
end LW

set_option Elab.async false
set_option linter.all false
set_option maxRecDepth 100000
set_option maxHeartbeats 4000000

namespace LW
open PySem PySem.Spec L2 DL PyProof.Rows

section
variable {P : Program} {w : World} {K : PySem.W.Frag} {mg : Str → Option Value} {base : Heap} {F : Nat → Addr} {D : Nat → FuncData} {C : Nat → Addr}
theorem fn_folded (T : Tx K mg F D C) : FnOk P w K mg base CX0 1 (F 0) (D 0) P_folded (lift K 2 sp_folded) :=
  fn_lift T.d_folded.fn sc_folded (fun _ _ _ _ _ _ hr => dv_folded T  hr) ok_folded
theorem fn_header_lines (T : Tx K mg F D C) (G_folded : FnOk P w K mg base CX0 1 (F 0) (D 0) P_folded (lift K 2 sp_folded)) : FnOk P w K mg base CX0 2 (F 1) (D 1) P_header_lines (lift K 2 sp_header_lines) :=
  fn_lift T.d_header_lines.fn sc_header_lines (fun _ _ _ _ _ _ hr => dv_header_lines T G_folded hr) ok_header_lines
theorem fn_lines_of (T : Tx K mg F D C) (G_header_lines : FnOk P w K mg base CX0 2 (F 1) (D 1) P_header_lines (lift K 2 sp_header_lines)) : FnOk P w K mg base CX0 3 (F 2) (D 2) P_lines_of (lift K 1 sp_lines_of) :=
  fn_lift T.d_lines_of.fn sc_lines_of (fun _ _ _ _ _ _ hr => dv_lines_of T G_header_lines hr) ok_lines_of
theorem fn_write_letter (T : Tx K mg F D C) (G_lines_of : FnOk P w K mg base CX0 3 (F 2) (D 2) P_lines_of (lift K 1 sp_lines_of)) : FnOk P w K mg base CX0 4 (F 3) (D 3) P_write_letter (lift K 1 sp_write_letter) :=
  fn_lift T.d_write_letter.fn sc_write_letter (fun _ _ _ _ _ _ hr => dv_write_letter T G_lines_of hr) ok_write_letter
theorem fn_size_of (T : Tx K mg F D C) (G_write_letter : FnOk P w K mg base CX0 4 (F 3) (D 3) P_write_letter (lift K 1 sp_write_letter)) : FnOk P w K mg base CX0 5 (F 4) (D 4) P_size_of (lift K 1 sp_size_of) :=
  fn_lift T.d_size_of.fn sc_size_of (fun _ _ _ _ _ _ hr => dv_size_of T G_write_letter hr) ok_size_of
theorem fn_new_box (T : Tx K mg F D C) : FnOk P w K mg base CX0 1 (F 5) (D 5) P_new_box (lift K 0 sp_new_box) :=
  fn_lift T.d_new_box.fn sc_new_box (fun _ _ _ _ _ _ hr => dv_new_box T  hr) ok_new_box
theorem fn_signs_of (T : Tx K mg F D C) (G_size_of : FnOk P w K mg base CX0 5 (F 4) (D 4) P_size_of (lift K 1 sp_size_of)) : FnOk P w K mg base CX0 6 (F 6) (D 6) P_signs_of (lift K 1 sp_signs_of) :=
  fn_lift T.d_signs_of.fn sc_signs_of (fun _ _ _ _ _ _ hr => dv_signs_of T G_size_of hr) ok_signs_of
theorem fn_record_of (T : Tx K mg F D C) : FnOk P w K mg base CX0 1 (F 7) (D 7) P_record_of (lift K 2 sp_record_of) :=
  fn_lift T.d_record_of.fn sc_record_of (fun _ _ _ _ _ _ hr => dv_record_of T  hr) ok_record_of
theorem fn_fits (T : Tx K mg F D C) : FnOk P w K mg base CX0 1 (F 8) (D 8) P_fits (lift K 2 sp_fits) :=
  fn_lift T.d_fits.fn sc_fits (fun _ _ _ _ _ _ hr => dv_fits T  hr) ok_fits
theorem fn_has_room (T : Tx K mg F D C) (G_signs_of : FnOk P w K mg base CX0 6 (F 6) (D 6) P_signs_of (lift K 1 sp_signs_of)) (G_fits : FnOk P w K mg base CX0 1 (F 8) (D 8) P_fits (lift K 2 sp_fits)) : FnOk P w K mg base CX0 7 (F 9) (D 9) P_has_room (lift K 2 sp_has_room) :=
  fn_lift T.d_has_room.fn sc_has_room (fun _ _ _ _ _ _ hr => dv_has_room T G_signs_of G_fits hr) ok_has_room
theorem fn_put_in (T : Tx K mg F D C) : FnOk P w K mg base CX0 1 (F 10) (D 10) P_put_in (lift K 2 sp_put_in) :=
  fn_lift T.d_put_in.fn sc_put_in (fun _ _ _ _ _ _ hr => dv_put_in T  hr) ok_put_in
theorem fn_new_flags (T : Tx K mg F D C) : FnOk P w K mg base CX0 1 (F 11) (D 11) P_new_flags (lift K 3 sp_new_flags) :=
  fn_lift T.d_new_flags.fn sc_new_flags (fun _ _ _ _ _ _ hr => dv_new_flags T  hr) ok_new_flags
theorem fn_with_flags (T : Tx K mg F D C) (G_new_flags : FnOk P w K mg base CX0 1 (F 11) (D 11) P_new_flags (lift K 3 sp_new_flags)) : FnOk P w K mg base CX0 2 (F 12) (D 12) P_with_flags (lift K 4 sp_with_flags) :=
  fn_lift T.d_with_flags.fn sc_with_flags (fun _ _ _ _ _ _ hr => dv_with_flags T G_new_flags hr) ok_with_flags
theorem fn_flagged (T : Tx K mg F D C) (G_with_flags : FnOk P w K mg base CX0 2 (F 12) (D 12) P_with_flags (lift K 4 sp_with_flags)) : FnOk P w K mg base CX0 3 (F 13) (D 13) P_flagged (lift K 4 sp_flagged) :=
  fn_lift T.d_flagged.fn sc_flagged (fun _ _ _ _ _ _ hr => dv_flagged T G_with_flags hr) ok_flagged
theorem fn_taken_out (T : Tx K mg F D C) : FnOk P w K mg base CX0 1 (F 14) (D 14) P_taken_out (lift K 2 sp_taken_out) :=
  fn_lift T.d_taken_out.fn sc_taken_out (fun _ _ _ _ _ _ hr => dv_taken_out T  hr) ok_taken_out
theorem fn_llaw_cell (T : Tx K mg F D C) : FnOk P w K mg base CX0 1 (F 15) (D 15) P_llaw_cell (lift K 2 sp_llaw_cell) :=
  fn_lift T.d_llaw_cell.fn sc_llaw_cell (fun _ _ _ _ _ _ hr => dv_llaw_cell T  hr) ok_llaw_cell
theorem fn_llaw_digits (T : Tx K mg F D C) (G_llaw_cell : FnOk P w K mg base CX0 1 (F 15) (D 15) P_llaw_cell (lift K 2 sp_llaw_cell)) : FnOk P w K mg base CX0 2 (F 16) (D 16) P_llaw_digits (lift K 3 sp_llaw_digits) :=
  fn_lift T.d_llaw_digits.fn sc_llaw_digits (fun _ _ _ _ _ _ hr => dv_llaw_digits T G_llaw_cell hr) ok_llaw_digits
theorem fn_llaw_draw (T : Tx K mg F D C) : FnOk P w K mg base CX0 1 (F 17) (D 17) P_llaw_draw (lift K 2 sp_llaw_draw) :=
  fn_lift T.d_llaw_draw.fn sc_llaw_draw (fun _ _ _ _ _ _ hr => dv_llaw_draw T  hr) ok_llaw_draw
theorem fn_llaw_pick (T : Tx K mg F D C) (G_llaw_draw : FnOk P w K mg base CX0 1 (F 17) (D 17) P_llaw_draw (lift K 2 sp_llaw_draw)) : FnOk P w K mg base CX0 2 (F 18) (D 18) P_llaw_pick (lift K 2 sp_llaw_pick) :=
  fn_lift T.d_llaw_pick.fn sc_llaw_pick (fun _ _ _ _ _ _ hr => dv_llaw_pick T G_llaw_draw hr) ok_llaw_pick
theorem fn_llaw_letter (T : Tx K mg F D C) : FnOk P w K mg base CX0 1 (F 20) (D 20) P_llaw_letter (lift K 2 sp_llaw_letter) :=
  fn_lift T.d_llaw_letter.fn sc_llaw_letter (fun _ _ _ _ _ _ hr => dv_llaw_letter T  hr) ok_llaw_letter
theorem fn_llaw_text (T : Tx K mg F D C) : FnOk P w K mg base CX0 1 (F 21) (D 21) P_llaw_text (lift K 1 sp_llaw_text) :=
  fn_lift T.d_llaw_text.fn sc_llaw_text (fun _ _ _ _ _ _ hr => dv_llaw_text T  hr) ok_llaw_text
theorem fn_llaw_put (T : Tx K mg F D C) : FnOk P w K mg base CX0 1 (F 22) (D 22) P_llaw_put (lift K 2 sp_llaw_put) :=
  fn_lift T.d_llaw_put.fn sc_llaw_put (fun _ _ _ _ _ _ hr => dv_llaw_put T  hr) ok_llaw_put
theorem fn_llaw_take (T : Tx K mg F D C) : FnOk P w K mg base CX0 1 (F 23) (D 23) P_llaw_take (lift K 2 sp_llaw_take) :=
  fn_lift T.d_llaw_take.fn sc_llaw_take (fun _ _ _ _ _ _ hr => dv_llaw_take T  hr) ok_llaw_take
theorem fn_llaw_flags (T : Tx K mg F D C) : FnOk P w K mg base CX0 1 (F 24) (D 24) P_llaw_flags (lift K 3 sp_llaw_flags) :=
  fn_lift T.d_llaw_flags.fn sc_llaw_flags (fun _ _ _ _ _ _ hr => dv_llaw_flags T  hr) ok_llaw_flags
theorem fn_llaw_told (T : Tx K mg F D C) : FnOk P w K mg base CX0 1 (F 25) (D 25) P_llaw_told (lift K 1 sp_llaw_told) :=
  fn_lift T.d_llaw_told.fn sc_llaw_told (fun _ _ _ _ _ _ hr => dv_llaw_told T  hr) ok_llaw_told
theorem fn_llaw_step (T : Tx K mg F D C) (G_put_in : FnOk P w K mg base CX0 1 (F 10) (D 10) P_put_in (lift K 2 sp_put_in)) (G_flagged : FnOk P w K mg base CX0 3 (F 13) (D 13) P_flagged (lift K 4 sp_flagged)) (G_taken_out : FnOk P w K mg base CX0 1 (F 14) (D 14) P_taken_out (lift K 2 sp_taken_out)) (G_llaw_draw : FnOk P w K mg base CX0 1 (F 17) (D 17) P_llaw_draw (lift K 2 sp_llaw_draw)) (G_llaw_pick : FnOk P w K mg base CX0 2 (F 18) (D 18) P_llaw_pick (lift K 2 sp_llaw_pick)) (G_llaw_same : FnOk P w K mg base CX0 8 (F 19) (D 19) P_llaw_same (lift K 2 (sp_same 8))) (G_llaw_letter : FnOk P w K mg base CX0 1 (F 20) (D 20) P_llaw_letter (lift K 2 sp_llaw_letter)) (G_llaw_put : FnOk P w K mg base CX0 1 (F 22) (D 22) P_llaw_put (lift K 2 sp_llaw_put)) (G_llaw_take : FnOk P w K mg base CX0 1 (F 23) (D 23) P_llaw_take (lift K 2 sp_llaw_take)) (G_llaw_flags : FnOk P w K mg base CX0 1 (F 24) (D 24) P_llaw_flags (lift K 3 sp_llaw_flags)) : FnOk P w K mg base CX0 9 (F 26) (D 26) P_llaw_step (lift K 4 sp_llaw_step) :=
  fn_lift T.d_llaw_step.fn sc_llaw_step (fun _ _ _ _ _ _ hr => dv_llaw_step T G_put_in G_flagged G_taken_out G_llaw_draw G_llaw_pick G_llaw_same G_llaw_letter G_llaw_put G_llaw_take G_llaw_flags hr) ok_llaw_step
theorem fn_law (T : Tx K mg F D C) (G_new_box : FnOk P w K mg base CX0 1 (F 5) (D 5) P_new_box (lift K 0 sp_new_box)) (G_signs_of : FnOk P w K mg base CX0 6 (F 6) (D 6) P_signs_of (lift K 1 sp_signs_of)) (G_record_of : FnOk P w K mg base CX0 1 (F 7) (D 7) P_record_of (lift K 2 sp_record_of)) (G_has_room : FnOk P w K mg base CX0 7 (F 9) (D 9) P_has_room (lift K 2 sp_has_room)) (G_llaw_digits : FnOk P w K mg base CX0 2 (F 16) (D 16) P_llaw_digits (lift K 3 sp_llaw_digits)) (G_llaw_draw : FnOk P w K mg base CX0 1 (F 17) (D 17) P_llaw_draw (lift K 2 sp_llaw_draw)) (G_llaw_same : FnOk P w K mg base CX0 8 (F 19) (D 19) P_llaw_same (lift K 2 (sp_same 8))) (G_llaw_text : FnOk P w K mg base CX0 1 (F 21) (D 21) P_llaw_text (lift K 1 sp_llaw_text)) (G_llaw_told : FnOk P w K mg base CX0 1 (F 25) (D 25) P_llaw_told (lift K 1 sp_llaw_told)) (G_llaw_step : FnOk P w K mg base CX0 9 (F 26) (D 26) P_llaw_step (lift K 4 sp_llaw_step)) : FnOk P w K mg base CX0 10 (F 27) (D 27) P_law (lift K 1 sp_law) :=
  fn_lift T.d_law.fn sc_law (fun _ _ _ _ _ _ hr => dv_law T G_new_box G_signs_of G_record_of G_has_room G_llaw_digits G_llaw_draw G_llaw_same G_llaw_text G_llaw_told G_llaw_step hr) ok_law
theorem fn_same (T : Tx K mg F D C) : ∀ n, FnOk P w K mg base CX0 n (F 19) (D 19) P_llaw_same (lift K 2 (sp_same n))
  | 0 => fn_none (sp_same 0) fun ds S Q q => by
    obtain ⟨a, d, _, _, _, _, h, _⟩ := q
    exact absurd h (Nat.not_lt_zero _)
  | n + 1 => fn_lift T.d_llaw_same.fn sc_llaw_same (fun _ _ _ _ _ _ hr => dv_llaw_same n T (fn_same T n) hr) (ok_same n)

theorem all_fn (T : Tx K mg F D C) : FnOk P w K mg base CX0 10 (F 27) (D 27) P_law (lift K 1 sp_law) := by
  have G_new_box := fn_new_box (P := P) (w := w) (base := base) T 
  have G_folded := fn_folded (P := P) (w := w) (base := base) T 
  have G_header_lines := fn_header_lines (P := P) (w := w) (base := base) T G_folded
  have G_lines_of := fn_lines_of (P := P) (w := w) (base := base) T G_header_lines
  have G_write_letter := fn_write_letter (P := P) (w := w) (base := base) T G_lines_of
  have G_size_of := fn_size_of (P := P) (w := w) (base := base) T G_write_letter
  have G_signs_of := fn_signs_of (P := P) (w := w) (base := base) T G_size_of
  have G_record_of := fn_record_of (P := P) (w := w) (base := base) T 
  have G_fits := fn_fits (P := P) (w := w) (base := base) T 
  have G_has_room := fn_has_room (P := P) (w := w) (base := base) T G_signs_of G_fits
  have G_llaw_cell := fn_llaw_cell (P := P) (w := w) (base := base) T 
  have G_llaw_digits := fn_llaw_digits (P := P) (w := w) (base := base) T G_llaw_cell
  have G_llaw_draw := fn_llaw_draw (P := P) (w := w) (base := base) T 
  have G_llaw_same := fn_same (P := P) (w := w) (base := base) T 8
  have G_llaw_text := fn_llaw_text (P := P) (w := w) (base := base) T 
  have G_llaw_told := fn_llaw_told (P := P) (w := w) (base := base) T 
  have G_put_in := fn_put_in (P := P) (w := w) (base := base) T 
  have G_new_flags := fn_new_flags (P := P) (w := w) (base := base) T 
  have G_with_flags := fn_with_flags (P := P) (w := w) (base := base) T G_new_flags
  have G_flagged := fn_flagged (P := P) (w := w) (base := base) T G_with_flags
  have G_taken_out := fn_taken_out (P := P) (w := w) (base := base) T 
  have G_llaw_pick := fn_llaw_pick (P := P) (w := w) (base := base) T G_llaw_draw
  have G_llaw_letter := fn_llaw_letter (P := P) (w := w) (base := base) T 
  have G_llaw_put := fn_llaw_put (P := P) (w := w) (base := base) T 
  have G_llaw_take := fn_llaw_take (P := P) (w := w) (base := base) T 
  have G_llaw_flags := fn_llaw_flags (P := P) (w := w) (base := base) T 
  have G_llaw_step := fn_llaw_step (P := P) (w := w) (base := base) T G_put_in G_flagged G_taken_out G_llaw_draw G_llaw_pick G_llaw_same G_llaw_letter G_llaw_put G_llaw_take G_llaw_flags
  have G_law := fn_law (P := P) (w := w) (base := base) T G_new_box G_signs_of G_record_of G_has_room G_llaw_digits G_llaw_draw G_llaw_same G_llaw_text G_llaw_told G_llaw_step
  exact G_law
end
theorem all_mk {l : PySem.W.OpenLaw} {w : World} {K : PySem.W.Frag} {h : Heap} {mg : Str → Option Value} {fa : Addr} (X : K.In h) (G : h.Ns mainGlobals mg) (hfa : mg "law" = some (.ref fa))
    {f0 : Addr} {od0 an0 : Option Addr} {sl0 : Array (Option Value)} {oc0 kV0 dc0 pm0 cd0 ct0 : Value}
    {f1 : Addr} {od1 an1 : Option Addr} {sl1 : Array (Option Value)} {oc1 kV1 dc1 pm1 cd1 ct1 : Value}
    {f2 : Addr} {od2 an2 : Option Addr} {sl2 : Array (Option Value)} {oc2 kV2 dc2 pm2 cd2 ct2 : Value}
    {f3 : Addr} {od3 an3 : Option Addr} {sl3 : Array (Option Value)} {oc3 kV3 dc3 pm3 cd3 ct3 : Value}
    {f4 : Addr} {od4 an4 : Option Addr} {sl4 : Array (Option Value)} {oc4 kV4 dc4 pm4 cd4 ct4 : Value}
    {f5 : Addr} {od5 an5 : Option Addr} {sl5 : Array (Option Value)} {oc5 kV5 dc5 pm5 cd5 ct5 : Value}
    {f6 : Addr} {od6 an6 : Option Addr} {sl6 : Array (Option Value)} {oc6 kV6 dc6 pm6 cd6 ct6 : Value}
    {f7 : Addr} {od7 an7 : Option Addr} {sl7 : Array (Option Value)} {oc7 kV7 dc7 pm7 cd7 ct7 : Value}
    {f8 : Addr} {od8 an8 : Option Addr} {sl8 : Array (Option Value)} {oc8 kV8 dc8 pm8 cd8 ct8 : Value}
    {f9 : Addr} {od9 an9 : Option Addr} {sl9 : Array (Option Value)} {oc9 kV9 dc9 pm9 cd9 ct9 : Value}
    {f10 : Addr} {od10 an10 : Option Addr} {sl10 : Array (Option Value)} {oc10 kV10 dc10 pm10 cd10 ct10 : Value}
    {f11 : Addr} {od11 an11 : Option Addr} {sl11 : Array (Option Value)} {oc11 kV11 dc11 pm11 cd11 ct11 : Value}
    {f12 : Addr} {od12 an12 : Option Addr} {sl12 : Array (Option Value)} {oc12 kV12 dc12 pm12 cd12 ct12 : Value}
    {f13 : Addr} {od13 an13 : Option Addr} {sl13 : Array (Option Value)} {oc13 kV13 dc13 pm13 cd13 ct13 : Value}
    {f14 : Addr} {od14 an14 : Option Addr} {sl14 : Array (Option Value)} {oc14 kV14 dc14 pm14 cd14 ct14 : Value}
    {f15 : Addr} {od15 an15 : Option Addr} {sl15 : Array (Option Value)} {oc15 kV15 dc15 pm15 cd15 ct15 : Value}
    {f16 : Addr} {od16 an16 : Option Addr} {sl16 : Array (Option Value)} {oc16 kV16 dc16 pm16 cd16 ct16 : Value}
    {f17 : Addr} {od17 an17 : Option Addr} {sl17 : Array (Option Value)} {oc17 kV17 dc17 pm17 cd17 ct17 : Value}
    {f18 : Addr} {od18 an18 : Option Addr} {sl18 : Array (Option Value)} {oc18 kV18 dc18 pm18 cd18 ct18 : Value}
    {f19 : Addr} {od19 an19 : Option Addr} {sl19 : Array (Option Value)} {oc19 kV19 dc19 pm19 cd19 ct19 : Value}
    {f20 : Addr} {od20 an20 : Option Addr} {sl20 : Array (Option Value)} {oc20 kV20 dc20 pm20 cd20 ct20 : Value}
    {f21 : Addr} {od21 an21 : Option Addr} {sl21 : Array (Option Value)} {oc21 kV21 dc21 pm21 cd21 ct21 : Value}
    {f22 : Addr} {od22 an22 : Option Addr} {sl22 : Array (Option Value)} {oc22 kV22 dc22 pm22 cd22 ct22 : Value}
    {f23 : Addr} {od23 an23 : Option Addr} {sl23 : Array (Option Value)} {oc23 kV23 dc23 pm23 cd23 ct23 : Value}
    {f24 : Addr} {od24 an24 : Option Addr} {sl24 : Array (Option Value)} {oc24 kV24 dc24 pm24 cd24 ct24 : Value}
    {f25 : Addr} {od25 an25 : Option Addr} {sl25 : Array (Option Value)} {oc25 kV25 dc25 pm25 cd25 ct25 : Value}
    {f26 : Addr} {od26 an26 : Option Addr} {sl26 : Array (Option Value)} {oc26 kV26 dc26 pm26 cd26 ct26 : Value}
    {f27 : Addr} {od27 an27 : Option Addr} {sl27 : Array (Option Value)} {oc27 kV27 dc27 pm27 cd27 ct27 : Value}
    {tMOST_GONE : Tok}
    {tMOST_LETTERS : Tok}
    {tMOST_SIGNS : Tok}
    {tWIDTH : Tok}
    (a0 : PySem.W.nsIn K mainGlobals "folded" = some (some (.ref f0)))
    (l0 : K.lookup f0 = some ⟨oc0, od0, .func (PySem.W.fnOf "folded" "folded" (defArgs s_folded) (defBody s_folded) (defScope s_folded) .none kV0 dc0 pm0 an0 cd0 ct0), sl0⟩)
    (c0 : PySem.W.codeIn K cd0 "folded" = true)
    (k0 : PySem.W.keepIn K (.ref f0) = true)
    (a1 : PySem.W.nsIn K mainGlobals "header_lines" = some (some (.ref f1)))
    (l1 : K.lookup f1 = some ⟨oc1, od1, .func (PySem.W.fnOf "header_lines" "header_lines" (defArgs s_header_lines) (defBody s_header_lines) (defScope s_header_lines) .none kV1 dc1 pm1 an1 cd1 ct1), sl1⟩)
    (c1 : PySem.W.codeIn K cd1 "header_lines" = true)
    (k1 : PySem.W.keepIn K (.ref f1) = true)
    (a2 : PySem.W.nsIn K mainGlobals "lines_of" = some (some (.ref f2)))
    (l2 : K.lookup f2 = some ⟨oc2, od2, .func (PySem.W.fnOf "lines_of" "lines_of" (defArgs s_lines_of) (defBody s_lines_of) (defScope s_lines_of) .none kV2 dc2 pm2 an2 cd2 ct2), sl2⟩)
    (c2 : PySem.W.codeIn K cd2 "lines_of" = true)
    (k2 : PySem.W.keepIn K (.ref f2) = true)
    (a3 : PySem.W.nsIn K mainGlobals "write_letter" = some (some (.ref f3)))
    (l3 : K.lookup f3 = some ⟨oc3, od3, .func (PySem.W.fnOf "write_letter" "write_letter" (defArgs s_write_letter) (defBody s_write_letter) (defScope s_write_letter) .none kV3 dc3 pm3 an3 cd3 ct3), sl3⟩)
    (c3 : PySem.W.codeIn K cd3 "write_letter" = true)
    (k3 : PySem.W.keepIn K (.ref f3) = true)
    (a4 : PySem.W.nsIn K mainGlobals "size_of" = some (some (.ref f4)))
    (l4 : K.lookup f4 = some ⟨oc4, od4, .func (PySem.W.fnOf "size_of" "size_of" (defArgs s_size_of) (defBody s_size_of) (defScope s_size_of) .none kV4 dc4 pm4 an4 cd4 ct4), sl4⟩)
    (c4 : PySem.W.codeIn K cd4 "size_of" = true)
    (k4 : PySem.W.keepIn K (.ref f4) = true)
    (a5 : PySem.W.nsIn K mainGlobals "new_box" = some (some (.ref f5)))
    (l5 : K.lookup f5 = some ⟨oc5, od5, .func (PySem.W.fnOf "new_box" "new_box" (defArgs s_new_box) (defBody s_new_box) (defScope s_new_box) .none kV5 dc5 pm5 an5 cd5 ct5), sl5⟩)
    (c5 : PySem.W.codeIn K cd5 "new_box" = true)
    (k5 : PySem.W.keepIn K (.ref f5) = true)
    (a6 : PySem.W.nsIn K mainGlobals "signs_of" = some (some (.ref f6)))
    (l6 : K.lookup f6 = some ⟨oc6, od6, .func (PySem.W.fnOf "signs_of" "signs_of" (defArgs s_signs_of) (defBody s_signs_of) (defScope s_signs_of) .none kV6 dc6 pm6 an6 cd6 ct6), sl6⟩)
    (c6 : PySem.W.codeIn K cd6 "signs_of" = true)
    (k6 : PySem.W.keepIn K (.ref f6) = true)
    (a7 : PySem.W.nsIn K mainGlobals "record_of" = some (some (.ref f7)))
    (l7 : K.lookup f7 = some ⟨oc7, od7, .func (PySem.W.fnOf "record_of" "record_of" (defArgs s_record_of) (defBody s_record_of) (defScope s_record_of) .none kV7 dc7 pm7 an7 cd7 ct7), sl7⟩)
    (c7 : PySem.W.codeIn K cd7 "record_of" = true)
    (k7 : PySem.W.keepIn K (.ref f7) = true)
    (a8 : PySem.W.nsIn K mainGlobals "fits" = some (some (.ref f8)))
    (l8 : K.lookup f8 = some ⟨oc8, od8, .func (PySem.W.fnOf "fits" "fits" (defArgs s_fits) (defBody s_fits) (defScope s_fits) .none kV8 dc8 pm8 an8 cd8 ct8), sl8⟩)
    (c8 : PySem.W.codeIn K cd8 "fits" = true)
    (k8 : PySem.W.keepIn K (.ref f8) = true)
    (a9 : PySem.W.nsIn K mainGlobals "has_room" = some (some (.ref f9)))
    (l9 : K.lookup f9 = some ⟨oc9, od9, .func (PySem.W.fnOf "has_room" "has_room" (defArgs s_has_room) (defBody s_has_room) (defScope s_has_room) .none kV9 dc9 pm9 an9 cd9 ct9), sl9⟩)
    (c9 : PySem.W.codeIn K cd9 "has_room" = true)
    (k9 : PySem.W.keepIn K (.ref f9) = true)
    (a10 : PySem.W.nsIn K mainGlobals "put_in" = some (some (.ref f10)))
    (l10 : K.lookup f10 = some ⟨oc10, od10, .func (PySem.W.fnOf "put_in" "put_in" (defArgs s_put_in) (defBody s_put_in) (defScope s_put_in) .none kV10 dc10 pm10 an10 cd10 ct10), sl10⟩)
    (c10 : PySem.W.codeIn K cd10 "put_in" = true)
    (k10 : PySem.W.keepIn K (.ref f10) = true)
    (a11 : PySem.W.nsIn K mainGlobals "new_flags" = some (some (.ref f11)))
    (l11 : K.lookup f11 = some ⟨oc11, od11, .func (PySem.W.fnOf "new_flags" "new_flags" (defArgs s_new_flags) (defBody s_new_flags) (defScope s_new_flags) .none kV11 dc11 pm11 an11 cd11 ct11), sl11⟩)
    (c11 : PySem.W.codeIn K cd11 "new_flags" = true)
    (k11 : PySem.W.keepIn K (.ref f11) = true)
    (a12 : PySem.W.nsIn K mainGlobals "with_flags" = some (some (.ref f12)))
    (l12 : K.lookup f12 = some ⟨oc12, od12, .func (PySem.W.fnOf "with_flags" "with_flags" (defArgs s_with_flags) (defBody s_with_flags) (defScope s_with_flags) .none kV12 dc12 pm12 an12 cd12 ct12), sl12⟩)
    (c12 : PySem.W.codeIn K cd12 "with_flags" = true)
    (k12 : PySem.W.keepIn K (.ref f12) = true)
    (a13 : PySem.W.nsIn K mainGlobals "flagged" = some (some (.ref f13)))
    (l13 : K.lookup f13 = some ⟨oc13, od13, .func (PySem.W.fnOf "flagged" "flagged" (defArgs s_flagged) (defBody s_flagged) (defScope s_flagged) .none kV13 dc13 pm13 an13 cd13 ct13), sl13⟩)
    (c13 : PySem.W.codeIn K cd13 "flagged" = true)
    (k13 : PySem.W.keepIn K (.ref f13) = true)
    (a14 : PySem.W.nsIn K mainGlobals "taken_out" = some (some (.ref f14)))
    (l14 : K.lookup f14 = some ⟨oc14, od14, .func (PySem.W.fnOf "taken_out" "taken_out" (defArgs s_taken_out) (defBody s_taken_out) (defScope s_taken_out) .none kV14 dc14 pm14 an14 cd14 ct14), sl14⟩)
    (c14 : PySem.W.codeIn K cd14 "taken_out" = true)
    (k14 : PySem.W.keepIn K (.ref f14) = true)
    (a15 : PySem.W.nsIn K mainGlobals "_law_cell" = some (some (.ref f15)))
    (l15 : K.lookup f15 = some ⟨oc15, od15, .func (PySem.W.fnOf "_law_cell" "_law_cell" (defArgs s_llaw_cell) (defBody s_llaw_cell) (defScope s_llaw_cell) .none kV15 dc15 pm15 an15 cd15 ct15), sl15⟩)
    (c15 : PySem.W.codeIn K cd15 "_law_cell" = true)
    (k15 : PySem.W.keepIn K (.ref f15) = true)
    (a16 : PySem.W.nsIn K mainGlobals "_law_digits" = some (some (.ref f16)))
    (l16 : K.lookup f16 = some ⟨oc16, od16, .func (PySem.W.fnOf "_law_digits" "_law_digits" (defArgs s_llaw_digits) (defBody s_llaw_digits) (defScope s_llaw_digits) .none kV16 dc16 pm16 an16 cd16 ct16), sl16⟩)
    (c16 : PySem.W.codeIn K cd16 "_law_digits" = true)
    (k16 : PySem.W.keepIn K (.ref f16) = true)
    (a17 : PySem.W.nsIn K mainGlobals "_law_draw" = some (some (.ref f17)))
    (l17 : K.lookup f17 = some ⟨oc17, od17, .func (PySem.W.fnOf "_law_draw" "_law_draw" (defArgs s_llaw_draw) (defBody s_llaw_draw) (defScope s_llaw_draw) .none kV17 dc17 pm17 an17 cd17 ct17), sl17⟩)
    (c17 : PySem.W.codeIn K cd17 "_law_draw" = true)
    (k17 : PySem.W.keepIn K (.ref f17) = true)
    (a18 : PySem.W.nsIn K mainGlobals "_law_pick" = some (some (.ref f18)))
    (l18 : K.lookup f18 = some ⟨oc18, od18, .func (PySem.W.fnOf "_law_pick" "_law_pick" (defArgs s_llaw_pick) (defBody s_llaw_pick) (defScope s_llaw_pick) .none kV18 dc18 pm18 an18 cd18 ct18), sl18⟩)
    (c18 : PySem.W.codeIn K cd18 "_law_pick" = true)
    (k18 : PySem.W.keepIn K (.ref f18) = true)
    (a19 : PySem.W.nsIn K mainGlobals "_law_same" = some (some (.ref f19)))
    (l19 : K.lookup f19 = some ⟨oc19, od19, .func (PySem.W.fnOf "_law_same" "_law_same" (defArgs s_llaw_same) (defBody s_llaw_same) (defScope s_llaw_same) .none kV19 dc19 pm19 an19 cd19 ct19), sl19⟩)
    (c19 : PySem.W.codeIn K cd19 "_law_same" = true)
    (k19 : PySem.W.keepIn K (.ref f19) = true)
    (a20 : PySem.W.nsIn K mainGlobals "_law_letter" = some (some (.ref f20)))
    (l20 : K.lookup f20 = some ⟨oc20, od20, .func (PySem.W.fnOf "_law_letter" "_law_letter" (defArgs s_llaw_letter) (defBody s_llaw_letter) (defScope s_llaw_letter) .none kV20 dc20 pm20 an20 cd20 ct20), sl20⟩)
    (c20 : PySem.W.codeIn K cd20 "_law_letter" = true)
    (k20 : PySem.W.keepIn K (.ref f20) = true)
    (a21 : PySem.W.nsIn K mainGlobals "_law_text" = some (some (.ref f21)))
    (l21 : K.lookup f21 = some ⟨oc21, od21, .func (PySem.W.fnOf "_law_text" "_law_text" (defArgs s_llaw_text) (defBody s_llaw_text) (defScope s_llaw_text) .none kV21 dc21 pm21 an21 cd21 ct21), sl21⟩)
    (c21 : PySem.W.codeIn K cd21 "_law_text" = true)
    (k21 : PySem.W.keepIn K (.ref f21) = true)
    (a22 : PySem.W.nsIn K mainGlobals "_law_put" = some (some (.ref f22)))
    (l22 : K.lookup f22 = some ⟨oc22, od22, .func (PySem.W.fnOf "_law_put" "_law_put" (defArgs s_llaw_put) (defBody s_llaw_put) (defScope s_llaw_put) .none kV22 dc22 pm22 an22 cd22 ct22), sl22⟩)
    (c22 : PySem.W.codeIn K cd22 "_law_put" = true)
    (k22 : PySem.W.keepIn K (.ref f22) = true)
    (a23 : PySem.W.nsIn K mainGlobals "_law_take" = some (some (.ref f23)))
    (l23 : K.lookup f23 = some ⟨oc23, od23, .func (PySem.W.fnOf "_law_take" "_law_take" (defArgs s_llaw_take) (defBody s_llaw_take) (defScope s_llaw_take) .none kV23 dc23 pm23 an23 cd23 ct23), sl23⟩)
    (c23 : PySem.W.codeIn K cd23 "_law_take" = true)
    (k23 : PySem.W.keepIn K (.ref f23) = true)
    (a24 : PySem.W.nsIn K mainGlobals "_law_flags" = some (some (.ref f24)))
    (l24 : K.lookup f24 = some ⟨oc24, od24, .func (PySem.W.fnOf "_law_flags" "_law_flags" (defArgs s_llaw_flags) (defBody s_llaw_flags) (defScope s_llaw_flags) .none kV24 dc24 pm24 an24 cd24 ct24), sl24⟩)
    (c24 : PySem.W.codeIn K cd24 "_law_flags" = true)
    (k24 : PySem.W.keepIn K (.ref f24) = true)
    (a25 : PySem.W.nsIn K mainGlobals "_law_told" = some (some (.ref f25)))
    (l25 : K.lookup f25 = some ⟨oc25, od25, .func (PySem.W.fnOf "_law_told" "_law_told" (defArgs s_llaw_told) (defBody s_llaw_told) (defScope s_llaw_told) .none kV25 dc25 pm25 an25 cd25 ct25), sl25⟩)
    (c25 : PySem.W.codeIn K cd25 "_law_told" = true)
    (k25 : PySem.W.keepIn K (.ref f25) = true)
    (a26 : PySem.W.nsIn K mainGlobals "_law_step" = some (some (.ref f26)))
    (l26 : K.lookup f26 = some ⟨oc26, od26, .func (PySem.W.fnOf "_law_step" "_law_step" (defArgs s_llaw_step) (defBody s_llaw_step) (defScope s_llaw_step) .none kV26 dc26 pm26 an26 cd26 ct26), sl26⟩)
    (c26 : PySem.W.codeIn K cd26 "_law_step" = true)
    (k26 : PySem.W.keepIn K (.ref f26) = true)
    (a27 : PySem.W.nsIn K mainGlobals "law" = some (some (.ref f27)))
    (l27 : K.lookup f27 = some ⟨oc27, od27, .func (PySem.W.fnOf "law" "law" (defArgs s_law) (defBody s_law) (defScope s_law) .none kV27 dc27 pm27 an27 cd27 ct27), sl27⟩)
    (c27 : PySem.W.codeIn K cd27 "law" = true)
    (k27 : PySem.W.keepIn K (.ref f27) = true)
    (z_bool : PySem.W.nsIn K mainGlobals "bool" = some none)
    (z_int : PySem.W.nsIn K mainGlobals "int" = some none)
    (z_isinstance : PySem.W.nsIn K mainGlobals "isinstance" = some none)
    (z_len : PySem.W.nsIn K mainGlobals "len" = some none)
    (z_list : PySem.W.nsIn K mainGlobals "list" = some none)
    (z_max : PySem.W.nsIn K mainGlobals "max" = some none)
    (z_range : PySem.W.nsIn K mainGlobals "range" = some none)
    (z_set : PySem.W.nsIn K mainGlobals "set" = some none)
    (z_sorted : PySem.W.nsIn K mainGlobals "sorted" = some none)
    (z_str : PySem.W.nsIn K mainGlobals "str" = some none)
    (z_sum : PySem.W.nsIn K mainGlobals "sum" = some none)
    (z_tuple : PySem.W.nsIn K mainGlobals "tuple" = some none)
    (z_zip : PySem.W.nsIn K mainGlobals "zip" = some none)
    (g_MOST_GONE : PySem.W.nsIn K mainGlobals "MOST_GONE" = some (some (.int 200 tMOST_GONE)))
    (g_MOST_LETTERS : PySem.W.nsIn K mainGlobals "MOST_LETTERS" = some (some (.int 1000 tMOST_LETTERS)))
    (g_MOST_SIGNS : PySem.W.nsIn K mainGlobals "MOST_SIGNS" = some (some (.int 1000000 tMOST_SIGNS)))
    (g_WIDTH : PySem.W.nsIn K mainGlobals "WIDTH" = some (some (.int 78 tWIDTH))) :
    ∃ fd : FuncData, (∀ (s : Shared) (v : Value), BindsTo s fd ⟨[v], []⟩ [("script", v)]) ∧ ∀ base : Heap, K.In base → base.Ns mainGlobals mg → FnOk l.prog w K mg base CX0 10 fa fd ["script"] (lift K 1 sp_law) := by
  have e := hfa.symm.trans (PySem.W.mg_of X G a27)
  cases e
  have F0 := fun_mk (st := s_folded) l0 c0 k0
  have b0 : Binds K _ P_folded [] := F0.binds (ps := P_folded) fun _ _ _ _ _ _ us hl => match us, hl with | [_, _], _ => rfl
  have F1 := fun_mk (st := s_header_lines) l1 c1 k1
  have b1 : Binds K _ P_header_lines [] := F1.binds (ps := P_header_lines) fun _ _ _ _ _ _ us hl => match us, hl with | [_, _], _ => rfl
  have F2 := fun_mk (st := s_lines_of) l2 c2 k2
  have b2 : Binds K _ P_lines_of [] := F2.binds (ps := P_lines_of) fun _ _ _ _ _ _ us hl => match us, hl with | [_], _ => rfl
  have F3 := fun_mk (st := s_write_letter) l3 c3 k3
  have b3 : Binds K _ P_write_letter [] := F3.binds (ps := P_write_letter) fun _ _ _ _ _ _ us hl => match us, hl with | [_], _ => rfl
  have F4 := fun_mk (st := s_size_of) l4 c4 k4
  have b4 : Binds K _ P_size_of [] := F4.binds (ps := P_size_of) fun _ _ _ _ _ _ us hl => match us, hl with | [_], _ => rfl
  have F5 := fun_mk (st := s_new_box) l5 c5 k5
  have b5 : Binds K _ P_new_box [] := F5.binds (ps := P_new_box) fun _ _ _ _ _ _ us hl => match us, hl with | [], _ => rfl
  have F6 := fun_mk (st := s_signs_of) l6 c6 k6
  have b6 : Binds K _ P_signs_of [] := F6.binds (ps := P_signs_of) fun _ _ _ _ _ _ us hl => match us, hl with | [_], _ => rfl
  have F7 := fun_mk (st := s_record_of) l7 c7 k7
  have b7 : Binds K _ P_record_of [] := F7.binds (ps := P_record_of) fun _ _ _ _ _ _ us hl => match us, hl with | [_, _], _ => rfl
  have F8 := fun_mk (st := s_fits) l8 c8 k8
  have b8 : Binds K _ P_fits [] := F8.binds (ps := P_fits) fun _ _ _ _ _ _ us hl => match us, hl with | [_, _], _ => rfl
  have F9 := fun_mk (st := s_has_room) l9 c9 k9
  have b9 : Binds K _ P_has_room [] := F9.binds (ps := P_has_room) fun _ _ _ _ _ _ us hl => match us, hl with | [_, _], _ => rfl
  have F10 := fun_mk (st := s_put_in) l10 c10 k10
  have b10 : Binds K _ P_put_in [] := F10.binds (ps := P_put_in) fun _ _ _ _ _ _ us hl => match us, hl with | [_, _], _ => rfl
  have F11 := fun_mk (st := s_new_flags) l11 c11 k11
  have b11 : Binds K _ P_new_flags [] := F11.binds (ps := P_new_flags) fun _ _ _ _ _ _ us hl => match us, hl with | [_, _, _], _ => rfl
  have F12 := fun_mk (st := s_with_flags) l12 c12 k12
  have b12 : Binds K _ P_with_flags [] := F12.binds (ps := P_with_flags) fun _ _ _ _ _ _ us hl => match us, hl with | [_, _, _, _], _ => rfl
  have F13 := fun_mk (st := s_flagged) l13 c13 k13
  have b13 : Binds K _ P_flagged [] := F13.binds (ps := P_flagged) fun _ _ _ _ _ _ us hl => match us, hl with | [_, _, _, _], _ => rfl
  have F14 := fun_mk (st := s_taken_out) l14 c14 k14
  have b14 : Binds K _ P_taken_out [] := F14.binds (ps := P_taken_out) fun _ _ _ _ _ _ us hl => match us, hl with | [_, _], _ => rfl
  have F15 := fun_mk (st := s_llaw_cell) l15 c15 k15
  have b15 : Binds K _ P_llaw_cell [] := F15.binds (ps := P_llaw_cell) fun _ _ _ _ _ _ us hl => match us, hl with | [_, _], _ => rfl
  have F16 := fun_mk (st := s_llaw_digits) l16 c16 k16
  have b16 : Binds K _ P_llaw_digits [] := F16.binds (ps := P_llaw_digits) fun _ _ _ _ _ _ us hl => match us, hl with | [_, _, _], _ => rfl
  have F17 := fun_mk (st := s_llaw_draw) l17 c17 k17
  have b17 : Binds K _ P_llaw_draw [] := F17.binds (ps := P_llaw_draw) fun _ _ _ _ _ _ us hl => match us, hl with | [_, _], _ => rfl
  have F18 := fun_mk (st := s_llaw_pick) l18 c18 k18
  have b18 : Binds K _ P_llaw_pick [] := F18.binds (ps := P_llaw_pick) fun _ _ _ _ _ _ us hl => match us, hl with | [_, _], _ => rfl
  have F19 := fun_mk (st := s_llaw_same) l19 c19 k19
  have b19 : Binds K _ P_llaw_same [] := F19.binds (ps := P_llaw_same) fun _ _ _ _ _ _ us hl => match us, hl with | [_, _], _ => rfl
  have F20 := fun_mk (st := s_llaw_letter) l20 c20 k20
  have b20 : Binds K _ P_llaw_letter [] := F20.binds (ps := P_llaw_letter) fun _ _ _ _ _ _ us hl => match us, hl with | [_, _], _ => rfl
  have F21 := fun_mk (st := s_llaw_text) l21 c21 k21
  have b21 : Binds K _ P_llaw_text [] := F21.binds (ps := P_llaw_text) fun _ _ _ _ _ _ us hl => match us, hl with | [_], _ => rfl
  have F22 := fun_mk (st := s_llaw_put) l22 c22 k22
  have b22 : Binds K _ P_llaw_put [] := F22.binds (ps := P_llaw_put) fun _ _ _ _ _ _ us hl => match us, hl with | [_, _], _ => rfl
  have F23 := fun_mk (st := s_llaw_take) l23 c23 k23
  have b23 : Binds K _ P_llaw_take [] := F23.binds (ps := P_llaw_take) fun _ _ _ _ _ _ us hl => match us, hl with | [_, _], _ => rfl
  have F24 := fun_mk (st := s_llaw_flags) l24 c24 k24
  have b24 : Binds K _ P_llaw_flags [] := F24.binds (ps := P_llaw_flags) fun _ _ _ _ _ _ us hl => match us, hl with | [_, _, _], _ => rfl
  have F25 := fun_mk (st := s_llaw_told) l25 c25 k25
  have b25 : Binds K _ P_llaw_told [] := F25.binds (ps := P_llaw_told) fun _ _ _ _ _ _ us hl => match us, hl with | [_], _ => rfl
  have F26 := fun_mk (st := s_llaw_step) l26 c26 k26
  have b26 : Binds K _ P_llaw_step [] := F26.binds (ps := P_llaw_step) fun _ _ _ _ _ _ us hl => match us, hl with | [_, _, _, _], _ => rfl
  have F27 := fun_mk (st := s_law) l27 c27 k27
  have b27 : Binds K _ P_law [] := F27.binds (ps := P_law) fun _ _ _ _ _ _ us hl => match us, hl with | [_], _ => rfl
  let F : Nat → Addr := fun i => match i with | 0 => f0 | 1 => f1 | 2 => f2 | 3 => f3 | 4 => f4 | 5 => f5 | 6 => f6 | 7 => f7 | 8 => f8 | 9 => f9 | 10 => f10 | 11 => f11 | 12 => f12 | 13 => f13 | 14 => f14 | 15 => f15 | 16 => f16 | 17 => f17 | 18 => f18 | 19 => f19 | 20 => f20 | 21 => f21 | 22 => f22 | 23 => f23 | 24 => f24 | 25 => f25 | 26 => f26 | 27 => fa | _ => 0
  let D : Nat → FuncData := fun i => match i with | 0 => PySem.W.fnOf "folded" "folded" (defArgs s_folded) (defBody s_folded) (defScope s_folded) .none kV0 dc0 pm0 an0 cd0 ct0 | 1 => PySem.W.fnOf "header_lines" "header_lines" (defArgs s_header_lines) (defBody s_header_lines) (defScope s_header_lines) .none kV1 dc1 pm1 an1 cd1 ct1 | 2 => PySem.W.fnOf "lines_of" "lines_of" (defArgs s_lines_of) (defBody s_lines_of) (defScope s_lines_of) .none kV2 dc2 pm2 an2 cd2 ct2 | 3 => PySem.W.fnOf "write_letter" "write_letter" (defArgs s_write_letter) (defBody s_write_letter) (defScope s_write_letter) .none kV3 dc3 pm3 an3 cd3 ct3 | 4 => PySem.W.fnOf "size_of" "size_of" (defArgs s_size_of) (defBody s_size_of) (defScope s_size_of) .none kV4 dc4 pm4 an4 cd4 ct4 | 5 => PySem.W.fnOf "new_box" "new_box" (defArgs s_new_box) (defBody s_new_box) (defScope s_new_box) .none kV5 dc5 pm5 an5 cd5 ct5 | 6 => PySem.W.fnOf "signs_of" "signs_of" (defArgs s_signs_of) (defBody s_signs_of) (defScope s_signs_of) .none kV6 dc6 pm6 an6 cd6 ct6 | 7 => PySem.W.fnOf "record_of" "record_of" (defArgs s_record_of) (defBody s_record_of) (defScope s_record_of) .none kV7 dc7 pm7 an7 cd7 ct7 | 8 => PySem.W.fnOf "fits" "fits" (defArgs s_fits) (defBody s_fits) (defScope s_fits) .none kV8 dc8 pm8 an8 cd8 ct8 | 9 => PySem.W.fnOf "has_room" "has_room" (defArgs s_has_room) (defBody s_has_room) (defScope s_has_room) .none kV9 dc9 pm9 an9 cd9 ct9 | 10 => PySem.W.fnOf "put_in" "put_in" (defArgs s_put_in) (defBody s_put_in) (defScope s_put_in) .none kV10 dc10 pm10 an10 cd10 ct10 | 11 => PySem.W.fnOf "new_flags" "new_flags" (defArgs s_new_flags) (defBody s_new_flags) (defScope s_new_flags) .none kV11 dc11 pm11 an11 cd11 ct11 | 12 => PySem.W.fnOf "with_flags" "with_flags" (defArgs s_with_flags) (defBody s_with_flags) (defScope s_with_flags) .none kV12 dc12 pm12 an12 cd12 ct12 | 13 => PySem.W.fnOf "flagged" "flagged" (defArgs s_flagged) (defBody s_flagged) (defScope s_flagged) .none kV13 dc13 pm13 an13 cd13 ct13 | 14 => PySem.W.fnOf "taken_out" "taken_out" (defArgs s_taken_out) (defBody s_taken_out) (defScope s_taken_out) .none kV14 dc14 pm14 an14 cd14 ct14 | 15 => PySem.W.fnOf "_law_cell" "_law_cell" (defArgs s_llaw_cell) (defBody s_llaw_cell) (defScope s_llaw_cell) .none kV15 dc15 pm15 an15 cd15 ct15 | 16 => PySem.W.fnOf "_law_digits" "_law_digits" (defArgs s_llaw_digits) (defBody s_llaw_digits) (defScope s_llaw_digits) .none kV16 dc16 pm16 an16 cd16 ct16 | 17 => PySem.W.fnOf "_law_draw" "_law_draw" (defArgs s_llaw_draw) (defBody s_llaw_draw) (defScope s_llaw_draw) .none kV17 dc17 pm17 an17 cd17 ct17 | 18 => PySem.W.fnOf "_law_pick" "_law_pick" (defArgs s_llaw_pick) (defBody s_llaw_pick) (defScope s_llaw_pick) .none kV18 dc18 pm18 an18 cd18 ct18 | 19 => PySem.W.fnOf "_law_same" "_law_same" (defArgs s_llaw_same) (defBody s_llaw_same) (defScope s_llaw_same) .none kV19 dc19 pm19 an19 cd19 ct19 | 20 => PySem.W.fnOf "_law_letter" "_law_letter" (defArgs s_llaw_letter) (defBody s_llaw_letter) (defScope s_llaw_letter) .none kV20 dc20 pm20 an20 cd20 ct20 | 21 => PySem.W.fnOf "_law_text" "_law_text" (defArgs s_llaw_text) (defBody s_llaw_text) (defScope s_llaw_text) .none kV21 dc21 pm21 an21 cd21 ct21 | 22 => PySem.W.fnOf "_law_put" "_law_put" (defArgs s_llaw_put) (defBody s_llaw_put) (defScope s_llaw_put) .none kV22 dc22 pm22 an22 cd22 ct22 | 23 => PySem.W.fnOf "_law_take" "_law_take" (defArgs s_llaw_take) (defBody s_llaw_take) (defScope s_llaw_take) .none kV23 dc23 pm23 an23 cd23 ct23 | 24 => PySem.W.fnOf "_law_flags" "_law_flags" (defArgs s_llaw_flags) (defBody s_llaw_flags) (defScope s_llaw_flags) .none kV24 dc24 pm24 an24 cd24 ct24 | 25 => PySem.W.fnOf "_law_told" "_law_told" (defArgs s_llaw_told) (defBody s_llaw_told) (defScope s_llaw_told) .none kV25 dc25 pm25 an25 cd25 ct25 | 26 => PySem.W.fnOf "_law_step" "_law_step" (defArgs s_llaw_step) (defBody s_llaw_step) (defScope s_llaw_step) .none kV26 dc26 pm26 an26 cd26 ct26 | 27 => PySem.W.fnOf "law" "law" (defArgs s_law) (defBody s_law) (defScope s_law) .none kV27 dc27 pm27 an27 cd27 ct27 | _ => PySem.W.fnOf "law" "law" (defArgs s_law) (defBody s_law) (defScope s_law) .none kV27 dc27 pm27 an27 cd27 ct27
  let C : Nat → Addr := fun i => 0
  have T : Tx K mg F D C := {
    d_folded := ⟨F0, PySem.W.mg_of X G a0, b0⟩,
    d_header_lines := ⟨F1, PySem.W.mg_of X G a1, b1⟩,
    d_lines_of := ⟨F2, PySem.W.mg_of X G a2, b2⟩,
    d_write_letter := ⟨F3, PySem.W.mg_of X G a3, b3⟩,
    d_size_of := ⟨F4, PySem.W.mg_of X G a4, b4⟩,
    d_new_box := ⟨F5, PySem.W.mg_of X G a5, b5⟩,
    d_signs_of := ⟨F6, PySem.W.mg_of X G a6, b6⟩,
    d_record_of := ⟨F7, PySem.W.mg_of X G a7, b7⟩,
    d_fits := ⟨F8, PySem.W.mg_of X G a8, b8⟩,
    d_has_room := ⟨F9, PySem.W.mg_of X G a9, b9⟩,
    d_put_in := ⟨F10, PySem.W.mg_of X G a10, b10⟩,
    d_new_flags := ⟨F11, PySem.W.mg_of X G a11, b11⟩,
    d_with_flags := ⟨F12, PySem.W.mg_of X G a12, b12⟩,
    d_flagged := ⟨F13, PySem.W.mg_of X G a13, b13⟩,
    d_taken_out := ⟨F14, PySem.W.mg_of X G a14, b14⟩,
    d_llaw_cell := ⟨F15, PySem.W.mg_of X G a15, b15⟩,
    d_llaw_digits := ⟨F16, PySem.W.mg_of X G a16, b16⟩,
    d_llaw_draw := ⟨F17, PySem.W.mg_of X G a17, b17⟩,
    d_llaw_pick := ⟨F18, PySem.W.mg_of X G a18, b18⟩,
    d_llaw_same := ⟨F19, PySem.W.mg_of X G a19, b19⟩,
    d_llaw_letter := ⟨F20, PySem.W.mg_of X G a20, b20⟩,
    d_llaw_text := ⟨F21, PySem.W.mg_of X G a21, b21⟩,
    d_llaw_put := ⟨F22, PySem.W.mg_of X G a22, b22⟩,
    d_llaw_take := ⟨F23, PySem.W.mg_of X G a23, b23⟩,
    d_llaw_flags := ⟨F24, PySem.W.mg_of X G a24, b24⟩,
    d_llaw_told := ⟨F25, PySem.W.mg_of X G a25, b25⟩,
    d_llaw_step := ⟨F26, PySem.W.mg_of X G a26, b26⟩,
    d_law := ⟨F27, PySem.W.mg_of X G a27, b27⟩,
    b_bool := PySem.W.mg_none_of X G z_bool,
    b_int := PySem.W.mg_none_of X G z_int,
    b_isinstance := PySem.W.mg_none_of X G z_isinstance,
    b_len := PySem.W.mg_none_of X G z_len,
    b_list := PySem.W.mg_none_of X G z_list,
    b_max := PySem.W.mg_none_of X G z_max,
    b_range := PySem.W.mg_none_of X G z_range,
    b_set := PySem.W.mg_none_of X G z_set,
    b_sorted := PySem.W.mg_none_of X G z_sorted,
    b_str := PySem.W.mg_none_of X G z_str,
    b_sum := PySem.W.mg_none_of X G z_sum,
    b_tuple := PySem.W.mg_none_of X G z_tuple,
    b_zip := PySem.W.mg_none_of X G z_zip,
    c_MOST_GONE := glob_int (PySem.W.mg_of X G g_MOST_GONE),
    c_MOST_LETTERS := glob_int (PySem.W.mg_of X G g_MOST_LETTERS),
    c_MOST_SIGNS := glob_int (PySem.W.mg_of X G g_MOST_SIGNS),
    c_WIDTH := glob_int (PySem.W.mg_of X G g_WIDTH) }
  exact ⟨D 27, fun s v => .of_eq rfl, fun base _ _ => all_fn T⟩
theorem walk {l : PySem.W.OpenLaw} {q : Program} {loose : List Str} {XP : (Str → Option Value) → Heap → Prop} {YP : World → Heap → Prop} {d : DefRec} {K : Params → PySem.W.Frag} (hn : l.most = some 63) (hdf : d.params.defaults = [])
    (hY : ∀ (w : World) (h : Heap), YP w h → (K w.params).In h)
    (F : ∀ (w : World) (mg : Str → Option Value) (fa : Addr) (h : Heap), (K w.params).In h → h.Ns mainGlobals mg → mg d.name = some (.ref fa) →
      ∃ fd : FuncData, (∀ (s : Shared) (u : Value), BindsTo s fd ⟨[u], []⟩ [("script", u)]) ∧ ∀ base : Heap, (K w.params).In base → base.Ns mainGlobals mg → FnOk l.prog w (K w.params) mg base CX0 10 fa fd ["script"] (lift (K w.params) 1 sp_law)) :
    PySem.W.WalkO q loose XP YP l.row.toRowW d [] (fun f vs => PySem.call f vs) :=
  L2.walk_of (n := 63) (k := 10) (x := "script") (CX := fun _ => CX0) (sp := fun w => lift (K w.params) 1 sp_law) hn (by decide) hdf ⟨rfl, by decide, by decide⟩ hY F (fun _ _ a ns hl ho hS => law_start hl ho hS) fun _ _ _ _ _ z => z
end LW

open PySem PySem.W PyProof.Rows in
set_option maxRecDepth 100000 in
set_option maxHeartbeats 0 in
theorem PySem.Challenge.cw_oncemail_k30_boxes_rows_and_changes_holds : PySem.Challenge.rw_oncemail_k30_boxes_rows_and_changes.Holds := by
  w_on; o_law; k_head; (case hw => w_witness2)
  k_fill
  refine LW.walk (l := PySem.Challenge.rw_oncemail_k30_boxes_rows_and_changes) rfl rfl (fun w h Y => PySem.W.kIn_of Y) ?F
  case F =>
    intro w mg fa h KX G hmg
    refine' LW.all_mk KX G hmg ?a0 ?l0 ?c0 ?k0 ?a1 ?l1 ?c1 ?k1 ?a2 ?l2 ?c2 ?k2 ?a3 ?l3 ?c3 ?k3 ?a4 ?l4 ?c4 ?k4 ?a5 ?l5 ?c5 ?k5 ?a6 ?l6 ?c6 ?k6 ?a7 ?l7 ?c7 ?k7 ?a8 ?l8 ?c8 ?k8 ?a9 ?l9 ?c9 ?k9 ?a10 ?l10 ?c10 ?k10 ?a11 ?l11 ?c11 ?k11 ?a12 ?l12 ?c12 ?k12 ?a13 ?l13 ?c13 ?k13 ?a14 ?l14 ?c14 ?k14 ?a15 ?l15 ?c15 ?k15 ?a16 ?l16 ?c16 ?k16 ?a17 ?l17 ?c17 ?k17 ?a18 ?l18 ?c18 ?k18 ?a19 ?l19 ?c19 ?k19 ?a20 ?l20 ?c20 ?k20 ?a21 ?l21 ?c21 ?k21 ?a22 ?l22 ?c22 ?k22 ?a23 ?l23 ?c23 ?k23 ?a24 ?l24 ?c24 ?k24 ?a25 ?l25 ?c25 ?k25 ?a26 ?l26 ?c26 ?k26 ?a27 ?l27 ?c27 ?k27 ?z_bool ?z_int ?z_isinstance ?z_len ?z_list ?z_max ?z_range ?z_set ?z_sorted ?z_str ?z_sum ?z_tuple ?z_zip ?g_MOST_GONE ?g_MOST_LETTERS ?g_MOST_SIGNS ?g_WIDTH
    (case a0 => k_is)
    (case l0 => k_is)
    (case c0 => k_is)
    (case k0 => k_is)
    (case a1 => k_is)
    (case l1 => k_is)
    (case c1 => k_is)
    (case k1 => k_is)
    (case a2 => k_is)
    (case l2 => k_is)
    (case c2 => k_is)
    (case k2 => k_is)
    (case a3 => k_is)
    (case l3 => k_is)
    (case c3 => k_is)
    (case k3 => k_is)
    (case a4 => k_is)
    (case l4 => k_is)
    (case c4 => k_is)
    (case k4 => k_is)
    (case a5 => k_is)
    (case l5 => k_is)
    (case c5 => k_is)
    (case k5 => k_is)
    (case a6 => k_is)
    (case l6 => k_is)
    (case c6 => k_is)
    (case k6 => k_is)
    (case a7 => k_is)
    (case l7 => k_is)
    (case c7 => k_is)
    (case k7 => k_is)
    (case a8 => k_is)
    (case l8 => k_is)
    (case c8 => k_is)
    (case k8 => k_is)
    (case a9 => k_is)
    (case l9 => k_is)
    (case c9 => k_is)
    (case k9 => k_is)
    (case a10 => k_is)
    (case l10 => k_is)
    (case c10 => k_is)
    (case k10 => k_is)
    (case a11 => k_is)
    (case l11 => k_is)
    (case c11 => k_is)
    (case k11 => k_is)
    (case a12 => k_is)
    (case l12 => k_is)
    (case c12 => k_is)
    (case k12 => k_is)
    (case a13 => k_is)
    (case l13 => k_is)
    (case c13 => k_is)
    (case k13 => k_is)
    (case a14 => k_is)
    (case l14 => k_is)
    (case c14 => k_is)
    (case k14 => k_is)
    (case a15 => k_is)
    (case l15 => k_is)
    (case c15 => k_is)
    (case k15 => k_is)
    (case a16 => k_is)
    (case l16 => k_is)
    (case c16 => k_is)
    (case k16 => k_is)
    (case a17 => k_is)
    (case l17 => k_is)
    (case c17 => k_is)
    (case k17 => k_is)
    (case a18 => k_is)
    (case l18 => k_is)
    (case c18 => k_is)
    (case k18 => k_is)
    (case a19 => k_is)
    (case l19 => k_is)
    (case c19 => k_is)
    (case k19 => k_is)
    (case a20 => k_is)
    (case l20 => k_is)
    (case c20 => k_is)
    (case k20 => k_is)
    (case a21 => k_is)
    (case l21 => k_is)
    (case c21 => k_is)
    (case k21 => k_is)
    (case a22 => k_is)
    (case l22 => k_is)
    (case c22 => k_is)
    (case k22 => k_is)
    (case a23 => k_is)
    (case l23 => k_is)
    (case c23 => k_is)
    (case k23 => k_is)
    (case a24 => k_is)
    (case l24 => k_is)
    (case c24 => k_is)
    (case k24 => k_is)
    (case a25 => k_is)
    (case l25 => k_is)
    (case c25 => k_is)
    (case k25 => k_is)
    (case a26 => k_is)
    (case l26 => k_is)
    (case c26 => k_is)
    (case k26 => k_is)
    (case a27 => k_is)
    (case l27 => k_is)
    (case c27 => k_is)
    (case k27 => k_is)
    (case z_bool => k_is)
    (case z_int => k_is)
    (case z_isinstance => k_is)
    (case z_len => k_is)
    (case z_list => k_is)
    (case z_max => k_is)
    (case z_range => k_is)
    (case z_set => k_is)
    (case z_sorted => k_is)
    (case z_str => k_is)
    (case z_sum => k_is)
    (case z_tuple => k_is)
    (case z_zip => k_is)
    (case g_MOST_GONE => k_is)
    (case g_MOST_LETTERS => k_is)
    (case g_MOST_SIGNS => k_is)
    (case g_WIDTH => k_is)
#print axioms PySem.Challenge.cw_oncemail_k30_boxes_rows_and_changes_holds

