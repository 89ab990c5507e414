import PyProof.Rows.All
import Wide.All
import OpenK.AllK
import Wide.FinOn
import HandS.ForMost
import HandS.More
import HandS.Set
import HandS.SetFor
import HandS.TupAny
import HandS.Style
import HandS.Walk
import KE.GoesMore
import PyProof.ReprRoads
import PyProof.ListStr
import HandS.SetKeys
import HandS.IsInst
import HandS.Ends
import PySem.Challenge.RW_keptlines_k31_whole_greatest_choices_and
set_option Elab.async false
set_option linter.all false
set_option maxRecDepth 100000
set_option maxHeartbeats 4000000
/-! set(a list or tuple of ints and texts), sorted of such a set: sets over mixKind whose table can be walked. -/
namespace W31
open PySem PySem.Spec PyProof.Rows L2

def keyM (v : Value) : Key := match v with
  | .int k _ => .inl k
  | .str x _ => .inr x
  | _ => .inl 0
/-- an entry of a set: its key is an int or a text, its hash that key's -/
def GoodM (w : World) (e : Int × Value) : Prop := keyIs (keyM e.2) e.2 = true ∧ e.1 = keyH w (keyM e.2)
theorem keyM_of {k : Key} {v : Value} (h : keyIs k v = true) : keyM v = k := by
  rcases keyIs_shape h with ⟨i, t, rfl, rfl⟩ | ⟨x, t, rfl, rfl⟩ <;> rfl
theorem keyM_scan {k : Key} {v : Value} (h : keyIs k v = true) : v.scannable = true := by
  rcases keyIs_shape h with ⟨i, t, rfl, rfl⟩ | ⟨x, t, rfl, rfl⟩ <;> rfl
theorem keyV_is {k : Key} {v : Value} (h : RelV (kV k) v) : keyIs k v = true := by
  cases k with
  | inl i => obtain ⟨t, rfl⟩ := h; exact keyIs_int i t
  | inr x => obtain ⟨t, rfl⟩ := h; exact keyIs_str x t

structure TabM (w : World) (es : Array (Int × Value)) (t : SetTable) (S : Key → Bool) : Prop where
  good : ∀ e ∈ es.toList, GoodM w e
  nd : (es.toList.map fun e => keyM e.2).Nodup
  mem : ∀ k, S k = true ↔ k ∈ es.toList.map fun e => keyM e.2
  few : es.size < scanBound
  fits : t.fits es.size = true
  ris : Ris t.place.toList
  led : w.params.followText "set-order" = true ∨ t.led = true
/-- the set of keys at a: S its members, n their number; it can be walked -/
def SetM (w : World) (h : Heap) (a : Addr) (S : Key → Bool) (n : Nat) : Prop :=
  ∃ o es ep t, h.get? a = some o ∧ o.ExactSet ∧ o.data = .set es ep t ∧ es.size = n ∧ TabM w es t S
section
variable {P : Program} {w : World} {h h' : Heap} {a : Addr} {S : Key → Bool} {n : Nat}
theorem SetM.at (R : SetM w h a S n) (k : ∀ o, h.get? a = some o → h'.get? a = some o) : SetM w h' a S n := by
  obtain ⟨o, es, ep, t, ho, r⟩ := R
  exact ⟨o, es, ep, t, k o ho, r⟩
theorem SetM.congr {S' : Key → Bool} (R : SetM w h a S n) (e : ∀ k, S' k = S k) : SetM w h a S' n := by
  rw [show S' = S from funext e]; exact R
theorem elems_good {l : List (Int × Value)} (g : ∀ e ∈ l, GoodM w e) : ElemsOf (mixKind P w) l := fun e he => by
  obtain ⟨h1, h2⟩ := g e he
  exact ⟨⟨keyM e.2, h1, h2⟩, keyM_scan h1⟩
theorem is_keyM {e : Int × Value} (g : GoodM w e) (k : Key) : (mixKind P w).is k e.2 = true ↔ keyM e.2 = k :=
  ⟨fun q => keyM_of q, fun q => by rw [← q]; exact g.1⟩
theorem mem_keyM {l : List (Int × Value)} (g : ∀ e ∈ l, GoodM w e) (k : Key) : (k ∈ l.map fun e => keyM e.2) ↔ ∃ e ∈ l, (mixKind P w).is k e.2 = true := by
  rw [List.mem_map]
  exact ⟨fun ⟨e, he, q⟩ => ⟨e, he, (is_keyM (g e he) k).2 q⟩, fun ⟨e, he, q⟩ => ⟨e, he, (is_keyM (g e he) k).1 q⟩⟩
theorem setM_new (ho : h.get? a = some { cls := .type "set", dict := none, data := .set #[] 0 (.fresh 0 0 (!w.params.followText "set-order")) }) : SetM w h a (fun _ => false) 0 := by
  refine ⟨_, #[], 0, _, ho, ⟨rfl, rfl, rfl⟩, rfl, rfl, ⟨fun e he => (by simp at he), by simp, fun k => (by simp), by decide, rfl, List.Pairwise.nil, ?_⟩⟩
  show _ ∨ (!w.params.followText "set-order") = true
  cases w.params.followText "set-order" <;> simp
end

section
variable {P : Program} {w : World} {A : Around} {E : Value → Shared → Prop} {s : Shared} {a : Addr} {S : Key → Bool} {n : Nat}
/-- the end of an addition: the entries are stored, perhaps all anew in a larger table -/
theorem addM_tail {g : Bool → Sem Unit} (hg : ∀ (b : Bool) (s₁ : Shared) (Q' : Unit → Shared → Prop), Q' () s₁ → wpAny (model P w) A (g b) Q' E s₁)
    {o : Obj} {es : Array (Int × Value)} {ep : Nat} {t : SetTable} (ho : s.heap.get? a = some o) (hex : o.ExactSet) (hd : o.data = .set es ep t)
    {es1 : Array (Int × Value)} {t2 : SetTable} {S' : Key → Bool} (T : TabM w es1 t2 S') {wasDummy : Bool} {R : Option Bool → Shared → Prop}
    (hR : ∀ h', Heap.SameBut a s.heap h' → SetM w h' a S' es1.size → R (some true) { s with heap := h' }) :
    wpAny (model P w) A (do
        storeSet a es1 t2
        if (!wasDummy && t2.tooFull) = true then do
            g (relayAll t2 es1 (SetTable.grown es1.size)).2.2
            storeSet a (relayAll t2 es1 (SetTable.grown es1.size)).1 (relayAll t2 es1 (SetTable.grown es1.size)).2.1
            pure (some true)
          else pure (some true)) R E s := by
  have b1 := T.few
  refine wpAny_bind (wpAny_storeSet_of ho hd ?_ (fits_of_scanBound b1))
  have o1 := store_at (es' := es1) (t' := t2) ho hd
  have sb := Heap.SameBut.update s.heap a (Obj.putSet es1 t2)
  by_cases full : (!wasDummy && t2.tooFull) = true
  · rw [if_pos full]
    have pm := relayAll_perm t2 es1 (SetTable.grown es1.size)
    have f3 := relayAll_fits t2 es1 (SetTable.grown es1.size)
    have r3 := relayAll_ris t2 es1 (SetTable.grown es1.size)
    have l3 := relayAll_led t2 es1 (SetTable.grown es1.size)
    revert pm f3 r3 l3
    rcases relayAll t2 es1 (SetTable.grown es1.size) with ⟨es2, t3, gave⟩
    intro pm f3 r3 l3
    dsimp only at pm f3 r3 l3 ⊢
    have sz : es2.size = es1.size := by rw [← Array.length_toList, pm.length_eq, Array.length_toList]
    refine wpAny_bind (hg _ _ _ ?_)
    refine wpAny_bind (wpAny_storeSet_of o1 rfl ?_ (fits_of_scanBound (by rw [sz]; exact b1)))
    have o2 := store_at (es' := es2) (t' := t3) o1 rfl
    have pk := pm.map fun e => keyM e.2
    exact wpAny_pure (hR _ (sb.trans (Heap.SameBut.update _ a _)) ⟨_, es2, _, t3, o2, hex, rfl, sz,
      ⟨fun e he => T.good e (pm.mem_iff.mp he), pk.nodup_iff.mpr T.nd, fun k => (T.mem k).trans pk.mem_iff.symm, by rw [sz]; exact b1, f3, r3, T.led.imp id fun z => by rw [l3]; exact z⟩⟩)
  · rw [if_neg full]
    exact wpAny_pure (hR _ sb ⟨_, es1, _, t2, o1, hex, rfl, rfl, T⟩)

theorem addM_hashed {k : Key} {v : Value} {Q : Bool → Shared → Prop} (hkey : keyIs k v = true) (R : SetM w s.heap a S n) (room : n + 1 < scanBound)
    (hQ : ∀ h', Heap.SameBut a s.heap h' → SetM w h' a (fun j => S j || decide (j = k)) (if S k = true then n else n + 1) → Q (!S k) { s with heap := h' }) :
    wpAny (model P w) A (setAddHashed a v ((mixKind P w).hash k)) Q E s := by
  obtain ⟨o, es, ep, t, ho, hex, hd, hn, T⟩ := R
  have hsc : v.scannable = true := keyM_scan hkey
  have hel : ElemsOf (mixKind P w) es.toList := elems_good T.good
  have hgw : ∀ (b : Bool) (s₁ : Shared) (Q' : Unit → Shared → Prop), Q' () s₁ → wpAny (model P w) A (match b with | true => rule "set.scan.the-table-gave-way" | false => pure ()) Q' E s₁ :=
    fun b s₁ Q' q => by cases b <;> first | exact wpAny_pure q | exact wpAny_rule q
  unfold setAddHashed setAddHashedIn
  refine wpAny_holding (wpAny_bind (wpAny_setState_of ho hd T.fits ?_))
  dsimp only
  rw [byScan_of hsc T.few hel]
  simp only [↓reduceIte]
  unfold setAddByScan
  refine wpAny_bind (wpAny_bind (wpAny_rule (wpAny_bind (wpAny_setScan_of (knd := mixKind P w) (k := k) hkey ho hd T.fits hel ?_))))
  cases hfi : List.findIdx? (fun e => (mixKind P w).is k e.2) es.toList with
  | some j =>
    dsimp only
    obtain ⟨hj, pj, _⟩ := List.findIdx?_eq_some_iff_getElem.mp hfi
    have yes : S k = true := (T.mem k).2 ((mem_keyM (P := P) (w := w) T.good k).2 ⟨es.toList[j], List.getElem_mem hj, pj⟩)
    refine wpAny_pure (wpAny_pure ?_)
    have q := hQ s.heap (Heap.SameBut.refl a s.heap) ⟨o, es, ep, t, ho, hex, hd, by rw [if_pos yes]; exact hn, ⟨T.good, T.nd, fun i => by
      rw [Bool.or_eq_true, decide_eq_true_eq, ← T.mem i]
      exact ⟨fun z => z.elim id (fun e => e ▸ yes), .inl⟩, T.few, T.fits, T.ris, T.led⟩⟩
    rw [yes] at q
    exact q
  | none =>
    dsimp only
    have out : ¬ (k ∈ es.toList.map fun e => keyM e.2) := fun z => by
      obtain ⟨e, he, q⟩ := (mem_keyM (P := P) (w := w) T.good k).1 z
      have c := List.findIdx?_eq_none_iff.mp hfi e he
      rw [q] at c
      cases c
    have no : S k = false := by
      cases q : S k with
      | false => rfl
      | true => exact absurd ((T.mem k).1 q) out
    have pm := layNew_perm t es ((mixKind P w).hash k) v
    have f1 := layNew_fits t es ((mixKind P w).hash k) v
    have r1 := layNew_ris t es ((mixKind P w).hash k) v T.ris
    have l1 := layNew_led t es ((mixKind P w).hash k) v
    revert pm f1 r1 l1
    rcases layNew t es ((mixKind P w).hash k) v with ⟨es1, t1, wasDummy, gave⟩
    intro pm f1 r1 l1
    dsimp only at pm f1 r1 l1 ⊢
    rw [Array.toList_push] at pm
    have pc : es1.toList.Perm (((mixKind P w).hash k, v) :: es.toList) := pm.trans (List.perm_append_singleton _ _)
    have kv : keyM v = k := keyM_of hkey
    have pk : (es1.toList.map fun e => keyM e.2).Perm (k :: es.toList.map fun e => keyM e.2) := by
      have z := pc.map fun e : Int × Value => keyM e.2
      rw [List.map_cons] at z
      rw [← kv]
      exact z
    have sz : es1.size = n + 1 := by rw [← Array.length_toList, pc.length_eq, List.length_cons, Array.length_toList, hn]
    have T1 : ∀ t2 : SetTable, t2.fits es1.size = true → Ris t2.place.toList → t2.led = t1.led → TabM w es1 t2 (fun j => S j || decide (j = k)) := fun t2 z1 z2 z3 =>
      ⟨fun e he => by
        rcases List.mem_cons.mp (pc.mem_iff.mp he) with z | z
        · rw [z]; exact ⟨by show keyIs (keyM v) v = true; rw [kv]; exact hkey, by show (mixKind P w).hash k = keyH w (keyM v); rw [kv]; rfl⟩
        · exact T.good e z, pk.nodup_iff.mpr (List.nodup_cons.mpr ⟨out, T.nd⟩), fun i => by
        rw [Bool.or_eq_true, decide_eq_true_eq, T.mem i, pk.mem_iff, List.mem_cons]
        exact Or.comm, by rw [sz]; exact room, z1, z2, T.led.imp id fun z => by rw [z3, l1]; exact z⟩
    have fin : ∀ h', Heap.SameBut a s.heap h' → SetM w h' a (fun j => S j || decide (j = k)) es1.size → Q true { s with heap := h' } := fun h' sb r => by
      have q := hQ h' sb
      rw [no] at q
      rw [sz] at r
      exact q r
    refine wpAny_bind (hgw _ _ _ ?_)
    split
    · refine wpAny_bind ?_
      rw [hashByValue_scannable 8 hsc]
      refine wpAny_pure ?_
      refine addM_tail ?_ ho hex hd (T1 _ ?_ ?_ ?_) ?_
      · intro b s₁ Q' q; cases b <;> first | exact wpAny_pure q | exact wpAny_rule q
      · first | (split <;> first | exact f1 | exact SetTable.fits_plain_off f1) | exact f1
      · first | (split <;> exact r1) | exact r1
      · first | (split <;> rfl) | rfl
      · intro h' sb r; dsimp only; exact wpAny_pure (fin h' sb r)
    · refine wpAny_bind (wpAny_pure ?_)
      simp only [↓reduceIte]
      refine addM_tail ?_ ho hex hd (T1 _ f1 r1 rfl) ?_
      · intro b s₁ Q' q; cases b <;> first | exact wpAny_pure q | exact wpAny_rule q
      · intro h' sb r; dsimp only; exact wpAny_pure (fin h' sb r)

def inK (ks : List Key) (j : Key) : Bool := ks.any fun x => decide (x = j)
theorem inK_iff {ks : List Key} {j : Key} : inK ks j = true ↔ j ∈ ks := by
  unfold inK
  rw [List.any_eq_true]
  exact ⟨fun ⟨x, hx, e⟩ => of_decide_eq_true e ▸ hx, fun h => ⟨j, h, decide_eq_true rfl⟩⟩
/-- the items of a walk are added, one by one -/
theorem update_keys {I : Addr} {fp wr : List Addr} {G : Array GenState → Array GenState → Prop} {n : Nat} {Pv : Nat → Value → Prop} {St : Nat → Shared → Prop} {R : Result → Shared → Prop}
    (W : WalksS P w A.in1 I fp wr G n Pv St) (B : Addr) (hBf : B ∉ fp) (ks : List Key) (hn : n = ks.length) (hb : ks.length + 1 < scanBound) (hval : ∀ i v, Pv i v → ∃ k, ks[i]? = some k ∧ keyIs k v = true) :
    ∀ (m i : Nat) (s : Shared), n - i = m → i ≤ n → St i s → (∃ c, c ≤ i ∧ SetM w s.heap B (inK (ks.take i)) c) →
      (∀ s' c, Moved (B :: wr) G s s' → c ≤ n → SetM w s'.heap B (inK ks) c → R (.ok (.ret .none)) s') →
      codeAny (model P w) A (.builtin "set.update.loop" ⟨[.ref B, .ref I], []⟩) R s
  | 0, i, s, hm, hi, hst, ⟨c, hc, hS⟩, hR => by
    have hBw : B ∉ wr := fun z => hBf (W.sub _ z)
    obtain rfl : i = n := by omega
    refine codeAny_builtin F.entry_set_update_loop ?_
    rw [Around.under_plainId F.plain_set_update_loop _]
    show wpAny _ A.in1 (pyNext (.ref I) >>= _) _ _ s
    refine wpAny_bind (W.done s _ _ hst fun s' mv => ?_)
    show wpAny _ A.in1 (ret Value.none) _ _ s'
    rw [List.take_of_length_le (by omega)] at hS
    exact wpAny_pure (hR s' c (mv.mono fun b z => List.mem_cons_of_mem _ z) hc (hS.at fun o e => mv.heap B o hBw e))
  | m + 1, i, s, hm, hi, hst, ⟨c, hc, hS⟩, hR => by
    have hBw : B ∉ wr := fun z => hBf (W.sub _ z)
    have hlt : i < n := by omega
    refine codeAny_builtin F.entry_set_update_loop ?_
    rw [Around.under_plainId F.plain_set_update_loop _]
    show wpAny _ A.in1 (pyNext (.ref I) >>= _) _ _ s
    refine wpAny_bind (W.item i s _ _ hlt hst fun v s' hP hst' mv => ?_)
    obtain ⟨k, hk, hv⟩ := hval i v hP
    have hS' : SetM w s'.heap B (inK (ks.take i)) c := hS.at fun o e => mv.heap B o hBw e
    show wpAny _ A.in1 (holding [v] (setAdd B v) >>= _) _ _ s'
    refine wpAny_bind (wpAny_holding ?_)
    unfold setAdd
    refine wpAny_holding (wpAny_bind ((mixKind P w).pyHash (k := k) hv ?_))
    refine addM_hashed (s := { s' with toks := s'.toks + 1 }) hv hS' (by omega) fun h' sb hS2 => ?_
    have step : SetM w h' B (inK (ks.take (i + 1))) (if inK (ks.take i) k = true then c else c + 1) := hS2.congr fun j => by
      unfold inK
      rw [List.take_add_one, hk, List.any_append]
      have e : decide (k = j) = decide (j = k) := decide_eq_decide.mpr ⟨Eq.symm, Eq.symm⟩
      simp [e]
    refine wpAny_pure ⟨plainId_quiet F.plain_set_update_loop _, update_keys W B hBf ks hn hb hval m (i + 1) _ (by omega) hlt (W.frame _ s' _ _ hst' (Nat.le_succ _) fun b z o e => ?_) ⟨_, by split <;> omega, step⟩ fun s'' c2 mv2 hc2 hS3 => ?_⟩
    · rw [sb.2 b (fun q : b = B => hBf (q ▸ z))]
      exact e
    · refine hR s'' c2 (Moved.trans W.gtrans ((mv.mono fun b z => List.mem_cons_of_mem _ z).then_heap (Nat.le_succ _) fun b o z e => ?_) mv2) hc2 hS3
      rw [sb.2 b (fun q : b = B => z (by rw [q]; exact List.mem_cons_self))]
      exact e
end
end W31

set_option maxHeartbeats 4000000
/-! set(xs) and sorted(of a set) as rules. -/
namespace W31
open PySem PySem.Spec PyProof.Rows L2
abbrev freshSet (w : World) : Obj := { cls := .type "set", dict := none, data := .set #[] 0 (.fresh 0 0 (!w.params.followText "set-order")) }
section
variable {P : Program} {w : World} {A : Around} {E : Value → Shared → Prop} {s : Shared}
theorem keys_val {items : Array Value} {ks : List Key} (hit : Vals (ks.map kV) items.toList) : items.size = ks.length ∧ ∀ (i : Nat) (v : Value), items[i]? = some v → ∃ k, ks[i]? = some k ∧ keyIs k v = true := by
  have hl : ks.length = items.size := by simpa using hit.length
  refine ⟨hl.symm, fun i v hv => ?_⟩
  have hi : i < ks.length := by rw [hl]; exact (Array.getElem?_eq_some_iff.mp hv).1
  obtain ⟨u, hu, r⟩ := hit.get (i := i) (x := kV ks[i]) (by simp [hi])
  rw [Array.getElem?_toList, hv] at hu
  cases hu
  exact ⟨ks[i], List.getElem?_eq_getElem hi, keyV_is r⟩
set_option maxHeartbeats 8000000 in
theorem set_of_tuple {l : Addr} {items : Array Value} (ks : List Key) {Q : Value → Shared → Prop} (hh : A.handled = none) (hl : s.heap.IsTuple l items) (hit : Vals (ks.map kV) items.toList) (hb : ks.length + 1 < scanBound)
    (h : ∀ (h' : Heap) (tk c : Nat), SetM w h' s.heap.objs.size (inK ks) c → c ≤ ks.length → (∀ b o, s.heap.get? b = some o → h'.get? b = some o) → Q (.ref s.heap.objs.size) { s with heap := h', toks := tk }) :
    wpAny (model P w) A (call (.type "set") [.ref l]) Q E s := by
  obtain ⟨hisz, hval⟩ := keys_val hit
  obtain ⟨c0, tl, hmro⟩ := F.called_set.mro
  have hmade := F.called_set.made
  have hsub := F.called_set.sub
  refine wpAny_call (codeAny_of_tree ?_)
  show wpAny _ _ (callAny (.type "set") _) _ _ _
  refine wpAny_pure ⟨Code.quiet_builtin _ (by decide +kernel), codeAny_builtin F.entry_type_call ?_⟩
  rw [Around.under_plain (weight_type_call_type "set" [.ref l] []) rfl]
  have h1 := F.called_set.notType
  have h2 := F.called_set.canCreate
  have hct := F.typeCall_set_1 (.ref l)
  repeat (any_goals (first | assumption | wp_step))
  refine codeAny_mono (code_set_led1 (.ref l) (E := E) (Q₁ := fun obj s₁ => obj = .ref s.heap.objs.size ∧ s₁ = { s with heap := s.heap.push (freshSet w) }) ⟨rfl, rfl⟩) fun r s₁ hr => ?_
  cases r with
  | error e => exact hr
  | ok fl =>
    cases fl with
    | ret obj =>
      obtain ⟨rfl, rfl⟩ := hr
      have hS : (s.heap.push (freshSet w)).get? s.heap.objs.size = some (freshSet w) := Heap.get?_push_size _ rfl
      have hT : Shared.TypeIs { s with heap := s.heap.push (freshSet w) } (.ref s.heap.objs.size) "set" := ⟨_, hS, rfl⟩
      have hli := F.called_set.init.lookup
      have hbi := F.called_set.init.bind (.ref s.heap.objs.size)
      repeat (any_goals (first | assumption | wp_step))
      refine codeAny_mono (codeAny_call_builtin (R := wants (fun r s₂ => r = .none ∧ ∃ h' tk c, s₂ = { s with heap := h', toks := tk } ∧ SetM w h' s.heap.objs.size (inK ks) c ∧ c ≤ ks.length ∧
          (∀ b o, s.heap.get? b = some o → h'.get? b = some o)) E) F.called_set.init.plain F.entry_set_init (check_set_init_1 hT ?_)) fun r₂ s₂ hr₂ => ?_
      · obtain ⟨⟨ocls, odict, odata, oslots⟩, hol, hcl, nl, hdl⟩ := hl
        simp only at hcl hdl
        subst hcl; subst hdl
        have hol' : (s.heap.push (freshSet w)).get? l = some { cls := .type "tuple", dict := odict, data := .seq items nl, slots := oslots } := Heap.get?_push_of_some _ hol
        have hsls := F.sub_tuple_set
        have hslf := F.sub_tuple_frozenset
        have hne : (Value.type "tuple" == Value.type "dict") = false := by decide
        have hl1 : (s.heap.push (freshSet w)).IsTuple l items := ⟨_, hol', rfl, nl, rfl⟩
        unfold Builtin.«set.__init__» noKeywords Builtin.Frozenset.updateFrom
        generalize hPI : pyIter = PI
        wp_walk
        subst hPI
        refine wpAny_pyIter_tuple hl1 (wpAny_bind (wpAny_runValue ?_))
        have hlS : l < s.heap.objs.size := Heap.lt_size hol
        have hh3 : A.in1.in1.in1.handled = none := by simp [hh]
        have hz1 : (s.heap.push (freshSet w)).objs.size = s.heap.objs.size + 1 := Heap.size_push ..
        have hneI : l ≠ (s.heap.push (freshSet w)).objs.size := by rw [hz1]; exact Nat.ne_of_lt (Nat.lt_succ_of_lt hlS)
        have hSf : s.heap.objs.size ∉ [(s.heap.push (freshSet w)).objs.size, l] := by
          rw [hz1]; simp only [List.mem_cons, List.mem_singleton, List.not_mem_nil, or_false, not_or]
          exact ⟨Nat.ne_of_lt (Nat.lt_succ_self _), Nat.ne_of_gt hlS⟩
        refine update_keys ((Walks.tuple hh3 _ l hneI items).toS) s.heap.objs.size hSf ks hisz hb hval (items.size - 0) 0 _ (by omega) (Nat.zero_le _) ⟨⟨_, Heap.get?_push_size _ rfl, rfl, rfl⟩, (hl1.push _)⟩
          ⟨0, Nat.le_refl 0, (setM_new (Heap.get?_push_of_some _ hS)).congr fun _ => rfl⟩ ?_
        intro s' c' hm hc' hS'
        obtain ⟨h', g2, d', tk', os'⟩ := s'
        have eg : g2 = s.gens := hm.gens
        have ed : d' = s.drawn := hm.drawn
        have eo : os' = s.os := hm.os
        subst eg; subst ed; subst eo
        show wpAny _ _ _ _ _ _
        refine wpAny_pure ?_
        show wpAny _ _ (ret Value.none) _ _ _
        rw [hisz] at hc'
        refine wpAny_pure ⟨rfl, h', tk', c', rfl, hS', hc', fun b o e => ?_⟩
        have hb0 : b < s.heap.objs.size := Heap.lt_size e
        refine hm.heap b o ?_ (Heap.get?_push_of_some _ (Heap.get?_push_of_some _ e))
        simp only [List.mem_cons, List.mem_singleton, List.not_mem_nil, or_false, not_or]
        exact ⟨Nat.ne_of_lt hb0, by rw [hz1]; exact Nat.ne_of_lt (Nat.lt_succ_of_lt hb0)⟩
      · cases r₂ with
        | error e => exact hr₂
        | ok fl₂ =>
          cases fl₂ with
          | ret r =>
            obtain ⟨rfl, h', tk, c', rfl, hS', hc', hk'⟩ := hr₂
            repeat (any_goals (first | assumption | wp_step))
            exact h _ _ _ hS' hc' hk'
          | _ => exact hr₂.elim
    | _ => exact hr.elim
set_option maxHeartbeats 8000000 in
theorem set_of_list {l : Addr} {items : Array Value} (ks : List Key) {Q : Value → Shared → Prop} (hh : A.handled = none) (hl : s.heap.IsList l items) (hit : Vals (ks.map kV) items.toList) (hb : ks.length + 1 < scanBound)
    (h : ∀ (h' : Heap) (tk c : Nat), SetM w h' s.heap.objs.size (inK ks) c → c ≤ ks.length → (∀ b o, s.heap.get? b = some o → h'.get? b = some o) → Q (.ref s.heap.objs.size) { s with heap := h', toks := tk }) :
    wpAny (model P w) A (call (.type "set") [.ref l]) Q E s := by
  obtain ⟨hisz, hval⟩ := keys_val hit
  obtain ⟨c0, tl, hmro⟩ := F.called_set.mro
  have hmade := F.called_set.made
  have hsub := F.called_set.sub
  refine wpAny_call (codeAny_of_tree ?_)
  show wpAny _ _ (callAny (.type "set") _) _ _ _
  refine wpAny_pure ⟨Code.quiet_builtin _ (by decide +kernel), codeAny_builtin F.entry_type_call ?_⟩
  rw [Around.under_plain (weight_type_call_type "set" [.ref l] []) rfl]
  have h1 := F.called_set.notType
  have h2 := F.called_set.canCreate
  have hct := F.typeCall_set_1 (.ref l)
  repeat (any_goals (first | assumption | wp_step))
  refine codeAny_mono (code_set_led1 (.ref l) (E := E) (Q₁ := fun obj s₁ => obj = .ref s.heap.objs.size ∧ s₁ = { s with heap := s.heap.push (freshSet w) }) ⟨rfl, rfl⟩) fun r s₁ hr => ?_
  cases r with
  | error e => exact hr
  | ok fl =>
    cases fl with
    | ret obj =>
      obtain ⟨rfl, rfl⟩ := hr
      have hS : (s.heap.push (freshSet w)).get? s.heap.objs.size = some (freshSet w) := Heap.get?_push_size _ rfl
      have hT : Shared.TypeIs { s with heap := s.heap.push (freshSet w) } (.ref s.heap.objs.size) "set" := ⟨_, hS, rfl⟩
      have hli := F.called_set.init.lookup
      have hbi := F.called_set.init.bind (.ref s.heap.objs.size)
      repeat (any_goals (first | assumption | wp_step))
      refine codeAny_mono (codeAny_call_builtin (R := wants (fun r s₂ => r = .none ∧ ∃ h' tk c, s₂ = { s with heap := h', toks := tk } ∧ SetM w h' s.heap.objs.size (inK ks) c ∧ c ≤ ks.length ∧
          (∀ b o, s.heap.get? b = some o → h'.get? b = some o)) E) F.called_set.init.plain F.entry_set_init (check_set_init_1 hT ?_)) fun r₂ s₂ hr₂ => ?_
      · obtain ⟨⟨ocls, odict, odata, oslots⟩, hol, hcl, nl, hdl⟩ := hl
        simp only at hcl hdl
        subst hcl; subst hdl
        have hol' : (s.heap.push (freshSet w)).get? l = some { cls := .type "list", dict := odict, data := .seq items nl, slots := oslots } := Heap.get?_push_of_some _ hol
        have hsls := F.sub_list_set
        have hslf := F.sub_list_frozenset
        have hne : (Value.type "list" == Value.type "dict") = false := by decide
        have hl1 : (s.heap.push (freshSet w)).IsList l items := ⟨_, hol', rfl, nl, rfl⟩
        unfold Builtin.«set.__init__» noKeywords Builtin.Frozenset.updateFrom
        generalize hPI : pyIter = PI
        wp_walk
        subst hPI
        refine wpAny_pyIter_list hl1 (wpAny_bind (wpAny_runValue ?_))
        have hlS : l < s.heap.objs.size := Heap.lt_size hol
        have hh3 : A.in1.in1.in1.handled = none := by simp [hh]
        have hz1 : (s.heap.push (freshSet w)).objs.size = s.heap.objs.size + 1 := Heap.size_push ..
        have hneI : l ≠ (s.heap.push (freshSet w)).objs.size := by rw [hz1]; exact Nat.ne_of_lt (Nat.lt_succ_of_lt hlS)
        have hSf : s.heap.objs.size ∉ [(s.heap.push (freshSet w)).objs.size, l] := by
          rw [hz1]; simp only [List.mem_cons, List.mem_singleton, List.not_mem_nil, or_false, not_or]
          exact ⟨Nat.ne_of_lt (Nat.lt_succ_self _), Nat.ne_of_gt hlS⟩
        refine update_keys ((Walks.list hh3 _ l hneI items).toS) s.heap.objs.size hSf ks hisz hb hval (items.size - 0) 0 _ (by omega) (Nat.zero_le _) ⟨⟨_, Heap.get?_push_size _ rfl, rfl, rfl⟩, (hl1.push _)⟩
          ⟨0, Nat.le_refl 0, (setM_new (Heap.get?_push_of_some _ hS)).congr fun _ => rfl⟩ ?_
        intro s' c' hm hc' hS'
        obtain ⟨h', g2, d', tk', os'⟩ := s'
        have eg : g2 = s.gens := hm.gens
        have ed : d' = s.drawn := hm.drawn
        have eo : os' = s.os := hm.os
        subst eg; subst ed; subst eo
        show wpAny _ _ _ _ _ _
        refine wpAny_pure ?_
        show wpAny _ _ (ret Value.none) _ _ _
        rw [hisz] at hc'
        refine wpAny_pure ⟨rfl, h', tk', c', rfl, hS', hc', fun b o e => ?_⟩
        have hb0 : b < s.heap.objs.size := Heap.lt_size e
        refine hm.heap b o ?_ (Heap.get?_push_of_some _ (Heap.get?_push_of_some _ e))
        simp only [List.mem_cons, List.mem_singleton, List.not_mem_nil, or_false, not_or]
        exact ⟨Nat.ne_of_lt hb0, by rw [hz1]; exact Nat.ne_of_lt (Nat.lt_succ_of_lt hb0)⟩
      · cases r₂ with
        | error e => exact hr₂
        | ok fl₂ =>
          cases fl₂ with
          | ret r =>
            obtain ⟨rfl, h', tk, c', rfl, hS', hc', hk'⟩ := hr₂
            repeat (any_goals (first | assumption | wp_step))
            exact h _ _ _ hS' hc' hk'
          | _ => exact hr₂.elim
    | _ => exact hr.elim
end
end W31

set_option maxHeartbeats 4000000
/-! sorted of what is gathered: a set of keys, a dict's values. -/
namespace W31
open PySem PySem.Spec PyProof.Rows L2
/-- s1 is s with more objects -/
structure Grown (s s1 : Shared) : Prop where
  keep : ∀ b o, s.heap.get? b = some o → s1.heap.get? b = some o
  gens : s1.gens = s.gens
  os : s1.os = s.os
section
variable {P : Program} {w : World} {A : Around} {E : Value → Shared → Prop} {s : Shared}
/-- behind the gathering: ints -/
theorem sorted_ints_by {v : Value} {ks : List Int} {Q : Value → Shared → Prop}
    (col : ∀ R : List Value → Shared → Prop, (∀ s1 vs ns, Grown s s1 → IntsAre vs ns → ns.Perm ks → R vs s1) → wpAny (model P w) A.in1 (collect v) R E s) (h64 : ks.length < 64)
    (hQ : ∀ (s1 s2 : Shared) (p : Addr) (out : Array Value) (c : Nat) (ns : List Int), Grown s s1 → Grown s1 s2 → s1.heap.objs.size ≤ p → s2.heap.get? p = some (seqObj "list" out c) → IntsAre out.toList ns → ns.Perm ks → ns.Pairwise (· ≤ ·) → Q (.ref p) s2) :
    wpAny (model P w) A (call (.builtin "sorted") [v]) Q E s := by
  refine Calls.call_function_entry kind_sorted plain_sorted entry_sorted (args_sorted1 _) ?_
  unfold Builtin.«sorted»
  refine wpAny_bind (m := checkCount "sorted" 1 1 _) (wpAny_pure ?_)
  refine wpAny_bind (col _ fun s1 vs ns g hI pm => ?_)
  have hvl : vs.length < 64 := by rw [hI.length, pm.length_eq]; exact h64
  refine wpAny_bind (wpAny_newList ?_ (by rw [sizeLine_eq]; omega))
  have hoL : (s1.heap.push (seqObj "list" vs.toArray 0)).get? s1.heap.objs.size = some (seqObj "list" vs.toArray 0) := Heap.get?_push_size _ rfl
  refine wpAny_bind (wpAny_holding (wpAny_call_entry slot_list_sort ⟨_, hoL, rfl⟩ entry_list_sort (list_sort_tree hoL hI hvl fun out ns' a1 a2 a3 => ⟨_, rfl, ?_⟩) (args_list_sort _)))
  obtain ⟨c, hc⟩ := sortedHeap_at (vs := vs) (out := out) hoL
  have keep : ∀ b u, s1.heap.get? b = some u → (sortedHeap (s1.heap.push (seqObj "list" vs.toArray 0)) s1.heap.objs.size vs out).get? b = some u := fun b u e => by
    have hlt := Heap.lt_size e
    rw [sortedHeap_old (Nat.ne_of_lt hlt) (by rw [size_push']; exact Nat.lt_succ_of_lt hlt)]
    exact Heap.get?_push_of_some _ e
  exact wpAny_pure ⟨_, rfl, hQ s1 _ s1.heap.objs.size out c ns' g ⟨keep, rfl, rfl⟩ (Nat.le_refl _) hc a1 (a2.trans pm) a3⟩
/-- .. texts -/
theorem sorted_strs_by {v : Value} {ks : List Str} {Q : Value → Shared → Prop}
    (col : ∀ R : List Value → Shared → Prop, (∀ s1 vs ns, Grown s s1 → StrsAre vs ns → ns.Perm ks → R vs s1) → wpAny (model P w) A.in1 (collect v) R E s) (h64 : ks.length < 64)
    (hQ : ∀ (s1 s2 : Shared) (p : Addr) (out : Array Value) (c : Nat) (ns : List Str), Grown s s1 → Grown s1 s2 → s1.heap.objs.size ≤ p → s2.heap.get? p = some (seqObj "list" out c) → StrsAre out.toList ns → ns.Perm ks → sortedS ns = true → Q (.ref p) s2) :
    wpAny (model P w) A (call (.builtin "sorted") [v]) Q E s := by
  refine Calls.call_function_entry kind_sorted plain_sorted entry_sorted (args_sorted1 _) ?_
  unfold Builtin.«sorted»
  refine wpAny_bind (m := checkCount "sorted" 1 1 _) (wpAny_pure ?_)
  refine wpAny_bind (col _ fun s1 vs ns g hS pm => ?_)
  have hvl : vs.length < 64 := by
    have e1 := StrsAre.len_eq hS
    have e2 := pm.length_eq
    omega
  refine wpAny_bind (wpAny_newList ?_ (by rw [sizeLine_eq]; omega))
  have hoL : (s1.heap.push (seqObj "list" vs.toArray 0)).get? s1.heap.objs.size = some (seqObj "list" vs.toArray 0) := Heap.get?_push_size _ rfl
  refine wpAny_bind (wpAny_holding (wpAny_call_entry slot_list_sort ⟨_, hoL, rfl⟩ entry_list_sort
    (list_sort_treeK strKind_oneLt hoL hS.keysOf (fun v₁ v₂ rest e => keyKind_strs (by rw [← e]; exact hS)) hvl fun st' hp hs => ⟨_, rfl, ?_⟩) (args_list_sort _)))
  obtain ⟨ys, a1, a2, a3⟩ := sorted_out_str hS hp hs
  obtain ⟨c, hc⟩ := sortedHeap_at (vs := vs) (out := (arrOf st').map (·.2)) hoL
  have keep : ∀ b u, s1.heap.get? b = some u → (sortedHeap (s1.heap.push (seqObj "list" vs.toArray 0)) s1.heap.objs.size vs ((arrOf st').map (·.2))).get? b = some u := fun b u e => by
    have hlt := Heap.lt_size e
    rw [sortedHeap_old (Nat.ne_of_lt hlt) (by rw [size_push']; exact Nat.lt_succ_of_lt hlt)]
    exact Heap.get?_push_of_some _ e
  exact wpAny_pure ⟨_, rfl, hQ s1 _ s1.heap.objs.size _ c ys g ⟨keep, rfl, rfl⟩ (Nat.le_refl _) hc a1 (a2.trans pm) a3⟩
end
/-- the values of a list of keys, all ints, all texts -/
theorem ints_keys : ∀ (vs : List Value) (ns : List Int), (vs.map keyM) = ns.map Sum.inl → (∀ v ∈ vs, keyIs (keyM v) v = true) → IntsAre vs ns
  | [], [], _, _ => .nil
  | [], _ :: _, h, _ => by cases h
  | _ :: _, [], h, _ => by cases h
  | v :: vs, n :: ns, h, g => by
    rw [List.map_cons, List.map_cons] at h
    obtain ⟨h1, h2⟩ := List.cons.inj h
    have q := g v List.mem_cons_self
    rw [h1] at q
    rcases keyIs_shape q with ⟨i, t, e, rfl⟩ | ⟨x, t, e, rfl⟩
    · cases e
      exact .cons n t (ints_keys vs ns h2 fun u hu => g u (List.mem_cons_of_mem _ hu))
    · cases e
theorem strs_keys : ∀ (vs : List Value) (ns : List Str), (vs.map keyM) = ns.map Sum.inr → (∀ v ∈ vs, keyIs (keyM v) v = true) → StrsAre vs ns
  | [], [], _, _ => .nil
  | [], _ :: _, h, _ => by cases h
  | _ :: _, [], h, _ => by cases h
  | v :: vs, n :: ns, h, g => by
    rw [List.map_cons, List.map_cons] at h
    obtain ⟨h1, h2⟩ := List.cons.inj h
    have q := g v List.mem_cons_self
    rw [h1] at q
    rcases keyIs_shape q with ⟨i, t, e, rfl⟩ | ⟨x, t, e, rfl⟩
    · cases e
    · cases e
      exact .cons n t (strs_keys vs ns h2 fun u hu => g u (List.mem_cons_of_mem _ hu))
theorem nodup_unmap {α β : Type} {f : α → β} {l : List α} (h : (l.map f).Nodup) : l.Nodup := List.Pairwise.of_map f (fun a b q e => q (congrArg f e)) h
/-- the set of the keys ks at a -/
def SetMO (w : World) (a : Addr) (ks : List Key) (n : Nat) : HO := .ext fun h => SetM w h a (inK ks) n
section
variable {X : Cx}
theorem setMO_new {w : World} {P : Program} {H : Hp} {h : Heap} {a : Addr} {ks : List Key} {n : Nat} (R : SetM w h a (inK ks) n) : ObjOk P w H h a (SetMO w a ks n) := by
  have ⟨o, _, _, _, ho, _⟩ := R
  exact ⟨R, ⟨o, ho⟩, fun h1 h2 p k => SetM.at p k⟩
theorem setMO_get {pins : List (Addr × Obj)} {σ : L2.St} {H : Hp} {s : Shared} {a : Addr} {ks : List Key} {n : Nat} (I : Inv X pins σ H s) (ha : H a = some (SetMO X.w a ks n)) : SetM X.w s.heap a (inK ks) n := (I.hok a _ ha).1
/-- set(xs), xs a list or a tuple of keys -/
def rSetM (K : PySem.W.Frag) (w : World) : List V → Hp → VK → Prop := fun xs H Q => ∃ (l : Addr) (ks : List Key), xs = [.ref l] ∧ (SqL K H l (ks.map kV) ∨ SqT K H l (ks.map kV)) ∧ ks.length ≤ 1000 ∧
  ∀ a n, H a = none → n ≤ ks.length → Q (.ref a) (upd H a (SetMO w a ks n))
theorem cr_setM (hc : X.calm = true) : CallR X (.type "set") (rSetM X.K X.w) := by
  intro pins s σ H xs us Q I r h
  obtain ⟨l, ks, rfl, hq, hz, q⟩ := h
  rw [Vals.ref1 r]
  have fin : ∀ (h' : Heap) (tk c : Nat), SetM X.w h' s.heap.objs.size (inK ks) c → c ≤ ks.length → (∀ b o, s.heap.get? b = some o → h'.get? b = some o) → EP X pins σ Q (.ref s.heap.objs.size) { s with heap := h', toks := tk } := fun h' tk c R hcn k =>
    ⟨.ref _, upd H s.heap.objs.size (SetMO X.w s.heap.objs.size ks c), I.laid (t' := tk) k (Nat.le_refl _) (setMO_new R), rfl, q _ c (I.hok.fresh (Nat.le_refl _)) hcn⟩
  rcases hq with hq | hq
  · obtain ⟨its, rv, p, _⟩ := I.list hq
    exact set_of_list ks (I.ok.hd hc) p.isList (by simpa using rv) (by unfold scanBound; omega) fin
  · obtain ⟨its, rv, p, _⟩ := I.tuple hq
    exact set_of_tuple ks (I.ok.hd hc) p (by simpa using rv) (by unfold scanBound; omega) fin
theorem mem_inl {α β : Type} {l : List α} {k : α} : (Sum.inl k : Sum α β) ∈ l.map Sum.inl ↔ k ∈ l := by
  rw [List.mem_map]
  exact ⟨fun ⟨y, hy, e⟩ => Sum.inl.inj e ▸ hy, fun h => ⟨k, h, rfl⟩⟩
theorem mem_inr {α β : Type} {l : List β} {k : β} : (Sum.inr k : Sum α β) ∈ l.map Sum.inr ↔ k ∈ l := by
  rw [List.mem_map]
  exact ⟨fun ⟨y, hy, e⟩ => Sum.inr.inj e ▸ hy, fun h => ⟨k, h, rfl⟩⟩
theorem unmap_inl : ∀ (l : List Key) (ns : List Int), (∀ k ∈ l, k ∈ ns.map (Sum.inl : Int → Key)) → ∃ ms : List Int, l = ms.map Sum.inl
  | [], _, _ => ⟨[], rfl⟩
  | k :: l, ns, h => by
    obtain ⟨ms, e⟩ := unmap_inl l ns fun x hx => h x (List.mem_cons_of_mem _ hx)
    obtain ⟨y, _, ey⟩ := List.mem_map.mp (h k List.mem_cons_self)
    exact ⟨y :: ms, by rw [e, ← ey]; rfl⟩
theorem unmap_inr : ∀ (l : List Key) (ns : List Str), (∀ k ∈ l, k ∈ ns.map (Sum.inr : Str → Key)) → ∃ ms : List Str, l = ms.map Sum.inr
  | [], _, _ => ⟨[], rfl⟩
  | k :: l, ns, h => by
    obtain ⟨ms, e⟩ := unmap_inr l ns fun x hx => h x (List.mem_cons_of_mem _ hx)
    obtain ⟨y, _, ey⟩ := List.mem_map.mp (h k List.mem_cons_self)
    exact ⟨y :: ms, by rw [e, ← ey]; rfl⟩
theorem eq_with {s s' : Shared} (g : Grown s s') : s' = { s with heap := s'.heap, gens := s'.gens, drawn := s'.drawn, toks := s'.toks } := by
  cases s'
  cases s
  cases g.os
  rfl
theorem grown_kept {pins : List (Addr × Obj)} {σ : L2.St} {H : Hp} {s s1 : Shared} (I : Inv X pins σ H s) (g : Grown s s1) : Inv X pins σ H s1 := by
  rw [eq_with g]
  exact I.call (ch := []) (Un.kept g.keep) (I.hok.kept g.keep) (by rw [g.gens]; exact I.bare) (fun _ z => nomatch z)
theorem grown_laid {pins : List (Addr × Obj)} {σ : L2.St} {H : Hp} {s s2 : Shared} {p : Addr} {xs : List V} (I : Inv X pins σ H s) (g : Grown s s2) (hp : s.heap.objs.size ≤ p) (new : ObjOk X.prog X.w (upd H p (.lst xs)) s2.heap p (.lst xs)) :
    Inv X pins σ (upd H p (.lst xs)) s2 := by
  rw [eq_with g]
  exact I.call (ch := []) (Un.laid g.keep hp (I.hok.fresh hp)) (I.hok.laid g.keep hp new) (by rw [g.gens]; exact I.bare) (fun _ z => nomatch z)
/-- sorted(a set of ints) -/
def rSortMI (w : World) : List V → Hp → VK → Prop := fun vs H Q => ∃ (a : Addr) (ns : List Int) (n : Nat), vs = [V.ref a] ∧ H a = some (SetMO w a (ns.map Sum.inl) n) ∧ n < 64 ∧
  ∀ (ms : List Int) (p : Addr), ms.Pairwise (· ≤ ·) → ms.Nodup → (∀ k, k ∈ ms ↔ k ∈ ns) → H p = none → Q (.ref p) (upd H p (.lst (ms.map V.int)))
theorem cr_sortMI (hc : X.calm = true) : CallR X (.builtin "sorted") (rSortMI X.w) := by
  intro pins s σ H vs us Q I r h
  obtain ⟨a, ns, n, rfl, ha, h64, q⟩ := h
  obtain ⟨o, es, ep, t, ho, hex, hd, hn, T⟩ := setMO_get I ha
  rw [Vals.ref1 r]
  obtain ⟨ks, hks⟩ := unmap_inl (es.toList.map fun e => keyM e.2) ns fun k hk => inK_iff.mp ((T.mem k).2 hk)
  have hkl : ks.length = n := by
    have := congrArg List.length hks
    simpa [hn] using this.symm
  have hnd : ks.Nodup := by
    have z := T.nd
    rw [hks] at z
    exact nodup_unmap z
  have hmem : ∀ k, k ∈ ks ↔ k ∈ ns := fun k => by
    have z := T.mem (Sum.inl k)
    rw [hks, mem_inl, inK_iff, mem_inl] at z
    exact z.symm
  refine sorted_ints_by (ks := ks) (fun R hR => collect_set (A := X.A.in1) (I.ok.hd hc) ⟨o, ho, hex.1, hd⟩ T.fits T.few T.ris T.led fun s1 vs k1 hz g1 o1 pm => ?_) (by rw [hkl]; exact h64) fun s1 s2 p out c ms g0 g hp hg hi pm up => ?_
  · have pk : (vs.map keyM).Perm (ks.map Sum.inl) := by
      have z := pm.map keyM
      rw [List.map_map] at z
      rw [← hks]
      exact z
    obtain ⟨ms, hms⟩ := unmap_inl (vs.map keyM) ns fun k hk => by
      obtain ⟨y, hy, e⟩ := List.mem_map.mp (pk.mem_iff.mp hk)
      rw [← e, mem_inl]
      exact (hmem y).mp hy
    refine hR s1 vs ms ⟨k1, g1, o1⟩ (ints_keys vs ms hms fun v hv => ?_) ?_
    · obtain ⟨e, he, ev⟩ := List.mem_map.mp (pm.mem_iff.mp hv)
      rw [← ev]
      exact (T.good e he).1
    · rw [hms] at pk
      have z := pk.map fun k : Key => match k with | .inl i => i | .inr _ => 0
      simpa [List.map_map, Function.comp_def] using z
  · have hlen : (ms.map V.int).length ≤ sizeLine := by rw [List.length_map, pm.length_eq, hkl, sizeLine_eq]; omega
    exact ⟨.ref p, _, grown_laid (grown_kept I g0) g hp ⟨hlen, out.toList, c, vals_of_ints hi, hg⟩, rfl, q ms p up (pm.nodup_iff.mpr hnd) (fun k => (pm.mem_iff).trans (hmem k)) ((grown_kept I g0).hok.fresh hp)⟩
/-- sorted(a set of texts) -/
def rSortMS (w : World) : List V → Hp → VK → Prop := fun vs H Q => ∃ (a : Addr) (ns : List Str) (n : Nat), vs = [V.ref a] ∧ H a = some (SetMO w a (ns.map Sum.inr) n) ∧ n < 64 ∧
  ∀ (ms : List Str) (p : Addr), sortedS ms = true → ms.Nodup → (∀ k, k ∈ ms ↔ k ∈ ns) → H p = none → Q (.ref p) (upd H p (.lst (ms.map V.str)))
theorem cr_sortMS (hc : X.calm = true) : CallR X (.builtin "sorted") (rSortMS X.w) := by
  intro pins s σ H vs us Q I r h
  obtain ⟨a, ns, n, rfl, ha, h64, q⟩ := h
  obtain ⟨o, es, ep, t, ho, hex, hd, hn, T⟩ := setMO_get I ha
  rw [Vals.ref1 r]
  obtain ⟨ks, hks⟩ := unmap_inr (es.toList.map fun e => keyM e.2) ns fun k hk => inK_iff.mp ((T.mem k).2 hk)
  have hkl : ks.length = n := by
    have := congrArg List.length hks
    simpa [hn] using this.symm
  have hnd : ks.Nodup := by
    have z := T.nd
    rw [hks] at z
    exact nodup_unmap z
  have hmem : ∀ k, k ∈ ks ↔ k ∈ ns := fun k => by
    have z := T.mem (Sum.inr k)
    rw [hks, mem_inr, inK_iff, mem_inr] at z
    exact z.symm
  refine sorted_strs_by (ks := ks) (fun R hR => collect_set (A := X.A.in1) (I.ok.hd hc) ⟨o, ho, hex.1, hd⟩ T.fits T.few T.ris T.led fun s1 vs k1 hz g1 o1 pm => ?_) (by rw [hkl]; exact h64) fun s1 s2 p out c ms g0 g hp hg hi pm up => ?_
  · have pk : (vs.map keyM).Perm (ks.map Sum.inr) := by
      have z := pm.map keyM
      rw [List.map_map] at z
      rw [← hks]
      exact z
    obtain ⟨ms, hms⟩ := unmap_inr (vs.map keyM) ns fun k hk => by
      obtain ⟨y, hy, e⟩ := List.mem_map.mp (pk.mem_iff.mp hk)
      rw [← e, mem_inr]
      exact (hmem y).mp hy
    refine hR s1 vs ms ⟨k1, g1, o1⟩ (strs_keys vs ms hms fun v hv => ?_) ?_
    · obtain ⟨e, he, ev⟩ := List.mem_map.mp (pm.mem_iff.mp hv)
      rw [← ev]
      exact (T.good e he).1
    · rw [hms] at pk
      have z := pk.map fun k : Key => match k with | .inl _ => Str.empty | .inr x => x
      simpa [List.map_map, Function.comp_def] using z
  · have hlen : (ms.map V.str).length ≤ sizeLine := by rw [List.length_map, pm.length_eq, hkl, sizeLine_eq]; omega
    exact ⟨.ref p, _, grown_laid (grown_kept I g0) g hp ⟨hlen, out.toList, c, vals_of_strs hi, hg⟩, rfl, q ms p up (pm.nodup_iff.mpr hnd) (fun k => (pm.mem_iff).trans (hmem k)) ((grown_kept I g0).hok.fresh hp)⟩
end
end W31

set_option maxHeartbeats 4000000
/-! More rules: a dict's values sorted, enumerate of a tuple, a tuple backwards, list(text), repr of data. -/
namespace W31
open PySem PySem.Spec PyProof.Rows L2

/-! ### d.values(), sorted of it -/
def viewO (v d : Addr) : HO := .ext fun h => h.IsValuesView v d
def tVals (td : TE) : TE := fun σ H Q => td σ H fun x H1 => ∃ (d : Addr) (kvs : List (Key × V)), x = .ref d ∧ Rd H1 d (.dK kvs) ∧ ∀ v, H1 v = none → Q (.ref v) (upd H1 v (viewO v d))
section
variable {X : Cx} {e : Expr} {td : TE} {apos cpos : Pos}
theorem pe_vals (he : PE X e td) (hbase : attributeBase e "values" X.env (eval e X.env) = eval e X.env := by rfl) (hline : (apos.endLine == cpos.line) = true := by rfl) : PE X (.Call (.Attribute e "values" apos) [] [] cpos) (tVals td) := by
  refine ⟨fun pins s σ H Q I h => ?_⟩
  refine wpAny_Call_method (T := "dict") (id := "dict.values") hbase rfl hline F.plainAttrs_dict F.slot_dict_values F.type_dict_values (thn (he.run pins s σ H _ I h) fun u s1 hu => ?_)
  obtain ⟨x, H1, I1, rx, d, kvs, ex, hd, q⟩ := hu
  subst ex
  obtain rfl : u = Value.ref d := rx
  obtain ⟨z, lo, vs, rel, dd⟩ := dk_rd I1.hok hd
  obtain ⟨ep, hat⟩ := dd.dictAt
  refine ⟨dd.typeIs, dd.mapOf.noDict, ?_⟩
  have new : ObjOk X.prog X.w (upd H1 s1.heap.objs.size (viewO s1.heap.objs.size d)) (s1.heap.push { cls := .type "dict_values", data := .fields #[.ref d] }) s1.heap.objs.size (viewO s1.heap.objs.size d) :=
    ⟨⟨_, Heap.get?_push_size _ rfl, rfl, rfl⟩, ⟨_, Heap.get?_push_size _ rfl⟩, fun h1 h2 ⟨o, e1, e2⟩ k => ⟨o, k o e1, e2⟩⟩
  have fin : EP X pins σ Q (.ref s1.heap.objs.size) { s1 with heap := s1.heap.push { cls := .type "dict_values", data := .fields #[.ref d] } } :=
    ⟨.ref _, _, I1.laid (t' := s1.toks) (fun b ob q => Heap.get?_push_of_some _ q) (Nat.le_refl _) new, rfl, q _ (I1.hok.fresh (Nat.le_refl _))⟩
  show wpAny _ _ (callWith cpos (.builtin "dict.values") [.ref d] [] []) _ X.xe s1
  exact method_meetsIn F.slot_dict_values F.entry_dict_values rfl (PySem.evalArgs_none ⟨rfl, hat.dictOf.typeIs, F.args_dict_values_1 _, _, meets_dict_values (mixKind X.prog X.w) d lo, ⟨vs, hat.dictOf⟩, fin⟩)
theorem mem_vals {P : Program} {w : World} : ∀ {kvs : List (Key × V)} {vs : List (Key × Value)}, KV kvs vs → ∀ {ns : List Int}, kvs.map (·.2) = ns.map V.int → IntsAre (vs.map (·.2)) ns
  | [], _, .nil, ns, h => by
    cases ns with
    | nil => exact .nil
    | cons n ns => cases h
  | (k, v) :: kvs, _, .cons r t, ns, h => by
    cases ns with
    | nil => cases h
    | cons n ns =>
      rw [List.map_cons, List.map_cons] at h
      obtain ⟨h1, h2⟩ := List.cons.inj h
      have h1' : v = V.int n := h1
      subst h1'
      obtain ⟨tk, e⟩ := r.2
      rw [List.map_cons, e]
      exact .cons n tk (mem_vals (P := P) (w := w) t h2)
/-- sorted(d.values()), all ints -/
def rSortV : List V → Hp → VK → Prop := fun xs H Q => ∃ (v d : Addr) (kvs : List (Key × V)) (ns : List Int), xs = [.ref v] ∧ H v = some (viewO v d) ∧ Rd H d (.dK kvs) ∧ kvs.map (·.2) = ns.map V.int ∧ ns.length < 64 ∧
  ∀ (ms : List Int) (p : Addr), ms.Perm ns → ms.Pairwise (· ≤ ·) → H p = none → Q (.ref p) (upd H p (.lst (ms.map V.int)))
theorem cr_sortV (hc : X.calm = true) : CallR X (.builtin "sorted") rSortV := by
  intro pins s σ H vs us Q I r h
  obtain ⟨v, d, kvs, ns, rfl, hv, hd, hn, h64, q⟩ := h
  rw [Vals.ref1 r]
  obtain ⟨z, lo, xs, rel, dd⟩ := dk_rd I.hok hd
  obtain ⟨ep, hat⟩ := dd.dictAt
  have hview : s.heap.IsValuesView v d := (I.hok v _ hv).1
  have hints := mem_vals (P := X.prog) (w := X.w) rel hn
  have hl : xs.length = ns.length := by
    have := hints.length
    rw [List.length_map] at this
    exact this
  have h16 : xs.length ≤ sizeLine := by rw [hl, sizeLine_eq]; omega
  refine sorted_ints_by (ks := ns) (fun R hR => PySem.W.kdu_collect (A := X.A.in1) (PySem.W.kdl_values (knd := mixKind X.prog X.w) (kvs := xs) (ep := ep) (r := v)) (I.ok.hd hc) ⟨hview, hat⟩ h16 fun h' tk acc hk hacc => ?_) h64 fun s1 s2 p out c ms g0 g hp hg hi pm up => ?_
  · have e : acc.toList = xs.map (·.2) := by
      apply List.ext_getElem?
      intro j
      cases e1 : acc.toList[j]? with
      | none =>
        have hj := List.getElem?_eq_none_iff.mp e1
        rw [Array.length_toList, hacc.1] at hj
        rw [List.getElem?_map, List.getElem?_eq_none hj]
        rfl
      | some y =>
        obtain ⟨k, e2⟩ := hacc.2 j y (by rw [← Array.getElem?_toList]; exact e1)
        rw [List.getElem?_map, e2]
        rfl
    refine hR _ acc.toList ns ⟨hk, rfl, rfl⟩ (by rw [e]; exact hints) (List.Perm.refl _)
  · have hlen : (ms.map V.int).length ≤ sizeLine := by rw [List.length_map, pm.length_eq, sizeLine_eq]; omega
    exact ⟨.ref p, _, grown_laid (grown_kept I g0) g hp ⟨hlen, out.toList, c, vals_of_ints hi, hg⟩, rfl, q ms p pm up ((grown_kept I g0).hok.fresh hp)⟩
end
end W31

set_option maxHeartbeats 4000000
/-! enumerate of a tuple, a tuple backwards, list(text), repr of data. -/
namespace W31
open PySem PySem.Spec PyProof.Rows L2
open Sem (wp)
open AutoSeq1 (wpAny_loadPart')

/-! ### enumerate(t) -/
theorem enum_new_tup (l : Addr) (items : Array Value) (n : Nat) (dct : Option Addr) (sl : Array (Option Value)) :
    Meets (Builtin.«enumerate.__new__» ⟨[.type "enumerate", .ref l], []⟩) (fun _ R s => s.heap.get? l = some { cls := .type "tuple", dict := dct, data := .seq items n, slots := sl } ∧
      R (.ok (.ret (.ref (s.heap.push { cls := .type "tuple_iterator", data := .fields #[.ref l, .int 0 0] }).objs.size)))
        { s with heap := (s.heap.push { cls := .type "tuple_iterator", data := .fields #[.ref l, .int 0 0] }).push { cls := .type "enumerate", data := .fields #[.none, .bool false, .ref s.heap.objs.size, rawInt 0, .none, .none] } }) :=
  .of_wp fun prog w A R s h => by
    obtain ⟨hp, g, d, tk, os⟩ := s; obtain ⟨hl, h⟩ := h
    have hsub := sub_enumerate
    have hL : Heap.IsTuple (Shared.heap ⟨hp, g, d, tk, os⟩) l items := ⟨_, hl, rfl, n, rfl⟩
    wp_walk using wpAny_loadPart' hl
    refine wpAny_stack_any fun st => wpAny_pure ?_
    split
    · rename_i c _ _ _ _ _
      cases (c == Value.type "enumerate") <;>
      · wp_walk using wpAny_loadPart' hl, wpAny_pyIter_tuple hL
        exact ⟨_, rfl, h⟩
    · wp_walk using wpAny_loadPart' hl, wpAny_pyIter_tuple hL
      exact ⟨_, rfl, h⟩
theorem call_enum_tup {prog : Program} {w : World} {A : Around} {E : Value → Shared → Prop} {s : Shared} {l : Addr} {items : Array Value} {Q : Value → Shared → Prop} (hL : s.heap.IsTuple l items)
    (h : ∀ h', IsEnum h' (s.heap.objs.size + 1) s.heap.objs.size 0 .none → h'.IsTupleIter s.heap.objs.size l 0 → (∀ b o, s.heap.get? b = some o → h'.get? b = some o) → Q (.ref (s.heap.objs.size + 1)) { s with heap := h' }) :
    wpAny (model prog w) A (call (.type "enumerate") [.ref l]) Q E s := by
  obtain ⟨⟨c, dct, dt, sl⟩, hl, hc, n, hd⟩ := hL
  replace hc : c = .type "tuple" := hc
  replace hd : dt = .seq items n := hd
  subst hc hd
  refine callType_new F.called_enumerate (by decide) (F.typeCall_enumerate_1 _) (F.newCall_enumerate_1 _) (fun obj => F.args_object_init_2 obj _) F.entry_enumerate_new (enum_new_tup l items n dct sl) ⟨hl, ?_⟩
  have hz : (s.heap.push { cls := .type "tuple_iterator", data := .fields #[.ref l, .int 0 0] }).objs.size = s.heap.objs.size + 1 := Heap.size_push ..
  show _ ∧ _
  rw [hz]
  have he : IsEnum ((s.heap.push { cls := .type "tuple_iterator", data := .fields #[.ref l, .int 0 0] }).push
      { cls := .type "enumerate", data := .fields #[.none, .bool false, .ref s.heap.objs.size, rawInt 0, .none, .none] }) (s.heap.objs.size + 1) s.heap.objs.size 0 .none := by
    have := Heap.get?_push_size (s.heap.push { cls := .type "tuple_iterator", data := .fields #[.ref l, .int 0 0] })
      (o := { cls := .type "enumerate", data := .fields #[.none, .bool false, .ref s.heap.objs.size, rawInt 0, .none, .none] }) rfl
    rw [hz] at this; exact this
  exact ⟨⟨_, he, rfl⟩, h _ he ⟨_, Heap.get?_push_of_some _ (Heap.get?_push_size _ rfl), rfl, rfl⟩ fun b o x => Heap.get?_push_of_some _ (Heap.get?_push_of_some _ x)⟩
/-- the places and items of the tuple at a, in new pairs -/
def Itet (K : PySem.W.Frag) (a : Addr) : It :=
  ⟨fun i H => ∃ (xs : List V) (x : V), SqT K H a xs ∧ xs[i]? = some x, fun i H v H' => ∃ T x, v = .ref T ∧ H T = none ∧ H' = upd H T (.tup [.int (i : Nat), x]) ∧ ∀ xs, SqT K H a xs → xs[i]? = some x, fun i H => ∃ xs : List V, SqT K H a xs ∧ xs.length = i⟩
theorem turn_enumT {P : Program} {w : World} {K : PySem.W.Frag} {elts : List Expr} {kk : Nat} {tpos : Pos} (a e it : Addr) :
    Turn P w K (.Tuple elts kk tpos) (Itet K a) [e, it] e (fun i h => (∃ old, IsEnum h e it ((i : Nat) : Int) old) ∧ h.IsTupleIter it a i ∧ e ≠ it ∧ a ≠ e ∧ a ≠ it) where
  mem := by simp
  obj := fun i h st b hb => by
    obtain ⟨⟨old, he⟩, ⟨o, ho, hc, hd⟩, _⟩ := st
    have e' : b = e ∨ b = it := by simpa using hb
    rcases e' with z | z
    · rw [z]; exact ⟨_, he, fun v q => nomatch q⟩
    · rw [z]; exact ⟨o, ho, fun v q => by rw [hd] at q; cases q⟩
  keep := fun i h h' st k => let ⟨⟨old, he⟩, hi, hne⟩ := st; ⟨⟨old, k e (by simp) _ he⟩, hi.at fun o q => k it (by simp) o q, hne⟩
  item := by
    intro X hP hw hK hc i pins s σ H E I hf st hg
    subst hP hw hK
    obtain ⟨⟨old, he⟩, hit, hne, ha1, ha2⟩ := st
    obtain ⟨xs, x, hq, hx⟩ := hg
    obtain ⟨its, rv, p, hz⟩ := I.tuple hq
    obtain ⟨u, hu, ru⟩ := rv.get hx
    have hel : e < s.heap.objs.size := Heap.lt_size he
    have hil : it < s.heap.objs.size := by obtain ⟨_, q, _⟩ := hit; exact Heap.lt_size q
    have hlt : i < its.toArray.size := by simpa using (List.getElem?_eq_some_iff.mp hu).1
    refine wpAny_pyNext_enum_itemD (Draws.tuple (A := X.A.in1) (I.ok.hd hc) it a ha2 its.toArray) he ⟨hit, (show s.heap.IsTuple a its.toArray from p)⟩ hlt hne (by simp [hne, ha1.symm]) fun y h' tk hy ho hst hT hsz hk => ?_
    have hyu : y = u := by
      have h1 : its[i]? = some y := by simpa using hy
      rw [hu] at h1
      exact (Option.some.inj h1).symm
    subst hyu
    refine ⟨_, rfl, wpAny_letOwnedTupleGo_enum (s := { s with heap := h', toks := tk + 1 }) ho fun h'' he' sb => ?_⟩
    have hT2 : h''.get? s.heap.objs.size = some { cls := .type "tuple", data := .seq #[.int i tk, y] } := (sb.2 _ (Nat.ne_of_gt hel)).trans hT
    have new : ObjOk X.prog X.w (upd H s.heap.objs.size (.tup [.int (i : Nat), x])) h'' s.heap.objs.size (.tup [.int (i : Nat), x]) :=
      ⟨by show 2 ≤ sizeLine; decide, [.int i tk, y], .cons ⟨_, rfl⟩ (.cons ru .nil), ⟨_, hT2, rfl, _, rfl⟩⟩
    have I1 : Inv X pins σ (upd H s.heap.objs.size (.tup [.int (i : Nat), x])) { s with heap := h'', toks := tk + 1 } :=
      I.turnedNew (ch := [e, it]) (fun b ob hb q => (sb.2 b (fun z => hb (by simp [z]))).trans (hk b ob (fun z => hb (by simp [z])) (fun z => hb (by simp [z])) q)) hf (Nat.le_refl _) new
    refine ⟨.ref s.heap.objs.size, _, I1, rfl, ⟨_, x, rfl, I.hok.fresh (Nat.le_refl _), rfl, fun ys hy => by rw [I.tuple_inj hy hq]; exact hx⟩, ⟨⟨y, ?_⟩, hst.1.at fun o q => (sb.2 it (Ne.symm hne)).trans q, hne, ha1, ha2⟩, fun b hb => ?_⟩
    · have e1 : ((i + 1 : Nat) : Int) = (i : Int) + 1 := by omega
      rw [e1]; exact he'
    · have hb' : b < s.heap.objs.size := by
        have e' : b = e ∨ b = it := by simpa using hb
        rcases e' with z | z
        · rw [z]; exact hel
        · rw [z]; exact hil
      rw [upd_ne (Nat.ne_of_lt hb')]
      exact (hf b hb).1
  done := by
    intro X hP hw hK hc i pins s σ H E I hf st hg
    subst hP hw hK
    obtain ⟨⟨old, he⟩, hit, hne, ha1, ha2⟩ := st
    obtain ⟨xs, hq, hx⟩ := hg
    obtain ⟨its, rv, p, hz⟩ := I.tuple hq
    obtain ⟨f0, f1, f2, f3, f4, f5⟩ := hf it (by simp)
    have hl : i = its.toArray.size := by
      rw [List.size_toArray, ← rv.length]
      exact hx.symm
    rw [hl] at hit he
    exact wpAny_pyNext_enum_endD (Draws.tuple (A := X.A.in1) (I.ok.hd hc) it a ha2 its.toArray) he ⟨hit, (show s.heap.IsTuple a its.toArray from p)⟩ fun h' eb => ⟨rfl, I.turned (t' := s.toks) (fun b o hb q => eb b o hb q) f0 f1 f3 f4 f5⟩
  self := fun A i s Q E st h => let ⟨⟨_, he⟩, _⟩ := st; wpAny_pyIter_enum he h
def iEnumT (K : PySem.W.Frag) (ta : TA) : TI := fun σ H R => ta σ H fun vs H1 => ∃ a xs, vs = [.ref a] ∧ SqT K H1 a xs ∧ R (Itet K a) H1
theorem pi_enumT {X : Cx} {e : Expr} {ta : TA} {p pos tpos : Pos} {elts : List Expr} {kk : Nat} (hg : Gl X "enumerate") (hm : X.mg "enumerate" = none) (ha : PA X [e] ta) (hs : starEach [e] X.env = [(false, eval e X.env)] := by rfl) :
    PI X (.Tuple elts kk tpos) (.Call (.Name "enumerate" p) [e] [] pos) (iEnumT X.K ta) := by
  refine ⟨fun pins s σ H R I h => ?_⟩
  refine Call_ (ld_blt I hg hm boot_enumerate (PyProof.Rows.callWith_type1 (thn (ha.run pos pins s σ H _ I h) fun us s1 ⟨vs, H1, I1, r1, q1⟩ => ?_) hs rfl))
  obtain ⟨a, xs, ex, hq, q⟩ := q1
  subst ex
  rw [Vals.ref1 r1]
  obtain ⟨its, rv, p', hz⟩ := I1.tuple hq
  have hT : s1.heap.IsTuple a its.toArray := p'
  refine call_enum_tup hT fun h' he hit hk => wpAny_pyIter_enum he ?_
  have hal : a < s1.heap.objs.size := by obtain ⟨_, q, _⟩ := hT; exact Heap.lt_size q
  refine ⟨s1.heap.objs.size + 1, [s1.heap.objs.size + 1, s1.heap.objs.size], _, _, H1, rfl, I1.kept (t' := s1.toks) hk, turn_enumT a (s1.heap.objs.size + 1) s1.heap.objs.size,
    ⟨⟨.none, he⟩, hit, Nat.succ_ne_self _, Nat.ne_of_lt (Nat.lt_succ_of_lt hal), Nat.ne_of_lt hal⟩, fun b hb => ?_, q⟩
  have hle : s1.heap.objs.size ≤ b := by
    have e' : b = s1.heap.objs.size + 1 ∨ b = s1.heap.objs.size := by simpa using hb
    rcases e' with z | z
    · rw [z]; exact Nat.le_add_right _ _
    · rw [z]; exact Nat.le_refl _
  exact I1.fpOk hle (I1.hok.fresh hle)
theorem walk_enumT {K : PySem.W.Frag} {a : Addr} {xs : List V} : Walk (Itet K a) xs.length (fun H => SqT K H a xs) (YPair (fun i => some (.int (i : Nat))) (fun i => xs[i]?)) := by
  refine ⟨fun i _ hi q => ⟨xs, xs[i], q, by simp [hi]⟩, fun _ q => ⟨xs, q, rfl⟩, fun i H v H' _ q y => ?_⟩
  obtain ⟨T, x, h1, h2, h3, h4⟩ := y
  exact ⟨T, .int (i : Nat), x, h1, h2, h3, rfl, h4 xs q⟩

/-! ### t[::-1] -/
theorem filterMap_some {α β : Type} {f : α → Option β} {g : α → β} : ∀ l : List α, (∀ k ∈ l, f k = some (g k)) → l.filterMap f = l.map g
  | [], _ => rfl
  | k :: l, h => by rw [List.filterMap_cons, h k List.mem_cons_self, List.map_cons, filterMap_some l fun x hx => h x (List.mem_cons_of_mem _ hx)]
theorem back_range (xs : Array Value) : ((List.range xs.size).filterMap fun (k : Nat) => xs[(((xs.size : Int) - 1) + (k : Int) * -1).toNat]?).toArray = xs.toList.reverse.toArray := by
  congr 1
  have e : ∀ k ∈ List.range xs.size, xs[(((xs.size : Int) - 1) + (k : Int) * -1).toNat]? = some (xs.toList.reverse.getD k .none) := fun k hk => by
    have hk' := List.mem_range.mp hk
    have h1 : (((xs.size : Int) - 1) + (k : Int) * -1).toNat = xs.size - 1 - k := by omega
    rw [h1, List.getD_eq_getElem?_getD, List.getElem?_reverse (by simpa using hk')]
    simp only [Array.length_toList, Array.getElem?_toList]
    rw [Array.getElem?_eq_getElem (by omega)]
    rfl
  rw [filterMap_some _ e]
  apply List.ext_getElem?
  intro j
  rw [List.getElem?_map]
  by_cases hj : j < xs.size
  · rw [List.getElem?_range hj, List.getElem?_eq_getElem (by simpa using hj)]
    simp [List.getD_eq_getElem?_getD, hj]
  · rw [List.getElem?_eq_none (by simpa using hj), List.getElem?_eq_none (by simpa using hj)]
    rfl
section
variable {prog : Program} {w : World} {A : Around} {E : Value → Shared → Prop} {s : Shared}
theorem adjust_back (n : Nat) : Builtin.Slice.sliceAdjust none none (-1) (n : Int) = ((n : Int) - 1, -1) := rfl
theorem places_back (n : Nat) : Builtin.Slice.slicePlaces ((n : Int) - 1) (-1) (-1) = n := by
  unfold Builtin.Slice.slicePlaces
  have h1 : ¬ ((-1 : Int) > 0) := by omega
  have h2 : (-(-1 : Int)) = 1 := rfl
  rw [if_neg h1, h2, Int.ediv_one]
  split <;> omega
theorem sliceApplied_back {sl : Addr} {vs : Value} {n : Nat} {Q : Int × Int × Nat → Shared → Prop} (hs : s.heap.IsSliceOf sl .none .none vs) (ps : IsPart vs (some (-1)))
    (h : Q ((n : Int) - 1, -1, n) s) : wpAny (model prog w) A (Builtin.Slice.sliceApplied (.ref sl) (pure (n : Int))) Q E s := by
  obtain ⟨os, hos, hcs, hds⟩ := id hs
  unfold Builtin.Slice.sliceApplied Builtin.Slice.sliceFields
  refine wpAny_bind (wpAny_bind (wpAny_field hos hds (x := .none) rfl (wpAny_bind (wpAny_field hos hds (x := .none) rfl (wpAny_bind (wpAny_field hos hds (x := vs) rfl (wpAny_pure ?_)))))))
  refine wpAny_bind (HT.slicePart_ ps ?_)
  show wpAny _ _ (if ((-1 : Int) == 0) = true then _ else _) _ _ s
  rw [if_neg (by decide)]
  refine wpAny_bind (HT.slicePart_ .none (wpAny_bind (HT.slicePart_ .none (wpAny_bind (wpAny_pure ?_)))))
  show wpAny _ _ (match Builtin.Slice.sliceAdjust none none (-1) (n : Int) with | (lo, hi) => pure (lo, (-1 : Int), Builtin.Slice.slicePlaces lo hi (-1))) _ _ s
  rw [adjust_back n]
  show wpAny _ _ (pure ((n : Int) - 1, (-1 : Int), Builtin.Slice.slicePlaces ((n : Int) - 1) (-1) (-1))) _ _ s
  rw [places_back]
  exact wpAny_pure h
theorem getItem_tuple_back {t sl : Addr} {items : Array Value} {vs : Value} {Q : Value → Shared → Prop} (ht : IsTup s.heap t items) (hs : s.heap.IsSliceOf sl .none .none vs) (ps : IsPart vs (some (-1)))
    (h : Q (.ref s.heap.objs.size) { s with heap := s.heap.push { cls := .type "tuple", data := .seq items.toList.reverse.toArray } }) (hsz : items.size ≤ sizeLine) : wpAny (model prog w) A (getItem (.ref t) (.ref sl)) Q E s := by
  have hfit : sizeOk (.seq items.toList.reverse.toArray) := by
    show items.toList.reverse.toArray.size ≤ sizeLine
    simpa using hsz
  obtain ⟨os, hos, hcs, hds⟩ := id hs
  have hTs : s.TypeIs (.ref sl) "slice" := ⟨os, hos, hcs⟩
  unfold getItem
  try with_reducible refine wpAny_holding ?_
  first | refine wpAny_bind (wpAny_pure ?_) | skip
  refine wpAny_bind (wpAny_sequenceKey ht.typeIs (by decide) ?_)
  refine wpAny_bind (wpAny_callSpecial?_slot (name := Str.ofString "__getitem__") ht.typeIs PyProof.Rows.slot_tuple_getitem
    (wpAny_call_entry PyProof.Rows.slot_tuple_getitem ht.typeIs entry_tuple_getitem ?_ (args_tuple_getitem _ _)))
  show wpAny _ _ (Builtin.Tuple.tupleItemsOf (.ref t) >>= _) _ _ s
  refine wpAny_bind (tupleItemsOf_ ht (wpAny_bind (wpAny_typeOf hTs ?_)))
  rw [if_pos (by decide)]
  refine wpAny_bind (sliceApplied_back hs ps ?_)
  have hno : ¬ ((((items.size : Int) - 1) == 0 && (-1 : Int) == 1 && items.size == items.size) = true) := by
    intro q
    rw [Bool.and_eq_true, Bool.and_eq_true] at q
    exact absurd q.1.2 (by decide)
  show wpAny _ _ (if (((items.size : Int) - 1) == 0 && (-1 : Int) == 1 && items.size == items.size) = true then _ else _) _ _ s
  rw [if_neg hno, back_range]
  first
    | exact wpAny_bind (m := Builtin.Tuple.tupleExact _) (wpAny_newObj_type (wpAny_pure ⟨_, rfl, wpAny_pure h⟩) hfit)
    | exact wpAny_bind (m := Builtin.Tuple.tupleExact _) (wpAny_newObj_type (wpAny_bind (wpAny_pure (wpAny_pure ⟨_, rfl, wpAny_pure h⟩))) hfit)
    | exact wpAny_bind (wpAny_bind (m := Builtin.Tuple.tupleExact _) (wpAny_newObj_type (wpAny_pure (wpAny_pure ⟨_, rfl, wpAny_pure h⟩)) hfit))
end
def tBackT (K : PySem.W.Frag) (te : TE) : TE := fun σ H Q => te σ H fun x H1 => ∃ a xs, x = .ref a ∧ SqT K H1 a xs ∧ ∀ p, H1 p = none → Q (.ref p) (upd H1 p (.tup xs.reverse))
theorem pe_backT {X : Cx} {e : Expr} {te : TE} {k : Nat} {p1 p2 p3 pos : Pos} (he : PE X e te) : PE X (.Subscript e (.Slice none none (some (.UnaryOp .USub (.Constant (.int 1) k p1) p2)) p3) pos) (tBackT X.K te) := by
  refine ⟨fun pins s σ H Q I h => ?_⟩
  refine Subscript_ (thn (he.run pins s σ H _ I h) fun v s1 ⟨x, H1, I1, r1, q1⟩ => ?_)
  obtain ⟨a, xs, ex, hx, q⟩ := q1
  subst ex
  cases r1
  have hst : PO X (some (.UnaryOp .USub (.Constant (.int 1) k p1) p2)) (tPart (tUn (rU fun i => .int (-i)) (tC (.int 1)))) := po_some (pe_un un_neg pe_int)
  refine wpAny_Slice (thn (po_none.run pins s1 σ H1 (fun o H2 => o = none ∧ H2 = H1) I1 ⟨rfl, rfl⟩) fun vl s2 ⟨l, H2, I2, pl, el, e2⟩ => ?_)
  subst el e2
  refine thn (po_none.run pins s2 σ H2 (fun o H3 => o = none ∧ H3 = H2) I2 ⟨rfl, rfl⟩) fun vu s3 ⟨u, H3, I3, pu, eu, e3⟩ => ?_
  subst eu e3
  refine thn (hst.run pins s3 σ H3 (fun o H4 => o = some (-1) ∧ H4 = H3) I3 ⟨1, rfl, -1, rfl, rfl, rfl⟩) fun vs s4 ⟨o, H4, I4, ps, eo, e4⟩ => ?_
  subst eo e4
  have el : vl = .none := by cases pl; rfl
  have eu : vu = .none := by cases pu; rfl
  subst el eu
  have I5 : Inv X pins σ H4 { s4 with heap := s4.heap.push { cls := .type "slice", data := .fields #[.none, .none, vs] } } := I4.kept (t' := s4.toks) fun b ob q => Heap.get?_push_of_some _ q
  obtain ⟨its, r, ht, hz⟩ := I5.tuple hx
  have hlen := r.length
  show wpAny (model X.prog X.w) X.A (subscriptTail e (.Slice none none (some (.UnaryOp .USub (.Constant (.int 1) k p1) p2)) p3) (.ref a) (.ref s4.heap.objs.size)) (EP X pins σ Q) X.xe { s4 with heap := s4.heap.push { cls := .type "slice", data := .fields #[.none, .none, vs] } }
  refine tail_any (ops := [.ref a, .ref s4.heap.objs.size]) ht.typeIs (PyProof.Rows.slot_tuple_getitem.lookup) ?_ (by with_unfolding_all rfl)
  refine getItem_tuple_back ht (Heap.IsSliceOf.new _ .none .none vs) ps ?_ (by rw [List.size_toArray]; omega)
  refine ⟨.ref _, _, I5.laid (t' := s4.toks) (o := .tup xs.reverse) (fun b ob q => Heap.get?_push_of_some _ q) (Nat.le_refl _) ?_, rfl, q _ (I5.hok.fresh (Nat.le_refl _))⟩
  exact ⟨by rw [List.length_reverse]; exact hz, its.reverse, r.reverse, ⟨_, Heap.get?_push_size _ rfl, rfl, 0, rfl⟩⟩

/-! ### list(text) -/
theorem vals_ext : ∀ {xs : List V} {us : List Value}, xs.length = us.length → (∀ (i : Nat) (x : V) (u : Value), xs[i]? = some x → us[i]? = some u → RelV x u) → Vals xs us
  | [], [], _, _ => .nil
  | [], _ :: _, h, _ => by simp at h
  | _ :: _, [], h, _ => by simp at h
  | x :: xs, u :: us, h, g => .cons (g 0 x u rfl rfl) (vals_ext (by simpa using h) fun i y v h1 h2 => g (i + 1) y v (by simpa using h1) (by simpa using h2))
def signsV (x : Str) : List V := x.cps.toList.map fun c => V.str ⟨#[c]⟩
theorem call_listS {X : Cx} (hc : X.calm = true) : CallR X (.type "list") (fun xs H Q => ∃ z : Str, xs = [.str z] ∧ z.cps.size ≤ sizeLine ∧ ∀ l, H l = none → Q (.ref l) (upd H l (.lst (signsV z)))) := by
  intro pins s σ H xs us Q I r h
  obtain ⟨z, rfl, hz, q⟩ := h
  obtain ⟨u, rfl, t, rfl⟩ := vals1 r
  refine call_list_str (I.ok.hd hc) z t (fun h' tk acc c hk e ha => ?_) hz
  have hv : Vals (signsV z) acc.toList := by
    refine vals_ext (by unfold signsV; rw [List.length_map, Array.length_toList, Array.length_toList, ha.1]) fun i x u h1 h2 => ?_
    obtain ⟨c, t', h3, rfl⟩ := ha.2 i u (by rw [← Array.getElem?_toList]; exact h2)
    unfold signsV at h1
    rw [List.getElem?_map, Array.getElem?_toList, h3] at h1
    cases h1
    exact ⟨t', rfl⟩
  have hn : (signsV z).length ≤ sizeLine := by unfold signsV; rw [List.length_map, Array.length_toList]; exact hz
  exact ⟨.ref _, _, I.laid (t' := tk) hk (Nat.le_refl _) (show ObjOk X.prog X.w _ h' _ (.lst (signsV z)) from ⟨hn, acc.toList, c, hv, e⟩), rfl, q _ (I.hok.fresh (Nat.le_refl _))⟩

/-! ### repr of data: the law's own call alone stands where no repr is under way -/
def rRepr (K : PySem.W.Frag) : List V → Hp → VK → Prop := fun xs H Q => ∃ (v : V) (a : Addr) (d : PyData), xs = [v] ∧ v = .ref a ∧ Dp K H v d ∧ d.showable = true ∧ d.hasDict = false ∧ d.depth ≤ 100 ∧ d.shown.length ≤ sizeLine ∧ Q (.str d.shown) H
theorem call_reprD {X : Cx} {k : Nat} (hg : X.A.guards = some []) (hr : Room k X.A) : CallR X (.builtin "repr") (rRepr X.K) := by
  intro pins s σ H xs us Q I r h
  obtain ⟨v, a, d, rfl, rfl, hd, hs, hdd, hdp, hz, q⟩ := h
  rw [Vals.ref1 r]
  obtain ⟨as, rd⟩ := Dp.reads I d _ _ hd (rfl : RelV (.ref a) (.ref a))
  have hu := hr.un
  exact repr_of_reads' rd hs (fun e => by rw [hdd] at e; cases e) hg (by omega) (fun _ _ e => e) (fun h' u tk hk => ⟨.str d.shown, H, I.kept (t' := tk) hk, ⟨u, rfl⟩, q⟩) hz
end W31

set_option maxHeartbeats 4000000
/-! The text by places, what the top has written, data in the heap, loops over data. -/
namespace W31
open PySem PySem.Spec PyProof.Rows L2

/-! ### the text -/
def top (i : Nat) : Stmt := PySem.Challenge.pw_keptlines_k31_whole_greatest_choices_and.main.body.getD i (.Pass ⟨0, 0, 0, 0⟩)

/-- a def of the text keeps its promise -/
structure DefAt (P : Program) (w : World) (K : PySem.W.Frag) (mg : Str → Option Value) (base : Heap) (x : Str) (k : Nat) (ps : List Str) (sp : Sp) : Prop where
  ex : ∃ f fd, FnOk P w K mg base CX0 k f fd ps sp ∧ Binds K fd ps [] ∧ PySem.W.keepIn K (.ref f) = true ∧ mg x = some (.ref f)
section
variable {X : Cx} {k : Nat} {ps : List Str} {sp : Sp} {x : Str} {p pos : Pos} {e : Expr} {es : List Expr} {t : TA}
theorem pe_callD (D : DefAt X.prog X.w X.K X.mg X.base x k ps sp) (hr : Room k X.A) (hg : Gl X x) (ha : PA X (e :: es) t) (hdb : (x == ("__debug__" : Str)) = false := by decide)
    (he : starEach (e :: es) X.env = (false, eval e X.env) :: starEach es X.env := by rfl) (hpl : (backTo pos (starEach es X.env)).any (·.1) = false := by rfl) :
    PE X (.Call (.Name x p) (e :: es) [] pos) (tCall sp [] E0 t) := by
  obtain ⟨f, fd, F, b, kp, m⟩ := D.ex
  exact pe_call F hr hg m kp b .nil pass0 ha hdb he hpl
theorem pe_globS {z : Str} (hg : Gl X x) (h : ∃ t, X.mg x = some (.str z t)) (hd : (x == ("__debug__" : Str)) = false := by decide) : PE X (.Name x pos) (tC (.str z)) :=
  let ⟨t, e⟩ := h; pe_glob hg e ⟨t, rfl⟩ hd
theorem pe_globI {z : Int} (hg : Gl X x) (h : ∃ t, X.mg x = some (.int z t)) (hd : (x == ("__debug__" : Str)) = false := by decide) : PE X (.Name x pos) (tC (.int z)) :=
  let ⟨t, e⟩ := h; pe_glob hg e ⟨t, rfl⟩ hd
end

/-! ### rules whose reading tells the written part by a letter: they fit within a comprehension -/
section
variable {X : Cx} {K : PySem.W.Frag}
theorem ix_listK (K : PySem.W.Frag) (e : X.K = K) : IxR X (rIxL K) := by subst e; exact ix_list
theorem ix_tupK (K : PySem.W.Frag) (e : X.K = K) : IxR X (rIxT K) := by subst e; exact ix_tup
theorem op_inK (K : PySem.W.Frag) (e : X.K = K) : OpR X (compareOp .In) (rIn K false) := by subst e; exact op_in_seq
theorem op_notInK (K : PySem.W.Frag) (e : X.K = K) : OpR X (compareOp .NotIn) (rIn K true) := by subst e; exact op_notIn_seq
theorem op_eqDK (K : PySem.W.Frag) (e : X.K = K) (hu : X.A.units + 64 < cLine) : OpR X (compareOp .Eq) (rEqD K) := by subst e; exact op_eqD hu
theorem op_neDK (K : PySem.W.Frag) (e : X.K = K) (hu : X.A.units + 64 < cLine) : OpR X (compareOp .NotEq) (rNeD K) := by subst e; exact op_neD hu
theorem op_catAK (K : PySem.W.Frag) (e : X.K = K) : OpR X (binaryOp .Add) (rCatA K) := by subst e; exact op_catA
theorem sl_tupAK (K : PySem.W.Frag) (e : X.K = K) : SlR X (rSlA K) := by subst e; exact sl_tupA
def rLenQ (K : PySem.W.Frag) : List V → Hp → VK → Prop := fun xs H Q => ∃ p ys, xs = [.ref p] ∧ (SqL K H p ys ∨ SqT K H p ys) ∧ Q (.int ys.length) H
theorem call_lenK (K : PySem.W.Frag) (e : X.K = K) : CallR X (.builtin "len") (rLenQ K) := by subst e; exact call_len_seq
theorem call_isK (K : PySem.W.Frag) (e : X.K = K) : CallR X (.builtin "isinstance") (rIsi K) := by subst e; exact call_isi
def rTupOf (K : PySem.W.Frag) : List V → Hp → VK → Prop := fun xs H Q => ∃ p ys, xs = [.ref p] ∧ ((SqL K H p ys ∧ ∀ l, H l = none → Q (.ref l) (upd H l (.tup ys))) ∨ (SqT K H p ys ∧ Q (.ref p) H))
theorem call_tupK (K : PySem.W.Frag) (e : X.K = K) : CallR X (.type "tuple") (rTupOf K) := by subst e; exact call_tuple_of
def rListOf (K : PySem.W.Frag) : List V → Hp → VK → Prop := fun xs H Q => ∃ p ys, xs = [.ref p] ∧ (SqL K H p ys ∨ SqT K H p ys) ∧ ∀ l, H l = none → Q (.ref l) (upd H l (.lst ys))
theorem call_listK (K : PySem.W.Frag) (e : X.K = K) : CallR X (.type "list") (rListOf K) := by subst e; exact call_list_of
def rLenT1 : List V → Hp → VK → Prop := fun xs H Q => ∃ z, xs = [.str z] ∧ z.length ≤ sizeLine ∧ Q (.int z.length) H
theorem call_lenS : CallR X (.builtin "len") rLenT1 := call_len_str
theorem pe_fldK (K : PySem.W.Frag) (hK : X.K = K) {e : Expr} {ta : TE} {f : Str} {pos : Pos} (he : PE X e ta) (hb : attributeBase e f X.env (eval e X.env) = eval e X.env) : PE X (.Attribute e f pos) (tFld K ta f) := by subst hK; exact pe_fld he hb
theorem pi_listK (K : PySem.W.Frag) (hK : X.K = K) {tg l : Expr} {tl : TE} (hl : PE X l tl) : PI X tg l (iList K tl) := by subst hK; exact pi_list hl
theorem pi_tupK (K : PySem.W.Frag) (hK : X.K = K) {tg l : Expr} {tl : TE} (hl : PE X l tl) : PI X tg l (iTup K tl) := by subst hK; exact pi_tup hl
theorem pg_tupK (K : PySem.W.Frag) (hK : X.K = K) {es : List Expr} {k : Nat} {pos : Pos} {t : TGs} {n : Nat} (hc : X.calm = true) (h : PGs X es t) (hn : (assignEach es X.env).length = n := by rfl) (hst : (assignEach es X.env).findIdx? (·.1) = none := by rfl) :
    PG X (.Tuple es k pos) (gTup K n t) := by subst hK; exact pg_tup hc h hn hst
end
/-! ### what the top has written -/
def LETTERS : Str := "abcdefghijklmnopqrstuvwxyz"
def FIGURES : Str := "0123456789"
def kindsL : List Str := ["flag", "count", "once", "last", "all", "maybe"]
def aritiesL : List Str := ["one", "may", "many"]
structure Txt (K : PySem.W.Frag) (mg : Str → Option Value) (C aK aA : Addr) : Prop where
  n_isinstance : mg "isinstance" = none
  n_str : mg "str" = none
  n_tuple : mg "tuple" = none
  n_bool : mg "bool" = none
  n_int : mg "int" = none
  n_list : mg "list" = none
  n_set : mg "set" = none
  n_len : mg "len" = none
  n_all : mg "all" = none
  n_any : mg "any" = none
  n_sorted : mg "sorted" = none
  n_range : mg "range" = none
  n_enumerate : mg "enumerate" = none
  n_repr : mg "repr" = none
  LETTERS : ∃ t, mg "LETTERS" = some (.str LETTERS t)
  FIGURES : ∃ t, mg "FIGURES" = some (.str FIGURES t)
  MOST_IN_NAME : ∃ t, mg "MOST_IN_NAME" = some (.int 12 t)
  MOST_OPTIONS : ∃ t, mg "MOST_OPTIONS" = some (.int 24 t)
  MOST_PLACES : ∃ t, mg "MOST_PLACES" = some (.int 5 t)
  SHORT : ∃ t, mg "SHORT" = some (.int 0 t)
  MINUS : ∃ t, mg "MINUS" = some (.int 2 t)
  MOST_WISHES : ∃ t, mg "MOST_WISHES" = some (.int 16 t)
  KINDS : mg "KINDS" = some (.ref aK)
  ARITIES : mg "ARITIES" = some (.ref aA)
  kinds : ∀ H, SqT K H aK (kindsL.map V.str)
  arities : ∀ H, SqT K H aA (aritiesL.map V.str)
  cl : Cls K C
  mgC : mg "Pairing" = some (.ref C)
  nW : NoAttr K C "wishes"
  nE : NoAttr K C "edges"
  nT : NoAttr K C "taken"
theorem boot_isinstance : bootBuiltins "isinstance" = some (.builtin "isinstance") := by decide +kernel
theorem boot_all : bootBuiltins "all" = some (.builtin "all") := by decide +kernel
theorem boot_any : bootBuiltins "any" = some (.builtin "any") := by decide +kernel
theorem boot_repr : bootBuiltins "repr" = some (.builtin "repr") := by decide +kernel
theorem boot_str : bootBuiltins "str" = some (.type "str") := by decide +kernel
theorem boot_bool : bootBuiltins "bool" = some (.type "bool") := by decide +kernel
theorem boot_int : bootBuiltins "int" = some (.type "int") := by decide +kernel
theorem boot_list : bootBuiltins "list" = some (.type "list") := by decide +kernel
theorem boot_tuple : bootBuiltins "tuple" = some (.type "tuple") := by decide +kernel
theorem boot_set : bootBuiltins "set" = some (.type "set") := by decide +kernel
theorem boot_len : bootBuiltins "len" = some (.builtin "len") := by decide +kernel
theorem boot_sorted : bootBuiltins "sorted" = some (.builtin "sorted") := by decide +kernel
end W31

set_option maxHeartbeats 4000000
/-! Data in the heap, loops and comprehensions over data. -/
namespace W31
open PySem PySem.Spec PyProof.Rows L2

/-! ### heaps -/
/-- every tuple stands -/
def KT (H H' : Hp) : Prop := ∀ b xs, H b = some (.tup xs) → H' b = some (.tup xs)
theorem Same.kt {H H' : Hp} (s : Same H H') : KT H H' := fun b xs e => s b _ e
theorem KT.refl (H : Hp) : KT H H := fun _ _ e => e
theorem KT.trans {H H1 H2 : Hp} (a : KT H H1) (b : KT H1 H2) : KT H H2 := fun c xs e => b c xs (a c xs e)
theorem same_new {H : Hp} {p : Addr} (h : H p = none) (o : HO) : Same H (upd H p o) := fun b u q => by rw [upd_ne (ne_of_none q h)]; exact q
theorem kt_upd {H : Hp} {p : Addr} {o : HO} (h : ∀ xs, H p ≠ some (.tup xs)) : KT H (upd H p o) := fun b xs e => by
  rw [upd_ne fun z : b = p => h xs (by rw [← z]; exact e)]
  exact e
theorem kt_lst {H : Hp} {p : Addr} {ys : List V} {o : HO} (h : H p = some (.lst ys)) : KT H (upd H p o) := kt_upd fun xs e => by rw [h] at e; cases e
/-- a new object's own list may change -/
theorem same_own {H H' : Hp} {p : Addr} {o : HO} (s : Same H H') (h : H p = none) : Same H (upd H' p o) := fun b u e => by
  rw [upd_ne (ne_of_none e h)]
  exact s b u e

/-! ### data -/
section
variable {γ δ : Type}
structure Mn (R : Hp → V → δ → Prop) : Prop where
  mono : ∀ H H' v d, KT H H' → R H v d → R H' v d
theorem Paired.mono {R : Hp → V → δ → Prop} (m : Mn R) {H H' : Hp} (k : KT H H') : ∀ {vs : List V} {ds : List δ}, Paired (R H) vs ds → Paired (R H') vs ds
  | _, _, .nil => .nil
  | _, _, .cons r t => .cons (m.mono H H' _ _ k r) (Paired.mono m k t)
theorem Paired.len {α β : Type} {R : α → β → Prop} : ∀ {vs : List α} {ds : List β}, Paired R vs ds → vs.length = ds.length
  | _, _, .nil => rfl
  | _, _, .cons _ t => congrArg (· + 1) (Paired.len t)
theorem Paired.at' {α β : Type} {R : α → β → Prop} : ∀ {vs : List α} {ds : List β} {i : Nat} {v : α} {d : β}, Paired R vs ds → vs[i]? = some v → ds[i]? = some d → R v d
  | _, _, 0, _, _, .cons r _, e1, e2 => by simp at e1 e2; subst e1; subst e2; exact r
  | _, _, i + 1, _, _, .cons _ t, e1, e2 => Paired.at' (i := i) t (by simpa using e1) (by simpa using e2)
  | _, _, _, _, _, .nil, e1, _ => by simp at e1
theorem Paired.fst {α β : Type} {R : α → β → Prop} {vs : List α} {ds : List β} {i : Nat} {d : β} (p : Paired R vs ds) (e : ds[i]? = some d) : ∃ v, vs[i]? = some v ∧ R v d := by
  have hi : i < ds.length := (List.getElem?_eq_some_iff.mp e).1
  have hj : i < vs.length := by rw [Paired.len p]; exact hi
  exact ⟨vs[i], List.getElem?_eq_getElem hj, Paired.at' p (List.getElem?_eq_getElem hj) e⟩
theorem Paired.snd {α β : Type} {R : α → β → Prop} {vs : List α} {ds : List β} {i : Nat} {v : α} (p : Paired R vs ds) (e : vs[i]? = some v) : ∃ d, ds[i]? = some d ∧ R v d := by
  have hi : i < vs.length := (List.getElem?_eq_some_iff.mp e).1
  have hj : i < ds.length := by rw [← Paired.len p]; exact hi
  exact ⟨ds[i], List.getElem?_eq_getElem hj, Paired.at' p e (List.getElem?_eq_getElem hj)⟩
theorem Paired.app {α β : Type} {R : α → β → Prop} : ∀ {vs us : List α} {ds es : List β}, Paired R vs ds → Paired R us es → Paired R (vs ++ us) (ds ++ es)
  | _, _, _, _, .nil, s => s
  | _, _, _, _, .cons r t, s => .cons r (Paired.app t s)
theorem Paired.imp {α β : Type} {R R' : α → β → Prop} (f : ∀ a b, R a b → R' a b) : ∀ {vs : List α} {ds : List β}, Paired R vs ds → Paired R' vs ds
  | _, _, .nil => .nil
  | _, _, .cons r t => .cons (f _ _ r) (Paired.imp f t)
end
/-- a tuple, a list of things -/
def TupA {δ : Type} (R : Hp → V → δ → Prop) (H : Hp) (v : V) (ds : List δ) : Prop := ∃ a vs, v = .ref a ∧ H a = some (.tup vs) ∧ Paired (R H) vs ds
theorem TupA.mn {δ : Type} {R : Hp → V → δ → Prop} (m : Mn R) : Mn (TupA R) := ⟨fun H H' v d k ⟨a, vs, e, h, p⟩ => ⟨a, vs, e, k _ _ h, Paired.mono m k p⟩⟩
def StrA (_ : Hp) (v : V) (x : Str) : Prop := v = .str x
def IntA (_ : Hp) (v : V) (i : Int) : Prop := v = .int i
def BlA (_ : Hp) (v : V) (b : Bool) : Prop := v = .bl b
theorem StrA.mn : Mn StrA := ⟨fun _ _ _ _ _ h => h⟩
theorem IntA.mn : Mn IntA := ⟨fun _ _ _ _ _ h => h⟩
theorem BlA.mn : Mn BlA := ⟨fun _ _ _ _ _ h => h⟩
theorem strs_map {H : Hp} : ∀ {vs : List V} {xs : List Str}, Paired (StrA H) vs xs → vs = xs.map V.str
  | _, _, .nil => rfl
  | _, _, .cons r t => by rw [show _ = V.str _ from r, strs_map t]; rfl
theorem map_strs {H : Hp} : ∀ xs : List Str, Paired (StrA H) (xs.map V.str) xs
  | [] => .nil
  | _ :: r => .cons rfl (map_strs r)
theorem ints_map {H : Hp} : ∀ {vs : List V} {xs : List Int}, Paired (IntA H) vs xs → vs = xs.map V.int
  | _, _, .nil => rfl
  | _, _, .cons r t => by rw [show _ = V.int _ from r, ints_map t]; rfl
theorem map_ints {H : Hp} : ∀ xs : List Int, Paired (IntA H) (xs.map V.int) xs
  | [] => .nil
  | _ :: r => .cons rfl (map_ints r)
theorem bls_map {H : Hp} : ∀ {vs : List V} {xs : List Bool}, Paired (BlA H) vs xs → vs = xs.map V.bl
  | _, _, .nil => rfl
  | _, _, .cons r t => by rw [show _ = V.bl _ from r, bls_map t]; rfl

/-- an option: its name, letter, kind -/
abbrev Opt := Str × Str × Str
def OptA (H : Hp) (v : V) (o : Opt) : Prop := ∃ a, v = .ref a ∧ H a = some (.tup [.str o.1, .str o.2.1, .str o.2.2])
theorem OptA.mn : Mn OptA := ⟨fun _ _ _ _ k ⟨a, e, h⟩ => ⟨a, e, k _ _ h⟩⟩
/-- a place: its name, arity -/
abbrev Plc := Str × Str
def PlcA (H : Hp) (v : V) (p : Plc) : Prop := ∃ a, v = .ref a ∧ H a = some (.tup [.str p.1, .str p.2])
theorem PlcA.mn : Mn PlcA := ⟨fun _ _ _ _ k ⟨a, e, h⟩ => ⟨a, e, k _ _ h⟩⟩
structure Gr where
  os : List Opt
  ps : List Plc
  short : Bool
  mixed : Bool
  minus : Bool
abbrev OptsA := TupA OptA
abbrev PlcsA := TupA PlcA
theorem OptsA.mn : Mn OptsA := TupA.mn OptA.mn
theorem PlcsA.mn : Mn PlcsA := TupA.mn PlcA.mn
def GrA (H : Hp) (v : V) (g : Gr) : Prop := ∃ a vo vp m, v = .ref a ∧ H a = some (.tup [vo, vp, .ref m]) ∧ OptsA H vo g.os ∧ PlcsA H vp g.ps ∧ H m = some (.tup [.bl g.short, .bl g.mixed, .bl g.minus])
theorem GrA.mn : Mn GrA := ⟨fun _ _ _ _ k ⟨a, vo, vp, m, e, h, h1, h2, h3⟩ => ⟨a, vo, vp, m, e, k _ _ h, OptsA.mn.mono _ _ _ _ k h1, PlcsA.mn.mono _ _ _ _ k h2, k _ _ h3⟩⟩

/-! ### comprehensions over data -/
section
variable {J : It} {n : Nat} {G : Hp → Prop} {Y : Nat → Hp → V → Hp → Prop}
theorem lc_data {γ δ : Type} (R : Hp → V → δ → Prop) (mn : Mn R) {xs : List V} (ds : List γ) (hl : xs.length = ds.length) (f : γ → Option δ) (w : Walk J n G Y) (hn : n = xs.length)
    (hY : ∀ i H x H', i < n → Y i H x H' → H' = H ∧ xs[i]? = some x) {g : TG} {tt : TT} {te : TE} {vs : List Nat} {σ : L2.St} {H1 : Hp} {Q : Addr → Hp → Prop} (hG : ∀ H', Same H1 H' → G H') (hz : n ≤ 100000)
    (turn : ∀ (i : Nat) x d H', xs[i]? = some x → ds[i]? = some d → Same H1 H' → ∀ (Q1 : V → Hp → Prop) (Q0 : Hp → Prop), (∀ y e H4, f d = some e → R H4 y e → Same H' H4 → Q1 y H4) → (f d = none → ∀ H3, Same H' H3 → Q0 H3) →
      g x (wipe σ vs) H' fun σ2 H2 => wipe σ2 vs = wipe σ vs ∧ tt σ2 H2 fun b H3 => if b = true then te σ2 H3 Q1 else Q0 H3)
    (done : ∀ D H2 ys, H1 D = none → Same H1 H2 → H2 D = some (.lst ys) → Paired (R H2) ys (ds.filterMap f) → Q D H2) :
    ∀ D, H1 D = none → ∃ W : Nat → Nat → Hp → Prop, (∃ m, W 0 m (upd H1 D (.lst []))) ∧ ∀ i m H, W i m H →
      (J.stop i H ∧ Q D H) ∨ (J.go i H ∧ ∃ Nx : Hp → Prop, (∀ H', Nx H' → ∃ m', m' < m ∧ W (i + 1) m' H') ∧ ∀ x H', J.yld i H x H' → g x (wipe σ vs) H' fun σ2 H2 => wipe σ2 vs = wipe σ vs ∧ tt σ2 H2 fun b H3 =>
        if b = true then te σ2 H3 fun y H4 => ∃ acc, H4 D = some (.lst acc) ∧ acc.length < sizeLine ∧ Nx (upd H4 D (.lst (acc ++ [y]))) else Nx H3) := by
  intro D hD
  refine lc_it w (Qd := fun H => Q D H) (fun i H => Same H1 H ∧ ∃ ys, H D = some (.lst ys) ∧ ys.length ≤ i ∧ Paired (R H) ys ((ds.take i).filterMap f)) ⟨same_new hD _, [], upd_same, Nat.le_refl _, .nil⟩ (fun i H _ p => hG H p.1) ?_ ?_
  · rintro i x H H' hi ⟨s, ys, hys, hyl, pr⟩ y
    obtain ⟨rfl, hx⟩ := hY i H x H' hi y
    have hid : i < ds.length := by rw [← hl, ← hn]; exact hi
    have hd : ds[i]? = some ds[i] := List.getElem?_eq_getElem hid
    have tk : ds.take (i + 1) = ds.take i ++ [ds[i]] := by rw [List.take_add_one, hd]; rfl
    refine turn i x ds[i] H' hx hd s _ _ (fun y e H4 he r s4 => ?_) fun he H3 s3 => ?_
    · have hD4 := s4 D _ hys
      refine ⟨ys, hD4, by rw [show sizeLine = 16777216 from sizeLine_eq]; omega, same_own (s.trans s4) hD, ys ++ [y], upd_same, by rw [List.length_append]; exact Nat.succ_le_succ hyl, ?_⟩
      rw [tk, List.filterMap_append]
      have k : KT H4 (upd H4 D (.lst (ys ++ [y]))) := kt_lst hD4
      refine Paired.app (Paired.mono mn ((Same.kt s4).trans k) pr) ?_
      rw [show [ds[i]].filterMap f = [e] by simp [he]]
      exact .cons (mn.mono _ _ _ _ k r) .nil
    · refine ⟨s.trans s3, ys, s3 D _ hys, Nat.le_succ_of_le hyl, ?_⟩
      rw [tk, List.filterMap_append, show [ds[i]].filterMap f = [] by simp [he], List.append_nil]
      exact Paired.mono mn (Same.kt s3) pr
  · rintro H ⟨s, ys, hys, _, pr⟩
    refine done D H ys hD s hys ?_
    rwa [List.take_of_length_le (by rw [← hl, ← hn]; exact Nat.le_refl _)] at pr
end
section
variable {K : PySem.W.Frag} {a : Addr} {γ δ : Type} {R : Hp → V → δ → Prop} {xs : List V} {ds : List γ} {f : γ → Option δ} {g : TG} {tt : TT} {te : TE} {vs : List Nat} {σ : L2.St} {H1 : Hp} {Q : Addr → Hp → Prop}
abbrev TurnD (xs : List V) (ds : List γ) (R : Hp → V → δ → Prop) (f : γ → Option δ) (g : TG) (tt : TT) (te : TE) (vs : List Nat) (σ : L2.St) (H1 : Hp) : Prop :=
  ∀ (i : Nat) x d H', xs[i]? = some x → ds[i]? = some d → Same H1 H' → ∀ (Q1 : V → Hp → Prop) (Q0 : Hp → Prop), (∀ y e H4, f d = some e → R H4 y e → Same H' H4 → Q1 y H4) → (f d = none → ∀ H3, Same H' H3 → Q0 H3) →
      g x (wipe σ vs) H' fun σ2 H2 => wipe σ2 vs = wipe σ vs ∧ tt σ2 H2 fun b H3 => if b = true then te σ2 H3 Q1 else Q0 H3
abbrev DoneD (R : Hp → V → δ → Prop) (es : List δ) (H1 : Hp) (Q : Addr → Hp → Prop) : Prop := ∀ D H2 ys, H1 D = none → Same H1 H2 → H2 D = some (.lst ys) → Paired (R H2) ys es → Q D H2
abbrev LcGoal (J : It) (g : TG) (tt : TT) (te : TE) (vs : List Nat) (σ : L2.St) (H1 : Hp) (Q : Addr → Hp → Prop) : Prop := ∀ D, H1 D = none → ∃ W : Nat → Nat → Hp → Prop, (∃ m, W 0 m (upd H1 D (.lst []))) ∧ ∀ i m H, W i m H →
      (J.stop i H ∧ Q D H) ∨ (J.go i H ∧ ∃ Nx : Hp → Prop, (∀ H', Nx H' → ∃ m', m' < m ∧ W (i + 1) m' H') ∧ ∀ x H', J.yld i H x H' → g x (wipe σ vs) H' fun σ2 H2 => wipe σ2 vs = wipe σ vs ∧ tt σ2 H2 fun b H3 =>
        if b = true then te σ2 H3 fun y H4 => ∃ acc, H4 D = some (.lst acc) ∧ acc.length < sizeLine ∧ Nx (upd H4 D (.lst (acc ++ [y]))) else Nx H3)
theorem Same.seqT {K : PySem.W.Frag} {H H' : Hp} {a : Addr} {xs : List V} (e : Same H H') (h : SqT K H a xs) : SqT K H' a xs := by
  rcases h with (h | ⟨o, h⟩) | h
  · exact .inl (.inl (e _ _ h))
  · exact .inl (.inr ⟨o, e _ _ h⟩)
  · exact .inr h
theorem lcT (mn : Mn R) (hx : SqT K H1 a xs) (hl : xs.length = ds.length) (hz : ds.length ≤ 100000) (turn : TurnD xs ds R f g tt te vs σ H1) (done : DoneD R (ds.filterMap f) H1 Q) : LcGoal (Itt K a) g tt te vs σ H1 Q :=
  lc_data R mn ds hl f walk_tup rfl (fun _ _ _ _ _ y => y) (fun H' s => Same.seqT s hx) (by rw [hl]; exact hz) turn done
theorem lcL (mn : Mn R) (hx : SqL K H1 a xs) (hl : xs.length = ds.length) (hz : ds.length ≤ 100000) (turn : TurnD xs ds R f g tt te vs σ H1) (done : DoneD R (ds.filterMap f) H1 Q) : LcGoal (Itl K a) g tt te vs σ H1 Q :=
  lc_data R mn ds hl f walk_list rfl (fun _ _ _ _ _ y => y) (fun H' s => s.seq hx) (by rw [hl]; exact hz) turn done
theorem lcR {lo : Int} {n : Nat} (mn : Mn R) (hl : n = ds.length) (hz : ds.length ≤ 100000) (turn : TurnD ((List.range n).map fun i => V.int (lo + (i : Nat))) ds R f g tt te vs σ H1) (done : DoneD R (ds.filterMap f) H1 Q) : LcGoal (Itr lo n) g tt te vs σ H1 Q :=
  lc_data R mn ds (by rw [List.length_map, List.length_range]; exact hl) f walk_range (by rw [List.length_map, List.length_range]) (fun i H x H' hi y => ⟨y.1, by rw [List.getElem?_map, List.getElem?_range hi, y.2]; rfl⟩) (fun H' s => trivial) (by rw [hl]; exact hz) turn done
theorem lcS {z : Str} (mn : Mn R) (hl : z.cps.size = ds.length) (hz : ds.length ≤ 100000) (turn : TurnD (signsV z) ds R f g tt te vs σ H1) (done : DoneD R (ds.filterMap f) H1 Q) : LcGoal (Its z) g tt te vs σ H1 Q :=
  lc_data R mn ds (by unfold signsV; rw [List.length_map, Array.length_toList]; exact hl) f walk_str (by unfold signsV; rw [List.length_map, Array.length_toList]) (fun i H x H' hi y => ⟨y.1, by
    obtain ⟨_, c, h1, h2⟩ := y
    unfold signsV
    rw [List.getElem?_map, Array.getElem?_toList, h1, h2]
    rfl⟩) (fun H' s => trivial) (by rw [hl]; exact hz) turn done
theorem lcK {d : Addr} {o : Obj} {kvs : List (Key × V)} (mn : Mn R) (hd : H1 d = some (.frz o (.dK kvs))) (hl : kvs.length = ds.length) (hz : ds.length ≤ 100000) (turn : TurnD (kvs.map fun kv => kV kv.1) ds R f g tt te vs σ H1) (done : DoneD R (ds.filterMap f) H1 Q) :
    LcGoal (Itk d o kvs) g tt te vs σ H1 Q :=
  lc_data R mn ds (by rw [List.length_map]; exact hl) f walk_keys (by rw [List.length_map]) (fun i H x H' hi y => ⟨y.1, by
    obtain ⟨_, k, v, h1, h2⟩ := y
    rw [List.getElem?_map, h1, h2]
    rfl⟩) (fun H' s => s _ _ hd) (by rw [hl]; exact hz) turn done
theorem lcV {d : Addr} {o : Obj} {kvs : List (Key × V)} (mn : Mn R) (hd : H1 d = some (.frz o (.dK kvs))) (hl : kvs.length = ds.length) (hz : ds.length ≤ 100000) (turn : TurnD (kvs.map fun kv => kv.2) ds R f g tt te vs σ H1) (done : DoneD R (ds.filterMap f) H1 Q) :
    LcGoal (Itd d o kvs) g tt te vs σ H1 Q :=
  lc_data R mn ds (by rw [List.length_map]; exact hl) f walk_values (by rw [List.length_map]) (fun i H x H' hi y => ⟨y.1, by
    obtain ⟨_, k, h1⟩ := y
    rw [List.getElem?_map, h1]
    rfl⟩) (fun H' s => s _ _ hd) (by rw [hl]; exact hz) turn done
end
end W31

set_option maxHeartbeats 4000000
/-! is_of, is_name, is_letter, is_option, is_place: of what is good they say so. -/
namespace W31
open PySem PySem.Spec PyProof.Rows L2
/-- each sign of x is one of z -/
def SignsOf (x z : Str) : Prop := ∀ c ∈ x.cps.toList, c ∈ z.cps.toList
structure NameOk (x : Str) : Prop where
  lo : 2 ≤ x.length
  hi : x.length ≤ 12
  signs : SignsOf x (LETTERS ++ "-")
  head : ∃ c, x.cps.toList.head? = some c ∧ c ≠ 45
  last : ∃ c, x.cps.toList.getLast? = some c ∧ c ≠ 45
def LetterOk (x : Str) : Prop := x = "" ∨ ∃ c, x = ⟨#[c]⟩ ∧ c ∈ (LETTERS ++ FIGURES).cps.toList
structure OptOk (o : Opt) : Prop where
  name : NameOk o.1
  letter : LetterOk o.2.1
  kind : o.2.2 ∈ kindsL
structure PlcOk (p : Plc) : Prop where
  name : NameOk p.1
  arity : p.2 ∈ aritiesL
theorem str_len (x : Str) : x.length = x.cps.toList.length := rfl
theorem inV_str {z : Str} {l : List Str} (h : z ∈ l) : inV (.str z) (l.map V.str) = true := by
  unfold inV
  rw [List.any_map, List.any_eq_true]
  exact ⟨z, h, by show (z == z) = true; exact beq_self_eq_true z⟩
def spIsOf : Sp := fun vs H Q _ => ∃ (x z : Str) (lo hi : Int), vs = [.str x, .str z, .int lo, .int hi] ∧ lo ≤ (x.length : Int) ∧ (x.length : Int) ≤ hi ∧ x.length ≤ 1000 ∧ SignsOf x z ∧ ∀ H', Same H H' → Q (.bl true) H'
def spIsName : Sp := fun vs H Q _ => ∃ x : Str, vs = [.str x] ∧ NameOk x ∧ ∀ H', Same H H' → Q (.bl true) H'
def spIsLetter : Sp := fun vs H Q _ => ∃ c : Nat, vs = [.str ⟨#[c]⟩] ∧ c ∈ (LETTERS ++ FIGURES).cps.toList ∧ ∀ H', Same H H' → Q (.bl true) H'
def spIsOption : Sp := fun vs H Q _ => ∃ (v : V) (o : Opt), vs = [v] ∧ OptA H v o ∧ OptOk o ∧ ∀ H', Same H H' → Q (.bl true) H'
def spIsPlace : Sp := fun vs H Q _ => ∃ (v : V) (p : Plc), vs = [v] ∧ PlcA H v p ∧ PlcOk p ∧ ∀ H', Same H H' → Q (.bl true) H'
section
variable {P : Program} {w : World} {K : PySem.W.Frag} {mg : Str → Option Value} {base : Heap} {C aK aA : Addr}
abbrev s_is_of : Stmt := top 8
abbrev N_is_of : List Str := ["thing", "signs", "least", "most", "sign"]
theorem sc_is_of : FnScope N_is_of ["thing", "signs", "least", "most"] (defScope s_is_of) := ⟨rfl, rfl, rfl, by decide +kernel, rfl, by decide +kernel, by decide +kernel⟩
theorem ok_is_of {f : Addr} {fd : FuncData} (F : Fun K "is_of" "is_of" s_is_of f fd) (b : Binds K fd ["thing", "signs", "least", "most"] []) (m : mg "is_of" = some (.ref f)) (T : Txt K mg C aK aA) :
    DefAt P w K mg base "is_of" 1 ["thing", "signs", "least", "most"] spIsOf := by
  refine ⟨f, fd, F.ok sc_is_of (fun vs H Q E h => ?_) (fun cdv A outer s H vs Q E hr h => ?_), b, F.kp, m⟩
  · obtain ⟨x, z, lo, hi, rfl, _⟩ := h
    rfl
  obtain ⟨x, z, lo, hi, rfl, h1, h2, h3, h4, q⟩ := h
  have nd := sc_is_of.nd
  refine ⟨_, (pss_one (ps_ret (pe_and (pe_callB (call_isK K rfl) (by rfl) T.n_isinstance W31.boot_isinstance (pa_cons (pv 0) (pa_cons (pe_bltn (v := .ty "str") (by rfl) T.n_str W31.boot_str rfl) pa_nil))) (pe_and (pe_chain op_le op_le (pv 2) (pe_callB call_lenS (by rfl) T.n_len W31.boot_len (pa_cons (pv 0) pa_nil)) (pv 3)) (pe_one (pe_callB (cr_all rfl) (by rfl) T.n_all W31.boot_all (pa_cons (pe_lc (own := [("sign", 4)]) (g := gName 4) (tt := tYes) rfl nd (pi_str (pv 0)) (blkOk_by (N := N_is_of) (sc := defScope s_is_of) (by decide +kernel)) (fun _ _ _ _ _ => (pg_name (i := 4) nd rfl (Or.inl rfl))) (fun _ _ _ _ _ => pts_nil) (fun _ _ _ _ _ => (pe_cmpR op_in_sign (pv 4) (pv 1) rfl))) pa_nil))))))), ?_⟩
  refine ⟨_, rfl, _, _, _, _, true, rfl, .ty "str", .base (.str _), kit_ty (by decide +kernel), true, rfl, ?_⟩
  refine iteT ?_
  refine ⟨_, rfl, _, rfl, _, rfl, Nat.le_of_lt (small1000 h3), ?_⟩
  refine ⟨_, _, rfl, rfl, _, rfl, ?_⟩
  rw [decide_eq_true h1]
  refine iteT ?_
  refine ⟨_, rfl, _, _, rfl, rfl, _, rfl, ?_⟩
  rw [decide_eq_true h2]
  refine iteT ?_
  refine ⟨_, rfl, x, rfl, ?_⟩
  refine lcS (ds := x.cps.toList) (f := fun _ => some true) BlA.mn (Array.length_toList).symm (by rw [← str_len]; omega) ?_ ?_
  · intro i v c H' hv hc s' Q1 Q0 k1 k0
    unfold signsV at hv
    rw [List.getElem?_map, hc] at hv
    cases hv
    refine ⟨rfl, ⟨_, rfl, _, rfl, c, z, rfl, rfl, ?_⟩⟩
    refine k1 _ true _ rfl ?_ (Same.refl _)
    show V.bl (decide (c ∈ z.cps.toList)) = V.bl true
    rw [decide_eq_true (h4 c (List.mem_of_getElem? hc))]
  · intro D H2 ys hD s2 hys pr
    rw [bls_map pr, filterMap_some (g := fun _ => true) _ fun _ _ => rfl] at hys
    refine ⟨D, _, rfl, SqL.of hys, ?_⟩
    rw [show (x.cps.toList.map fun _ => true).all id = true from List.all_eq_true.mpr fun b hb => by obtain ⟨_, _, e⟩ := List.mem_map.mp hb; exact e.symm]
    exact q _ s2

abbrev s_is_name : Stmt := top 9
abbrev N_is_name : List Str := ["thing"]
theorem sc_is_name : FnScope N_is_name ["thing"] (defScope s_is_name) := ⟨rfl, rfl, rfl, by decide +kernel, rfl, by decide +kernel, by decide +kernel⟩
theorem ok_is_name {f : Addr} {fd : FuncData} (F : Fun K "is_name" "is_name" s_is_name f fd) (b : Binds K fd ["thing"] []) (m : mg "is_name" = some (.ref f)) (T : Txt K mg C aK aA)
    (Dis_of : DefAt P w K mg base "is_of" 1 ["thing", "signs", "least", "most"] spIsOf) :
    DefAt P w K mg base "is_name" 2 ["thing"] spIsName := by
  refine ⟨f, fd, F.ok sc_is_name (fun vs H Q E h => ?_) (fun cdv A outer s H vs Q E hr h => ?_), b, F.kp, m⟩
  · obtain ⟨x, rfl, _⟩ := h
    rfl
  obtain ⟨x, rfl, ok, q⟩ := h
  have nd := sc_is_name.nd
  refine ⟨_, (pss_one (ps_ret (pe_and (pe_callD Dis_of (hr.mono (by decide)) rfl (pa_cons (pv 0) (pa_cons (pe_op op_add_str (pe_globS rfl T.LETTERS) pe_str) (pa_cons pe_int (pa_cons (pe_globI rfl T.MOST_IN_NAME) pa_nil))))) (pe_and (pe_cmpR op_ne (pe_ix ix_str (pv 0) pe_int (fun _ _ => rfl)) pe_str (nomark _)) (pe_one (pe_cmpR op_ne (pe_ix ix_str (pv 0) (pe_un un_neg pe_int) (fun _ _ => rfl)) pe_str (nomark _))))))), ?_⟩
  have hx : x.length ≤ 1000 := Nat.le_trans ok.hi (by decide)
  refine ⟨_, rfl, _, _, rfl, rfl, (by decide +kernel), x, LETTERS ++ "-", 2, 12, rfl, by have := ok.lo; omega, by have := ok.hi; omega, hx, ok.signs, fun H1 s1 => ?_⟩
  obtain ⟨c, hc, hc1⟩ := ok.head
  obtain ⟨d, hd, hd1⟩ := ok.last
  refine ⟨true, rfl, iteT ?_⟩
  have a0 : atI x.cps.toList 0 = some c := atI_nat (j := 0) (by rw [← List.head?_eq_getElem?]; exact hc)
  refine ⟨_, rfl, x, 0, c, rfl, rfl, Nat.le_of_lt (small1000 hx), a0, rfl, ?_⟩
  have n1 : (!decide (V.str ⟨#[c]⟩ = V.str "-")) = true := by
    have : ¬ V.str ⟨#[c]⟩ = V.str "-" := fun e => by
      have e2 := congrArg (fun v => match v with | V.str y => y.cps.toList | _ => []) e
      have e3 : [c] = [45] := e2
      exact hc1 (List.cons.inj e3).1
    rw [decide_eq_false this]
    rfl
  refine ⟨true, by rw [n1], iteT ?_⟩
  have a1 : atI x.cps.toList (-1) = some d := by
    obtain ⟨r, hr⟩ : ∃ r, x.cps.toList = r ++ [d] := by
      exact ⟨x.cps.toList.dropLast, (List.getLast?_eq_some_iff.mp hd).elim fun ys e => by rw [e, List.dropLast_concat]⟩
    rw [hr]
    exact atI_last r d
  refine ⟨_, rfl, 1, rfl, x, -1, d, rfl, rfl, Nat.le_of_lt (small1000 hx), a1, rfl, ?_⟩
  have n2 : (!decide (V.str ⟨#[d]⟩ = V.str "-")) = true := by
    have : ¬ V.str ⟨#[d]⟩ = V.str "-" := fun e => by
      have e2 := congrArg (fun v => match v with | V.str y => y.cps.toList | _ => []) e
      have e3 : [d] = [45] := e2
      exact hd1 (List.cons.inj e3).1
    rw [decide_eq_false this]
    rfl
  show Q (V.bl (!decide (V.str ⟨#[d]⟩ = V.str "-"))) H1
  rw [n2]
  exact q _ s1

abbrev s_is_letter : Stmt := top 17
abbrev N_is_letter : List Str := ["thing"]
theorem sc_is_letter : FnScope N_is_letter ["thing"] (defScope s_is_letter) := ⟨rfl, rfl, rfl, by decide +kernel, rfl, by decide +kernel, by decide +kernel⟩
theorem ok_is_letter {f : Addr} {fd : FuncData} (F : Fun K "is_letter" "is_letter" s_is_letter f fd) (b : Binds K fd ["thing"] []) (m : mg "is_letter" = some (.ref f)) (T : Txt K mg C aK aA) :
    DefAt P w K mg base "is_letter" 1 ["thing"] spIsLetter := by
  refine ⟨f, fd, F.ok sc_is_letter (fun vs H Q E h => ?_) (fun cdv A outer s H vs Q E hr h => ?_), b, F.kp, m⟩
  · obtain ⟨c, rfl, _⟩ := h
    rfl
  obtain ⟨c, rfl, hc, q⟩ := h
  have nd := sc_is_letter.nd
  refine ⟨_, (pss_one (ps_ret (pe_and (pe_callB (call_isK K rfl) (by rfl) T.n_isinstance W31.boot_isinstance (pa_cons (pv 0) (pa_cons (pe_bltn (v := .ty "str") (by rfl) T.n_str W31.boot_str rfl) pa_nil))) (pe_and (pe_cmpR op_eq (pe_callB call_lenS (by rfl) T.n_len W31.boot_len (pa_cons (pv 0) pa_nil)) pe_int (nomark _)) (pe_one (pe_cmpR op_in_sign (pv 0) (pe_op op_add_str (pe_globS rfl T.LETTERS) (pe_globS rfl T.FIGURES)) rfl)))))), ?_⟩
  refine ⟨_, rfl, _, _, _, _, true, rfl, .ty "str", .base (.str _), kit_ty (by decide +kernel), true, rfl, iteT ?_⟩
  refine ⟨_, rfl, _, rfl, (by show 1 ≤ sizeLine; decide), rfl, true, rfl, iteT ?_⟩
  refine ⟨_, rfl, _, _, rfl, rfl, (by decide +kernel), c, LETTERS ++ FIGURES, rfl, rfl, ?_⟩
  rw [decide_eq_true hc]
  exact q _ (Same.refl _)

abbrev s_is_option : Stmt := top 18
abbrev N_is_option : List Str := ["thing", "name", "letter", "kind"]
theorem sc_is_option : FnScope N_is_option ["thing"] (defScope s_is_option) := ⟨rfl, rfl, rfl, by decide +kernel, rfl, by decide +kernel, by decide +kernel⟩
theorem ok_is_option {f : Addr} {fd : FuncData} (F : Fun K "is_option" "is_option" s_is_option f fd) (b : Binds K fd ["thing"] []) (m : mg "is_option" = some (.ref f)) (T : Txt K mg C aK aA)
    (Dis_letter : DefAt P w K mg base "is_letter" 1 ["thing"] spIsLetter)
    (Dis_name : DefAt P w K mg base "is_name" 2 ["thing"] spIsName) :
    DefAt P w K mg base "is_option" 3 ["thing"] spIsOption := by
  refine ⟨f, fd, F.ok sc_is_option (fun vs H Q E h => ?_) (fun cdv A outer s H vs Q E hr h => ?_), b, F.kp, m⟩
  · obtain ⟨v, o, rfl, _⟩ := h
    rfl
  obtain ⟨v, o, rfl, ⟨a, rfl, ha⟩, ok, q⟩ := h
  have nd := sc_is_option.nd
  refine ⟨_, (pss_cons (ps_if (PW.pt (pw_or (pt_not (pt_val (pe_callB (call_isK K rfl) (by rfl) T.n_isinstance W31.boot_isinstance (pa_cons (pv 0) (pa_cons (pe_bltn (v := .ty "tuple") (by rfl) T.n_tuple W31.boot_tuple rfl) pa_nil))))) (pw_or1 (pt_cmpR op_ne (pe_callB (call_lenK K rfl) (by rfl) T.n_len W31.boot_len (pa_cons (pv 0) pa_nil)) pe_int (nomark _)))))
    (pss_one (ps_ret pe_bl))
    pss_nil)
    (pss_cons (ps_asg (pv 0) (pg_tupK (n := 3) K rfl rfl (pgs_cons (pg_name (i := 1) nd rfl (Or.inl rfl)) (pgs_cons (pg_name (i := 2) nd rfl (Or.inl rfl)) (pgs_cons (pg_name (i := 3) nd rfl (Or.inl rfl)) pgs_nil)))))
    (pss_one (ps_ret (pe_and (pe_callD Dis_name (hr.mono (by decide)) rfl (pa_cons (pv 1) pa_nil)) (pe_and (pe_or (pe_cmpR op_eq (pv 2) pe_str (nomark _)) (pe_one (pe_callD Dis_letter (hr.mono (by decide)) rfl (pa_cons (pv 2) pa_nil)))) (pe_and (pe_callB (call_isK K rfl) (by rfl) T.n_isinstance W31.boot_isinstance (pa_cons (pv 3) (pa_cons (pe_bltn (v := .ty "str") (by rfl) T.n_str W31.boot_str rfl) pa_nil))) (pe_one (pe_cmpR (op_inK K rfl) (pv 3) (pe_glob (v := .ref aK) rfl T.KINDS rfl) (by rfl)))))))))), ?_⟩
  refine ⟨_, rfl, _, _, _, _, true, rfl, .ty "tuple", .base (.tup ha), kit_ty (by decide +kernel), true, rfl, ?_⟩
  refine iteF ?_
  refine ⟨_, rfl, a, _, rfl, .inr (SqT.of ha), rfl, _, rfl, ?_⟩
  refine iteF ?_
  refine ⟨_, rfl, a, _, rfl, SqT.of ha, rfl, _, _, rfl, _, _, rfl, _, _, rfl, rfl, ?_⟩
  refine ⟨_, rfl, o.1, rfl, ok.name, fun H1 s1 => ?_⟩
  refine ⟨true, rfl, iteT ?_⟩
  have fin : ∀ H2, Same H H2 → tAndV (tCB (rIsi K) (tCons (tVar 3) (tCons (tC (.ty "str")) tNil))) (tOp (rIn K false) (tVar 3) (tC (.ref aK))) [some (.ref a), some (.str o.1), some (.str o.2.1), some (.str o.2.2)] H2 Q := fun H2 s2 => by
    refine ⟨_, rfl, _, _, _, _, true, rfl, .ty "str", .base (.str _), kit_ty (by decide +kernel), true, rfl, iteT ?_⟩
    refine ⟨_, rfl, aK, _, rfl, .inr (T.kinds H2), rfl, by decide, ?_⟩
    show Q (V.bl (inV (.str o.2.2) (kindsL.map V.str))) H2
    rw [inV_str ok.kind]
    exact q _ s2
  rcases ok.letter with e | ⟨c, e, hc⟩
  · refine ⟨_, rfl, rfl, true, by rw [decide_eq_true (congrArg V.str e)], true, rfl, iteT ?_⟩
    exact fin H1 s1
  · have ne : ¬ V.str o.2.1 = V.str "" := fun z => by
      rw [e] at z
      exact absurd (V.str.inj z) (by intro y; exact absurd (congrArg (fun y : Str => y.cps.size) y) (by show ¬ (1 = 0); decide))
    refine ⟨_, rfl, rfl, false, by rw [decide_eq_false ne], ?_⟩
    refine ⟨_, rfl, c, by rw [e]; rfl, hc, fun H2 s2 => ?_⟩
    exact ⟨true, rfl, iteT (fin H2 (s1.trans s2))⟩

abbrev s_is_place : Stmt := top 19
abbrev N_is_place : List Str := ["thing"]
theorem sc_is_place : FnScope N_is_place ["thing"] (defScope s_is_place) := ⟨rfl, rfl, rfl, by decide +kernel, rfl, by decide +kernel, by decide +kernel⟩
theorem ok_is_place {f : Addr} {fd : FuncData} (F : Fun K "is_place" "is_place" s_is_place f fd) (b : Binds K fd ["thing"] []) (m : mg "is_place" = some (.ref f)) (T : Txt K mg C aK aA)
    (Dis_name : DefAt P w K mg base "is_name" 2 ["thing"] spIsName) :
    DefAt P w K mg base "is_place" 3 ["thing"] spIsPlace := by
  refine ⟨f, fd, F.ok sc_is_place (fun vs H Q E h => ?_) (fun cdv A outer s H vs Q E hr h => ?_), b, F.kp, m⟩
  · obtain ⟨v, o, rfl, _⟩ := h
    rfl
  obtain ⟨v, o, rfl, ⟨a, rfl, ha⟩, ok, q⟩ := h
  have nd := sc_is_place.nd
  refine ⟨_, (pss_cons (ps_if (PW.pt (pw_or (pt_not (pt_val (pe_callB (call_isK K rfl) (by rfl) T.n_isinstance W31.boot_isinstance (pa_cons (pv 0) (pa_cons (pe_bltn (v := .ty "tuple") (by rfl) T.n_tuple W31.boot_tuple rfl) pa_nil))))) (pw_or1 (pt_cmpR op_ne (pe_callB (call_lenK K rfl) (by rfl) T.n_len W31.boot_len (pa_cons (pv 0) pa_nil)) pe_int (nomark _)))))
    (pss_one (ps_ret pe_bl))
    pss_nil)
    (pss_one (ps_ret (pe_and (pe_callD Dis_name (hr.mono (by decide)) rfl (pa_cons (pe_ix (ix_tupK K rfl) (pv 0) pe_int (fun _ _ => rfl)) pa_nil)) (pe_and (pe_callB (call_isK K rfl) (by rfl) T.n_isinstance W31.boot_isinstance (pa_cons (pe_ix (ix_tupK K rfl) (pv 0) pe_int (fun _ _ => rfl)) (pa_cons (pe_bltn (v := .ty "str") (by rfl) T.n_str W31.boot_str rfl) pa_nil))) (pe_one (pe_cmpR (op_inK K rfl) (pe_ix (ix_tupK K rfl) (pv 0) pe_int (fun _ _ => rfl)) (pe_glob (v := .ref aA) rfl T.ARITIES rfl) (by rfl)))))))), ?_⟩
  refine ⟨_, rfl, _, _, _, _, true, rfl, .ty "tuple", .base (.tup ha), kit_ty (by decide +kernel), true, rfl, ?_⟩
  refine iteF ?_
  refine ⟨_, rfl, a, _, rfl, .inr (SqT.of ha), rfl, _, rfl, ?_⟩
  refine iteF ?_
  refine ⟨_, rfl, a, _, 0, _, rfl, rfl, SqT.of ha, atI_nat (j := 0) rfl, o.1, rfl, ok.name, fun H1 s1 => ?_⟩
  refine ⟨true, rfl, iteT ?_⟩
  refine ⟨_, rfl, a, _, 1, _, rfl, rfl, SqT.of (s1 _ _ ha), atI_nat (j := 1) rfl, _, _, _, _, true, rfl, .ty "str", .base (.str _), kit_ty (by decide +kernel), true, rfl, iteT ?_⟩
  refine ⟨_, rfl, a, _, 1, _, rfl, rfl, SqT.of (s1 _ _ ha), atI_nat (j := 1) rfl, aA, _, rfl, .inr (T.arities H1), rfl, by decide, ?_⟩
  show Q (V.bl (inV (.str o.2) (aritiesL.map V.str))) H1
  rw [inV_str ok.arity]
  exact q _ s1
end
end W31

set_option maxHeartbeats 4000000
/-! option_fault, place_fault, fault, need_grammar, is_grammar. -/
namespace W31
open PySem PySem.Spec PyProof.Rows L2
def memS (x : Str) (l : List Str) : Bool := l.any fun y => y == x
theorem inV_memS (x : Str) (l : List Str) : inV (.str x) (l.map V.str) = memS x l := by
  unfold inV memS
  rw [List.any_map]
  rfl
theorem memS_iff {x : Str} {l : List Str} : memS x l = true ↔ x ∈ l := by
  unfold memS
  rw [List.any_eq_true]
  exact ⟨fun ⟨y, hy, e⟩ => (beq_iff_eq.mp e) ▸ hy, fun h => ⟨x, h, beq_self_eq_true x⟩⟩
theorem memS_false {x : Str} {l : List Str} : memS x l = false ↔ x ∉ l := by
  rw [← memS_iff, Bool.not_eq_true]
/-- no name, no letter comes twice -/
def okFrom : List Str → List Str → List Opt → Bool
  | _, _, [] => true
  | ns, ls, o :: r => !(memS o.1 ns || memS o.2.1 ls) && okFrom (ns ++ [o.1]) (if o.2.1 = "" then ls else ls ++ [o.2.1]) r
def okOpts (os : List Opt) : Bool := okFrom [] [] os
def okPlcs : List Str → Bool → List Plc → Prop
  | _, _, [] => True
  | ns, hm, p :: r => memS p.1 ns = false ∧ (hm = true → p.2 ≠ "many") ∧ okPlcs (ns ++ [p.1]) (hm || decide (p.2 = "many")) r
def spOptionFault : Sp := fun vs H Q _ => ∃ (v : V) (os : List Opt), vs = [v] ∧ OptsA H v os ∧ (∀ o ∈ os, OptOk o) ∧ os.length ≤ 24 ∧
  ∀ r H', Same H H' → (okOpts os = true → r = .non) → (okOpts os = false → ∃ a, r = .ref a) → Q r H'
def spPlaceFault : Sp := fun vs H Q _ => ∃ (v : V) (ps : List Plc), vs = [v] ∧ PlcsA H v ps ∧ (∀ p ∈ ps, PlcOk p) ∧ ps.length ≤ 5 ∧ okPlcs [] false ps ∧ ∀ H', Same H H' → Q .non H'
structure GrOk (g : Gr) : Prop where
  os : ∀ o ∈ g.os, OptOk o
  ps : ∀ p ∈ g.ps, PlcOk p
  few : g.ps.length ≤ 5
  plcs : okPlcs [] false g.ps
def spFault : Sp := fun vs H Q _ => ∃ (v : V) (g : Gr), vs = [v] ∧ GrA H v g ∧ GrOk g ∧ g.os.length ≤ 24 ∧
  ∀ r H', Same H H' → (okOpts g.os = true → r = .non) → (okOpts g.os = false → ∃ a, r = .ref a) → Q r H'
def spNeedGrammar : Sp := fun vs H Q _ => ∃ (v : V) (g : Gr), vs = [v] ∧ GrA H v g ∧ GrOk g ∧ g.os.length ≤ 24 ∧ okOpts g.os = true ∧ ∀ H', Same H H' → Q v H'
def spIsGrammar : Sp := fun vs H Q _ => ∃ (v : V) (g : Gr), vs = [v] ∧ GrA H v g ∧ GrOk g ∧ g.os.length ≤ 24 ∧ ∀ H', Same H H' → Q (.bl (okOpts g.os)) H'
theorem flat_strs (l : List Str) : (l.map V.str).all flatV = true := by
  rw [List.all_map]
  exact List.all_eq_true.mpr fun _ _ => rfl
section
variable {P : Program} {w : World} {K : PySem.W.Frag} {mg : Str → Option Value} {base : Heap} {C aK aA : Addr}
abbrev s_option_fault : Stmt := top 20
abbrev N_option_fault : List Str := ["options", "names", "letters", "number", "option"]
theorem sc_option_fault : FnScope N_option_fault ["options"] (defScope s_option_fault) := ⟨rfl, rfl, rfl, by decide +kernel, rfl, by decide +kernel, by decide +kernel⟩
theorem ok_option_fault {f : Addr} {fd : FuncData} (F : Fun K "option_fault" "option_fault" s_option_fault f fd) (b : Binds K fd ["options"] []) (m : mg "option_fault" = some (.ref f)) (T : Txt K mg C aK aA)
    (Dis_option : DefAt P w K mg base "is_option" 3 ["thing"] spIsOption) :
    DefAt P w K mg base "option_fault" 4 ["options"] spOptionFault := by
  refine ⟨f, fd, F.ok sc_option_fault (fun vs H Q E h => ?_) (fun cdv A outer s H vs Q E hr h => ?_), b, F.kp, m⟩
  · obtain ⟨v, os, rfl, _⟩ := h
    rfl
  obtain ⟨v, os, rfl, ⟨a, xs, rfl, ha, pr⟩, ok, few, q⟩ := h
  have nd := sc_option_fault.nd
  have hlen : xs.length = os.length := Paired.len pr
  refine ⟨_, (pss_cons (ps_if (PW.pt (pw_or (pt_not (pt_val (pe_callB (call_isK K rfl) (by rfl) T.n_isinstance W31.boot_isinstance (pa_cons (pv 0) (pa_cons (pe_bltn (v := .ty "tuple") (by rfl) T.n_tuple W31.boot_tuple rfl) pa_nil))))) (pw_or1 (pt_cmpR op_gt (pe_callB (call_lenK K rfl) (by rfl) T.n_len W31.boot_len (pa_cons (pv 0) pa_nil)) (pe_globI rfl T.MOST_OPTIONS) (nomark _)))))
    (pss_one (ps_ret (pe_tup (pa_cons pe_str pa_nil))))
    pss_nil)
    (pss_cons (ps_par (i := 1) (j := 2) rfl nd rfl rfl (by decide) rfl rfl (pa_cons (pe_lst pa_nil) (pa_cons (pe_lst pa_nil) pa_nil)) (by rfl))
    (pss_cons (ps_for PassesOwn.never rfl (pi_enumT (by rfl) T.n_enumerate (pa_cons (pv 0) pa_nil)) (pg_tupK (n := 2) K rfl rfl (pgs_cons (pg_name (i := 3) nd rfl (Or.inl rfl)) (pgs_cons (pg_name (i := 4) nd rfl (Or.inl rfl)) pgs_nil)))
    (pss_cons (ps_if (PW.pt (pw_or (pt_not (pt_val (pe_callD Dis_option (hr.mono (by decide)) rfl (pa_cons (pv 4) pa_nil)))) (pw_or (pt_cmpR (op_inK K rfl) (pe_ix (ix_tupK K rfl) (pv 4) pe_int (fun _ _ => rfl)) (pv 1) (by rfl)) (pw_or1 (pt_cmpR (op_inK K rfl) (pe_ix (ix_tupK K rfl) (pv 4) pe_int (fun _ _ => rfl)) (pv 2) (by rfl))))))
    (pss_one (ps_ret (pe_tup (pa_cons pe_str (pa_cons (pv 3) pa_nil)))))
    pss_nil)
    (pss_cons (ps_expr (pe_bm PySem.F.plainAttrs_list PySem.F.slot_list_append PySem.F.type_list_append mt_append (pv 1) (pa_cons (pe_ix (ix_tupK K rfl) (pv 4) pe_int (fun _ _ => rfl)) pa_nil)))
    (pss_one (ps_if (pt_cmpR op_ne (pe_ix (ix_tupK K rfl) (pv 4) pe_int (fun _ _ => rfl)) pe_str (nomark _))
    (pss_one (ps_expr (pe_bm PySem.F.plainAttrs_list PySem.F.slot_list_append PySem.F.type_list_append mt_append (pv 2) (pa_cons (pe_ix (ix_tupK K rfl) (pv 4) pe_int (fun _ _ => rfl)) pa_nil))))
    pss_nil)))))
    (pss_one (ps_ret pe_non))))), ?_⟩
  refine ⟨_, rfl, _, _, _, _, true, rfl, .ty "tuple", .base (.tup ha), kit_ty (by decide +kernel), true, rfl, ?_⟩
  refine iteF ?_
  refine ⟨_, rfl, a, _, rfl, .inr (SqT.of ha), _, _, rfl, rfl, _, rfl, ?_⟩
  rw [decide_eq_false (by rw [hlen]; omega)]
  refine iteF ?_
  refine ⟨Nat.zero_le _, fun ln hn => ⟨Nat.zero_le _, fun ll hl => ⟨_, _, rfl, ?_⟩⟩⟩
  have hl0 : H ll = none := (same_new hn _).free hl
  have nll : ln ≠ ll := fun e => by rw [← e, upd_same] at hl; cases hl
  have s0 : Same H (upd (upd H ln (.lst [])) ll (.lst [])) := (same_new hn _).trans (same_new hl _)
  refine ⟨_, rfl, a, xs, rfl, SqT.of (s0 _ _ ha), ?_⟩
  refine for_it walk_enumT (fun i σ H' => ∃ (ns ls : List Str) (o1 o2 : Option V), σ = [some (.ref a), some (.ref ln), some (.ref ll), o1, o2] ∧ Same H H' ∧ H' ln = some (.lst (ns.map V.str)) ∧ H' ll = some (.lst (ls.map V.str)) ∧
    ns.length ≤ i ∧ ls.length ≤ i ∧ okOpts os = okFrom ns ls (os.drop i)) ⟨[], [], none, none, rfl, s0, by rw [upd_ne nll, upd_same]; rfl, upd_same, Nat.le_refl _, Nat.le_refl _, rfl⟩
    (fun i σ H' hi ⟨_, _, _, _, _, s, _⟩ => SqT.of (s _ _ ha)) ?_ ?_
  · rintro i x σ H1 H2 hi ⟨ns, ls, o1, o2, rfl, s, h1, h2, n1, n2, e⟩ ⟨Tp, y, z, rfl, hT, rfl, hy, hz⟩
    obtain rfl : V.int (i : Nat) = y := Option.some.inj hy
    obtain ⟨o, ho, ⟨b, rfl, hb⟩⟩ := Paired.snd pr hz
    have hoi : o ∈ os := List.mem_of_getElem? ho
    have drop : os.drop i = o :: os.drop (i + 1) := by
      obtain ⟨hi', e'⟩ := List.getElem?_eq_some_iff.mp ho
      rw [← e']
      exact List.drop_eq_getElem_cons hi'
    have s1 : Same H (upd H1 Tp (.tup [.int (i : Nat), .ref b])) := s.trans (same_new hT _)
    refine ⟨Tp, _, rfl, SqT.of upd_same, rfl, _, _, rfl, _, _, rfl, rfl, ?_⟩
    refine ⟨_, rfl, .ref b, o, rfl, ⟨b, rfl, s1 _ _ hb⟩, ok o hoi, fun H3 s3 => ?_⟩
    refine ⟨true, rfl, ?_⟩
    refine iteF ?_
    have s4 := s1.trans s3
    have hn3 : H3 ln = some (.lst (ns.map V.str)) := s3 _ _ (by rw [upd_ne (ne_of_none h1 hT)]; exact h1)
    have hl3 : H3 ll = some (.lst (ls.map V.str)) := s3 _ _ (by rw [upd_ne (ne_of_none h2 hT)]; exact h2)
    have i63 : i < 24 := by omega
    refine ⟨_, rfl, b, _, 0, _, rfl, rfl, SqT.of (s4 _ _ hb), atI_nat (j := 0) rfl, _, rfl, ln, _, rfl, .inl (SqL.of hn3), rfl, flat_strs _, _, rfl, ?_⟩
    show if inV (V.str o.1) (ns.map V.str) = true then _ else _
    rw [inV_memS]
    have bad : okFrom ns ls (o :: os.drop (i + 1)) = false → tRet (tTup (tCons (tC (.str "options")) (tCons (tVar 3) tNil))) { nx := fun _ H' => Q .non H', rt := Q } [some (.ref a), some (.ref ln), some (.ref ll), some (.int (i : Nat)), some (.ref b)] H3 := fun z => by
      refine ⟨_, rfl, by show 2 ≤ sizeLine; decide, fun t ht => ?_⟩
      exact q _ _ (s4.trans (same_new ht _)) (fun c => by rw [e, drop, z] at c; cases c) fun _ => ⟨t, rfl⟩
    refine ite2 (fun c => ?_) (fun c => ?_)
    · exact bad (by show (!(memS o.1 ns || memS o.2.1 ls) && _) = false; rw [c]; rfl)
    refine ⟨_, rfl, b, _, 1, _, rfl, rfl, SqT.of (s4 _ _ hb), atI_nat (j := 1) rfl, _, rfl, ll, _, rfl, .inl (SqL.of hl3), rfl, flat_strs _, _, rfl, ?_⟩
    show if inV (V.str o.2.1) (ls.map V.str) = true then _ else _
    rw [inV_memS]
    refine ite2 (fun c2 => ?_) (fun c2 => ?_)
    · exact bad (by show (!(memS o.1 ns || memS o.2.1 ls) && _) = false; rw [c2, Bool.or_true]; rfl)
    have c' := Bool.not_eq_true _ ▸ c
    have c2' := Bool.not_eq_true _ ▸ c2
    have e2 : okOpts os = okFrom (ns ++ [o.1]) (if o.2.1 = "" then ls else ls ++ [o.2.1]) (os.drop (i + 1)) := by
      rw [e, drop]
      show (!(memS o.1 ns || memS o.2.1 ls) && _) = _
      rw [show memS o.1 ns = false from by simpa using c, show memS o.2.1 ls = false from by simpa using c2]
      rfl
    refine ⟨_, rfl, .inl ⟨rfl, _, SqL.of hn3⟩, _, rfl, b, _, 0, _, rfl, rfl, SqT.of (s4 _ _ hb), atI_nat (j := 0) rfl, ln, _, _, rfl, rfl, hn3, small1000 (by rw [List.length_map]; omega), ?_⟩
    have hn0 : H ln = none := hn
    have s5 : Same H (upd H3 ln (.lst (ns.map V.str ++ [.str o.1]))) := same_own s4 hn0
    have hb5 := s5 _ _ hb
    have hl5 : (upd H3 ln (.lst (ns.map V.str ++ [.str o.1]))) ll = some (.lst (ls.map V.str)) := by rw [upd_ne nll.symm]; exact hl3
    have mapn : ns.map V.str ++ [V.str o.1] = (ns ++ [o.1]).map V.str := by rw [List.map_append]; rfl
    refine ⟨_, rfl, b, _, 1, _, rfl, rfl, SqT.of hb5, atI_nat (j := 1) rfl, rfl, _, rfl, ?_⟩
    refine ite2 (fun c3 => ?_) (fun c3 => ?_)
    · have ne : ¬ o.2.1 = "" := fun z => by rw [z] at c3; revert c3; decide +kernel
      refine ⟨_, rfl, .inl ⟨rfl, _, SqL.of hl5⟩, _, rfl, b, _, 1, _, rfl, rfl, SqT.of hb5, atI_nat (j := 1) rfl, ll, _, _, rfl, rfl, hl5, small1000 (by rw [List.length_map]; omega), ?_⟩
      refine ⟨ns ++ [o.1], ls ++ [o.2.1], _, _, rfl, same_own s5 hl0, by rw [upd_ne nll, upd_same, mapn], by rw [upd_same, List.map_append]; rfl, by rw [List.length_append]; exact Nat.succ_le_succ n1, by rw [List.length_append]; exact Nat.succ_le_succ n2, ?_⟩
      rw [e2, if_neg ne]
    · have eq : o.2.1 = "" := Classical.byContradiction fun z => c3 (by rw [decide_eq_false fun y => z (V.str.inj y)]; rfl)
      refine ⟨ns ++ [o.1], ls, _, _, rfl, s5, by rw [upd_same, mapn], hl5, by rw [List.length_append]; exact Nat.succ_le_succ n1, Nat.le_succ_of_le n2, ?_⟩
      rw [e2, if_pos eq]
  · rintro σ H1 ⟨ns, ls, o1, o2, rfl, s, h1, h2, n1, n2, e⟩
    rw [hlen, List.drop_length] at e
    exact q _ _ s (fun _ => rfl) fun c => by rw [e] at c; cases c
end
end W31

set_option maxHeartbeats 4000000
namespace W31
open PySem PySem.Spec PyProof.Rows L2
section
variable {P : Program} {w : World} {K : PySem.W.Frag} {mg : Str → Option Value} {base : Heap} {C aK aA : Addr}
abbrev s_place_fault : Stmt := top 21
abbrev N_place_fault : List Str := ["places", "names", "has_many", "number", "place"]
theorem sc_place_fault : FnScope N_place_fault ["places"] (defScope s_place_fault) := ⟨rfl, rfl, rfl, by decide +kernel, rfl, by decide +kernel, by decide +kernel⟩
theorem ok_place_fault {f : Addr} {fd : FuncData} (F : Fun K "place_fault" "place_fault" s_place_fault f fd) (b : Binds K fd ["places"] []) (m : mg "place_fault" = some (.ref f)) (T : Txt K mg C aK aA)
    (Dis_place : DefAt P w K mg base "is_place" 3 ["thing"] spIsPlace) :
    DefAt P w K mg base "place_fault" 4 ["places"] spPlaceFault := by
  refine ⟨f, fd, F.ok sc_place_fault (fun vs H Q E h => ?_) (fun cdv A outer s H vs Q E hr h => ?_), b, F.kp, m⟩
  · obtain ⟨v, os, rfl, _⟩ := h
    rfl
  obtain ⟨v, ps, rfl, ⟨a, xs, rfl, ha, pr⟩, ok, few, okp, q⟩ := h
  have nd := sc_place_fault.nd
  have hlen : xs.length = ps.length := Paired.len pr
  refine ⟨_, (pss_cons (ps_if (PW.pt (pw_or (pt_not (pt_val (pe_callB (call_isK K rfl) (by rfl) T.n_isinstance W31.boot_isinstance (pa_cons (pv 0) (pa_cons (pe_bltn (v := .ty "tuple") (by rfl) T.n_tuple W31.boot_tuple rfl) pa_nil))))) (pw_or1 (pt_cmpR op_gt (pe_callB (call_lenK K rfl) (by rfl) T.n_len W31.boot_len (pa_cons (pv 0) pa_nil)) (pe_globI rfl T.MOST_PLACES) (nomark _)))))
    (pss_one (ps_ret (pe_tup (pa_cons pe_str pa_nil))))
    pss_nil)
    (pss_cons (ps_par (i := 1) (j := 2) rfl nd rfl rfl (by decide) rfl rfl (pa_cons (pe_lst pa_nil) (pa_cons pe_bl pa_nil)) (by rfl))
    (pss_cons (ps_for PassesOwn.never rfl (pi_enumT (by rfl) T.n_enumerate (pa_cons (pv 0) pa_nil)) (pg_tupK (n := 2) K rfl rfl (pgs_cons (pg_name (i := 3) nd rfl (Or.inl rfl)) (pgs_cons (pg_name (i := 4) nd rfl (Or.inl rfl)) pgs_nil)))
    (pss_cons (ps_if (PW.pt (pw_or (pt_not (pt_val (pe_callD Dis_place (hr.mono (by decide)) rfl (pa_cons (pv 4) pa_nil)))) (pw_or (pt_cmpR (op_inK K rfl) (pe_ix (ix_tupK K rfl) (pv 4) pe_int (fun _ _ => rfl)) (pv 1) (by rfl)) (pw_or1 (PW.pt (pw_and (pt_val (pv 2)) (pw_and1 (pt_cmpR op_eq (pe_ix (ix_tupK K rfl) (pv 4) pe_int (fun _ _ => rfl)) pe_str (nomark _)))))))))
    (pss_one (ps_ret (pe_tup (pa_cons pe_str (pa_cons (pv 3) pa_nil)))))
    pss_nil)
    (pss_cons (ps_expr (pe_bm PySem.F.plainAttrs_list PySem.F.slot_list_append PySem.F.type_list_append mt_append (pv 1) (pa_cons (pe_ix (ix_tupK K rfl) (pv 4) pe_int (fun _ _ => rfl)) pa_nil)))
    (pss_one (ps_set (i := 2) nd rfl (Or.inl rfl) (pe_or (pv 2) (pe_one (pe_cmpR op_eq (pe_ix (ix_tupK K rfl) (pv 4) pe_int (fun _ _ => rfl)) pe_str (nomark _)))))))))
    (pss_one (ps_ret pe_non))))), ?_⟩
  refine ⟨_, rfl, _, _, _, _, true, rfl, .ty "tuple", .base (.tup ha), kit_ty (by decide +kernel), true, rfl, ?_⟩
  refine iteF ?_
  refine ⟨_, rfl, a, _, rfl, .inr (SqT.of ha), _, _, rfl, rfl, _, rfl, ?_⟩
  rw [decide_eq_false (by rw [hlen]; omega)]
  refine iteF ?_
  refine ⟨Nat.zero_le _, fun ln hn => ⟨_, _, rfl, ?_⟩⟩
  have s0 : Same H (upd H ln (.lst [])) := same_new hn _
  refine ⟨_, rfl, a, xs, rfl, SqT.of (s0 _ _ ha), ?_⟩
  refine for_it walk_enumT (fun i σ H' => ∃ (ns : List Str) (hm : Bool) (o1 o2 : Option V), σ = [some (.ref a), some (.ref ln), some (.bl hm), o1, o2] ∧ Same H H' ∧ H' ln = some (.lst (ns.map V.str)) ∧
    ns.length ≤ i ∧ okPlcs ns hm (ps.drop i)) ⟨[], false, none, none, rfl, s0, upd_same, Nat.le_refl _, okp⟩
    (fun i σ H' hi ⟨_, _, _, _, _, s, _⟩ => SqT.of (s _ _ ha)) ?_ ?_
  · rintro i x σ H1 H2 hi ⟨ns, hm, o1, o2, rfl, s, h1, n1, e⟩ ⟨Tp, y, z, rfl, hT, rfl, hy, hz⟩
    obtain rfl : V.int (i : Nat) = y := Option.some.inj hy
    obtain ⟨p, hp, ⟨b, rfl, hb⟩⟩ := Paired.snd pr hz
    have drop : ps.drop i = p :: ps.drop (i + 1) := by
      obtain ⟨hi', e'⟩ := List.getElem?_eq_some_iff.mp hp
      rw [← e']
      exact List.drop_eq_getElem_cons hi'
    rw [drop] at e
    obtain ⟨e1, e2, e3⟩ := e
    have s1 : Same H (upd H1 Tp (.tup [.int (i : Nat), .ref b])) := s.trans (same_new hT _)
    refine ⟨Tp, _, rfl, SqT.of upd_same, rfl, _, _, rfl, _, _, rfl, rfl, ?_⟩
    refine ⟨_, rfl, .ref b, p, rfl, ⟨b, rfl, s1 _ _ hb⟩, ok p (List.mem_of_getElem? hp), fun H3 s3 => ?_⟩
    refine ⟨true, rfl, ?_⟩
    refine iteF ?_
    have s4 := s1.trans s3
    have hn3 : H3 ln = some (.lst (ns.map V.str)) := s3 _ _ (by rw [upd_ne (ne_of_none h1 hT)]; exact h1)
    refine ⟨_, rfl, b, _, 0, _, rfl, rfl, SqT.of (s4 _ _ hb), atI_nat (j := 0) rfl, _, rfl, ln, _, rfl, .inl (SqL.of hn3), rfl, flat_strs _, _, rfl, ?_⟩
    show if inV (V.str p.1) (ns.map V.str) = true then _ else _
    rw [inV_memS, e1]
    refine iteF ?_
    -- has_many and place[1] == 'many' is false
    have rest : tSeq (tDrop (tBM K "list" rAppend (tVar 1) (tCons (tOp (rIxT K) (tVar 4) (tC (.int 0))) tNil))) (tAsg (tOrV (tVar 2) (tOp rEq (tOp (rIxT K) (tVar 4) (tC (.int 1))) (tC (.str "many")))) (gName 2))
        { nx := fun σ H' => ∃ (ns : List Str) (hm : Bool) (o1 o2 : Option V), σ = [some (.ref a), some (.ref ln), some (.bl hm), o1, o2] ∧ Same H H' ∧ H' ln = some (.lst (ns.map V.str)) ∧ ns.length ≤ i + 1 ∧ okPlcs ns hm (ps.drop (i + 1)), rt := Q }
        [some (.ref a), some (.ref ln), some (.bl hm), some (.int (i : Nat)), some (.ref b)] H3 := by
      refine ⟨_, rfl, .inl ⟨rfl, _, SqL.of hn3⟩, _, rfl, b, _, 0, _, rfl, rfl, SqT.of (s4 _ _ hb), atI_nat (j := 0) rfl, ln, _, _, rfl, rfl, hn3, small1000 (by rw [List.length_map]; omega), ?_⟩
      have s5 : Same H (upd H3 ln (.lst (ns.map V.str ++ [.str p.1]))) := same_own s4 hn
      have mapn : ns.map V.str ++ [V.str p.1] = (ns ++ [p.1]).map V.str := by rw [List.map_append]; rfl
      have fin : ∀ hm', hm' = (hm || decide (p.2 = "many")) → ∃ (ns : List Str) (hm : Bool) (o1 o2 : Option V), ([some (.ref a), some (.ref ln), some (.bl hm'), some (.int (i : Nat)), some (.ref b)] : L2.St) = [some (.ref a), some (.ref ln), some (.bl hm), o1, o2] ∧ Same H (upd H3 ln (.lst (ns.map V.str))) ∧
          (upd H3 ln (.lst (ns.map V.str))) ln = some (.lst (ns.map V.str)) ∧ ns.length ≤ i + 1 ∧ okPlcs ns hm (ps.drop (i + 1)) := fun hm' z => by
        subst z
        exact ⟨ns ++ [p.1], _, _, _, rfl, by rw [← mapn]; exact s5, upd_same, by rw [List.length_append]; exact Nat.succ_le_succ n1, e3⟩
      refine ⟨_, rfl, hm, rfl, ?_⟩
      rw [mapn]
      refine ite2 (fun c => ?_) (fun c => ?_)
      · subst c
        exact ⟨ns ++ [p.1], true, _, _, rfl, by rw [← mapn]; exact s5, upd_same, by rw [List.length_append]; exact Nat.succ_le_succ n1, e3⟩
      · have c' : hm = false := by simpa using c
        subst c'
        refine ⟨_, rfl, b, _, 1, _, rfl, rfl, SqT.of (by rw [← mapn]; exact s5 _ _ hb), atI_nat (j := 1) rfl, rfl, ?_⟩
        refine ⟨ns ++ [p.1], decide (V.str p.2 = V.str "many"), _, _, rfl, by rw [← mapn]; exact s5, upd_same, by rw [List.length_append]; exact Nat.succ_le_succ n1, ?_⟩
        have eb : decide (V.str p.2 = V.str "many") = (false || decide (p.2 = "many")) := by
          rw [Bool.false_or]
          exact decide_eq_decide.mpr ⟨fun z => V.str.inj z, fun z => by rw [z]⟩
        rw [eb]
        exact e3
    refine ⟨_, rfl, hm, rfl, ?_⟩
    refine ite2 (fun c => ?_) (fun c => ?_)
    · refine ⟨_, rfl, b, _, 1, _, rfl, rfl, SqT.of (s4 _ _ hb), atI_nat (j := 1) rfl, rfl, _, rfl, ?_⟩
      rw [decide_eq_false fun z => e2 c (V.str.inj z)]
      exact iteF rest
    · exact iteF rest
  · rintro σ H1 ⟨ns, hm, o1, o2, rfl, s, h1, n1, e⟩
    exact q _ s

abbrev s_fault : Stmt := top 22
abbrev N_fault : List Str := ["thing", "options", "places", "modes", "found", "mode"]
theorem sc_fault : FnScope N_fault ["thing"] (defScope s_fault) := ⟨rfl, rfl, rfl, by decide +kernel, rfl, by decide +kernel, by decide +kernel⟩
theorem ok_fault {f : Addr} {fd : FuncData} (F : Fun K "fault" "fault" s_fault f fd) (b : Binds K fd ["thing"] []) (m : mg "fault" = some (.ref f)) (T : Txt K mg C aK aA)
    (Doption_fault : DefAt P w K mg base "option_fault" 4 ["options"] spOptionFault)
    (Dplace_fault : DefAt P w K mg base "place_fault" 4 ["places"] spPlaceFault) :
    DefAt P w K mg base "fault" 5 ["thing"] spFault := by
  refine ⟨f, fd, F.ok sc_fault (fun vs H Q E h => ?_) (fun cdv A outer s H vs Q E hr h => ?_), b, F.kp, m⟩
  · obtain ⟨v, os, rfl, _⟩ := h
    rfl
  obtain ⟨v, g, rfl, ⟨a, vo, vp, mm, rfl, ha, ho, hp, hm⟩, ok, few, q⟩ := h
  have nd := sc_fault.nd
  refine ⟨_, (pss_cons (ps_if (PW.pt (pw_or (pt_not (pt_val (pe_callB (call_isK K rfl) (by rfl) T.n_isinstance W31.boot_isinstance (pa_cons (pv 0) (pa_cons (pe_bltn (v := .ty "tuple") (by rfl) T.n_tuple W31.boot_tuple rfl) pa_nil))))) (pw_or1 (pt_cmpR op_ne (pe_callB (call_lenK K rfl) (by rfl) T.n_len W31.boot_len (pa_cons (pv 0) pa_nil)) pe_int (nomark _)))))
    (pss_one (ps_ret (pe_tup pa_nil)))
    pss_nil)
    (pss_cons (ps_asg (pv 0) (pg_tupK (n := 3) K rfl rfl (pgs_cons (pg_name (i := 1) nd rfl (Or.inl rfl)) (pgs_cons (pg_name (i := 2) nd rfl (Or.inl rfl)) (pgs_cons (pg_name (i := 3) nd rfl (Or.inl rfl)) pgs_nil)))))
    (pss_cons (ps_set (i := 4) nd rfl (Or.inl rfl) (pe_callD Doption_fault (hr.mono (by decide)) rfl (pa_cons (pv 1) pa_nil)))
    (pss_cons (ps_if (pt_cmpR op_isN (pv 4) pe_non (nomark _))
    (pss_one (ps_set (i := 4) nd rfl (Or.inl rfl) (pe_callD Dplace_fault (hr.mono (by decide)) rfl (pa_cons (pv 2) pa_nil))))
    pss_nil)
    (pss_cons (ps_if (pt_cmpR op_notN (pv 4) pe_non (nomark _))
    (pss_one (ps_ret (pv 4)))
    pss_nil)
    (pss_cons (ps_if (PW.pt (pw_or (pt_not (pt_val (pe_callB (call_isK K rfl) (by rfl) T.n_isinstance W31.boot_isinstance (pa_cons (pv 3) (pa_cons (pe_bltn (v := .ty "tuple") (by rfl) T.n_tuple W31.boot_tuple rfl) pa_nil))))) (pw_or (pt_cmpR op_ne (pe_callB (call_lenK K rfl) (by rfl) T.n_len W31.boot_len (pa_cons (pv 3) pa_nil)) pe_int (nomark _)) (pw_or1 (pt_not (pt_val (pe_callB (cr_all rfl) (by rfl) T.n_all W31.boot_all (pa_cons (pe_lc (own := [("mode", 5)]) (g := gName 5) (tt := tYes) rfl nd (pi_tupK K rfl (pv 3)) (blkOk_by (N := N_fault) (sc := defScope s_fault) (by decide +kernel)) (fun _ _ _ _ _ => (pg_name (i := 5) nd rfl (Or.inl rfl))) (fun _ _ _ _ _ => pts_nil) (fun _ _ _ _ _ => (pe_callB (call_isK K rfl) (by rfl) T.n_isinstance W31.boot_isinstance (pa_cons (pv 5) (pa_cons (pe_bltn (v := .ty "bool") (by rfl) T.n_bool W31.boot_bool rfl) pa_nil))))) pa_nil))))))))
    (pss_one (ps_ret (pe_tup (pa_cons pe_str pa_nil))))
    pss_nil)
    (pss_one (ps_ret pe_non)))))))), ?_⟩
  refine ⟨_, rfl, _, _, _, _, true, rfl, .ty "tuple", .base (.tup ha), kit_ty (by decide +kernel), true, rfl, ?_⟩
  refine iteF ?_
  refine ⟨_, rfl, a, _, rfl, .inr (SqT.of ha), rfl, _, rfl, ?_⟩
  refine iteF ?_
  refine ⟨_, rfl, a, _, rfl, SqT.of ha, rfl, _, _, rfl, _, _, rfl, _, _, rfl, rfl, ?_⟩
  refine ⟨_, rfl, vo, g.os, rfl, ho, ok.os, few, fun r H1 s1 r1 r2 => ?_⟩
  refine ⟨_, rfl, rfl, _, rfl, ?_⟩
  cases hb : okOpts g.os with
  | false =>
    obtain ⟨b, rfl⟩ := r2 hb
    refine iteF ?_
    refine ⟨_, rfl, rfl, _, rfl, ?_⟩
    refine iteT ?_
    exact ⟨_, rfl, q _ _ s1 (fun c => by rw [hb] at c; cases c) fun _ => ⟨b, rfl⟩⟩
  | true =>
    obtain rfl := r1 hb
    refine iteT ?_
    refine ⟨_, rfl, vp, g.ps, rfl, PlcsA.mn.mono _ _ _ _ (Same.kt s1) hp, ok.ps, ok.few, ok.plcs, fun H2 s2 => ?_⟩
    have s3 := s1.trans s2
    refine ⟨_, rfl, rfl, _, rfl, ?_⟩
    refine iteF ?_
    refine ⟨_, rfl, _, _, _, _, true, rfl, .ty "tuple", .base (.tup (s3 _ _ hm)), kit_ty (by decide +kernel), true, rfl, ?_⟩
    refine iteF ?_
    refine ⟨_, rfl, mm, _, rfl, .inr (SqT.of (s3 _ _ hm)), rfl, _, rfl, ?_⟩
    refine iteF ?_
    refine ⟨_, rfl, mm, rfl, ⟨_, SqT.of (s3 _ _ hm)⟩, ?_⟩
    refine lcT (ds := [g.short, g.mixed, g.minus]) (f := fun _ => some true) BlA.mn (SqT.of (s3 _ _ hm)) rfl (by show 3 ≤ 100000; decide) ?_ ?_
    · intro i x d H' hx hd s' Q1 Q0 k1 k0
      have hx' : x = .bl d := by
        have : ([.bl g.short, .bl g.mixed, .bl g.minus] : List V)[i]? = ([g.short, g.mixed, g.minus].map V.bl)[i]? := rfl
        rw [this, List.getElem?_map, hd] at hx
        exact (Option.some.inj hx).symm
      subst hx'
      refine ⟨rfl, ⟨_, rfl, _, _, _, _, true, rfl, .ty "bool", .base (.bl _), kit_ty (by decide +kernel), k1 _ true _ rfl rfl (Same.refl _)⟩⟩
    · intro D H4 ys hD s4 hys pr
      rw [bls_map pr] at hys
      refine ⟨D, _, rfl, SqL.of hys, true, rfl, ?_⟩
      refine iteF ?_
      exact q _ _ (s3.trans s4) (fun _ => rfl) fun c => by rw [hb] at c; cases c

abbrev s_need_grammar : Stmt := top 23
abbrev N_need_grammar : List Str := ["thing", "place"]
theorem sc_need_grammar : FnScope N_need_grammar ["thing"] (defScope s_need_grammar) := ⟨rfl, rfl, rfl, by decide +kernel, rfl, by decide +kernel, by decide +kernel⟩
theorem ok_need_grammar {f : Addr} {fd : FuncData} (F : Fun K "need_grammar" "need_grammar" s_need_grammar f fd) (b : Binds K fd ["thing"] []) (m : mg "need_grammar" = some (.ref f)) (T : Txt K mg C aK aA)
    (Dfault : DefAt P w K mg base "fault" 5 ["thing"] spFault) :
    DefAt P w K mg base "need_grammar" 6 ["thing"] spNeedGrammar := by
  refine ⟨f, fd, F.ok sc_need_grammar (fun vs H Q E h => ?_) (fun cdv A outer s H vs Q E hr h => ?_), b, F.kp, m⟩
  · obtain ⟨v, os, rfl, _⟩ := h
    rfl
  obtain ⟨v, g, rfl, hg, ok, few, hb, q⟩ := h
  have nd := sc_need_grammar.nd
  refine ⟨_, (pss_cons (ps_set (i := 1) nd rfl (Or.inl rfl) (pe_callD Dfault (hr.mono (by decide)) rfl (pa_cons (pv 0) pa_nil)))
    (pss_cons (ps_if (pt_cmpR op_notN (pv 1) pe_non (nomark _))
    (pss_one ps_never)
    pss_nil)
    (pss_one (ps_ret (pv 0))))), ?_⟩
  refine ⟨_, rfl, v, g, rfl, hg, ok, few, fun r H1 s1 r1 r2 => ?_⟩
  obtain rfl := r1 hb
  refine ⟨_, rfl, rfl, _, rfl, ?_⟩
  refine iteF ?_
  exact ⟨_, rfl, q _ s1⟩

abbrev s_is_grammar : Stmt := top 24
abbrev N_is_grammar : List Str := ["thing"]
theorem sc_is_grammar : FnScope N_is_grammar ["thing"] (defScope s_is_grammar) := ⟨rfl, rfl, rfl, by decide +kernel, rfl, by decide +kernel, by decide +kernel⟩
theorem ok_is_grammar {f : Addr} {fd : FuncData} (F : Fun K "is_grammar" "is_grammar" s_is_grammar f fd) (b : Binds K fd ["thing"] []) (m : mg "is_grammar" = some (.ref f)) (T : Txt K mg C aK aA)
    (Dfault : DefAt P w K mg base "fault" 5 ["thing"] spFault) :
    DefAt P w K mg base "is_grammar" 6 ["thing"] spIsGrammar := by
  refine ⟨f, fd, F.ok sc_is_grammar (fun vs H Q E h => ?_) (fun cdv A outer s H vs Q E hr h => ?_), b, F.kp, m⟩
  · obtain ⟨v, os, rfl, _⟩ := h
    rfl
  obtain ⟨v, g, rfl, hg, ok, few, q⟩ := h
  have nd := sc_is_grammar.nd
  refine ⟨_, (pss_one (ps_ret (pe_cmpR op_isN (pe_callD Dfault (hr.mono (by decide)) rfl (pa_cons (pv 0) pa_nil)) pe_non (nomark _)))), ?_⟩
  refine ⟨_, rfl, v, g, rfl, hg, ok, few, fun r H1 s1 r1 r2 => ⟨rfl, ?_⟩⟩
  have e : decide (r = V.non) = okOpts g.os := by
    cases hb : okOpts g.os with
    | true => rw [r1 hb]; rfl
    | false => obtain ⟨b, rfl⟩ := r2 hb; rfl
  show Q (V.bl (decide (r = V.non))) H1
  rw [e]
  exact q _ s1
end
end W31

set_option maxHeartbeats 4000000
/-! Texts' heads, told options, shortenings, what fits alone: in plain Lean. -/
namespace W31
open PySem PySem.Spec PyProof.Rows L2

/-- the first k signs -/
def tk (k : Nat) (x : Str) : Str := ⟨(x.cps.toList.take k).toArray⟩
theorem tk_list (k : Nat) (x : Str) : (tk k x).cps.toList = x.cps.toList.take k := rfl
theorem str_ext {x y : Str} (h : x.cps.toList = y.cps.toList) : x = y := by
  cases x; cases y
  exact congrArg Str.mk (Array.toList_inj.mp h)
/-- x starts with t -/
def pre (t x : Str) : Bool := decide (tk t.length x = t)
theorem pre_iff {t x : Str} : pre t x = true ↔ x.cps.toList.take t.length = t.cps.toList := by
  unfold pre
  rw [decide_eq_true_iff]
  exact ⟨fun h => by rw [← tk_list, h], fun h => str_ext h⟩
theorem starts_pre (x t : Str) : Txt.startswith x t = pre t x := by
  have lx : x.cps.toList.length = x.length := Array.length_toList
  have lt : t.cps.toList.length = t.length := Array.length_toList
  rw [Bool.eq_iff_iff, pre_iff]
  unfold Txt.startswith
  rw [StrLaws.subAt_eq, List.drop_zero, Bool.and_eq_true, decide_eq_true_iff, beq_iff_eq]
  refine ⟨fun h => h.2, fun h => ⟨?_, h⟩⟩
  have := congrArg List.length h
  rw [List.length_take, lx, lt] at this
  omega
theorem cut_tk (z : Str) (k : Nat) : cutS z none (some (k : Int)) = tk k z := by
  have lz : z.cps.toList.length = z.length := Array.length_toList
  refine str_ext ?_
  show (z.cps.toList.drop (HT.sIx z.length 0 none)).take (HT.sIx z.length z.length (some (k : Int)) - HT.sIx z.length 0 none) = z.cps.toList.take k
  rw [HT.sIx_none, HT.sIx_nat, List.drop_zero, Nat.sub_zero]
  by_cases h : k ≤ z.length
  · rw [Nat.min_eq_left h]
  · rw [Nat.min_eq_right (by omega), List.take_of_length_le (by rw [lz]; exact Nat.le_refl _), List.take_of_length_le (by rw [lz]; omega)]
theorem pre_cut (z t : Str) : decide (V.str (cutS z none (some (t.length : Int))) = V.str t) = pre t z := by
  rw [cut_tk]
  unfold pre
  exact decide_eq_decide.mpr ⟨fun h => V.str.inj h, fun h => congrArg V.str h⟩
theorem tk_len (k : Nat) (x : Str) (h : k ≤ x.length) : (tk k x).length = k := by
  have lx : x.cps.toList.length = x.length := Array.length_toList
  show (x.cps.toList.take k).toArray.size = k
  rw [List.size_toArray, List.length_take, lx, Nat.min_eq_left h]
theorem tk_whole (x : Str) : tk x.length x = x := str_ext (by rw [tk_list]; exact List.take_of_length_le (Nat.le_of_eq Array.length_toList))
theorem pre_tk (k : Nat) (x : Str) (h : k ≤ x.length) : pre (tk k x) x = true := by rw [pre_iff, tk_len k x h, tk_list]
theorem pre_le {t x : Str} (h : pre t x = true) : t.length ≤ x.length := by
  have lx : x.cps.toList.length = x.length := Array.length_toList
  have lt : t.cps.toList.length = t.length := Array.length_toList
  have := congrArg List.length (pre_iff.mp h)
  rw [List.length_take, lx, lt] at this
  omega
theorem pre_eq {t x : Str} (h : pre t x = true) : t = tk t.length x := (of_decide_eq_true h).symm
theorem pre_lt {t x : Str} (h : pre t x = true) (n : x ≠ t) : t.length < x.length := by
  rcases Nat.lt_or_ge t.length x.length with c | c
  · exact c
  · have e : t.length = x.length := Nat.le_antisymm (pre_le h) c
    exact absurd (by rw [pre_eq h, e, tk_whole]) n
theorem len_pos {t : Str} (h : t ≠ "") : 1 ≤ t.length := by
  rcases Nat.eq_zero_or_pos t.length with c | c
  · refine absurd (str_ext ?_) h
    have lt : t.cps.toList.length = t.length := Array.length_toList
    rw [c] at lt
    rw [List.eq_nil_of_length_eq_zero lt]
    rfl
  · exact c

/-! ### told -/
def toldO (os : List Opt) (short : Bool) (t : Str) : Option Opt :=
  match os.find? (fun o => decide (o.1 = t)) with
  | some o => some o
  | none => if short = true ∧ t ≠ "" ∧ (os.filter fun o => pre t o.1).length = 1 then (os.filter fun o => pre t o.1).head? else none
def lawO (os : List Opt) (short : Bool) (t : Str) : List Opt :=
  if os.filter (fun o => decide (o.1 = t)) ≠ [] ∨ short = false ∨ t = "" then os.filter (fun o => decide (o.1 = t))
  else if (os.filter fun o => pre t o.1).length = 1 then os.filter (fun o => pre t o.1) else []
/-- t shortens a name -/
def Shrt (os : List Opt) (short : Bool) (t : Str) : Prop := short = true ∧ t ≠ "" ∧ (∀ o ∈ os, o.1 ≠ t) ∧ ∃ o, (os.filter fun o => pre t o.1) = [o]
theorem told_mem {os : List Opt} {short : Bool} {t : Str} {o : Opt} (h : toldO os short t = some o) : o ∈ os := by
  unfold toldO at h
  split at h
  · next o' e => cases h; exact List.mem_of_find?_eq_some e
  · split at h
    · have := List.mem_of_mem_head? (Option.mem_def.mpr h)
      exact (List.mem_filter.mp this).1
    · cases h
theorem one_of_len {α : Type} {l : List α} (h : l.length = 1) : ∃ a, l = [a] := by
  match l, h with
  | [a], _ => exact ⟨a, rfl⟩
theorem shrt_prog {os : List Opt} {short : Bool} {t : Str} : ((∃ o ∈ os, ∃ k, 1 ≤ k ∧ k ≤ o.1.length ∧ t = tk k o.1) ∧ ∃ o, toldO os short t = some o ∧ o.1 ≠ t) ↔ Shrt os short t := by
  constructor
  · rintro ⟨_, o, h, n⟩
    unfold toldO at h
    split at h
    · next o' e =>
      cases h
      exact absurd (of_decide_eq_true (List.find?_some (p := fun o : Opt => decide (o.1 = t)) e)) n
    · next e =>
      split at h
      · next c =>
        refine ⟨c.1, c.2.1, fun o' ho' z => ?_, one_of_len c.2.2⟩
        have := List.find?_eq_none.mp e o' ho'
        exact this (decide_eq_true z)
      · cases h
  · rintro ⟨h1, h2, h3, o, h4⟩
    have ho : o ∈ os.filter fun o => pre t o.1 := by rw [h4]; exact List.mem_singleton.mpr rfl
    obtain ⟨m, hp⟩ := List.mem_filter.mp ho
    refine ⟨⟨o, m, t.length, len_pos h2, pre_le hp, pre_eq hp⟩, o, ?_, h3 o m⟩
    unfold toldO
    rw [List.find?_eq_none.mpr fun o' ho' => by simpa using h3 o' ho']
    show (if short = true ∧ t ≠ "" ∧ (os.filter fun o => pre t o.1).length = 1 then (os.filter fun o => pre t o.1).head? else none) = some o
    rw [h4, if_pos ⟨h1, h2, rfl⟩]
    rfl
theorem shrt_law {os : List Opt} {short : Bool} {t : Str} : ((∃ o ∈ os, ∃ k, 1 ≤ k ∧ k < o.1.length ∧ t = tk k o.1 ∧ (lawO os short t).map (·.1) = [o.1]) ∧ ∀ o ∈ os, o.1 ≠ t) ↔ Shrt os short t := by
  constructor
  · rintro ⟨⟨o, ho, k, _, _, _, e⟩, n⟩
    have w : os.filter (fun o => decide (o.1 = t)) = [] := List.filter_eq_nil_iff.mpr fun o' ho' => by simpa using n o' ho'
    unfold lawO at e
    rw [w] at e
    split at e
    · cases e
    · next c =>
      have c' : ¬ (short = false ∨ t = "") := fun z => c (.inr z)
      split at e
      · next l => exact ⟨by cases hs : short with | true => rfl | false => exact absurd (.inl hs) c', fun z => c' (.inr z), n, one_of_len l⟩
      · cases e
  · rintro ⟨h1, h2, h3, o, h4⟩
    have ho : o ∈ os.filter fun o => pre t o.1 := by rw [h4]; exact List.mem_singleton.mpr rfl
    obtain ⟨m, hp⟩ := List.mem_filter.mp ho
    refine ⟨⟨o, m, t.length, len_pos h2, pre_lt hp (h3 o m), pre_eq hp, ?_⟩, h3⟩
    have w : os.filter (fun o => decide (o.1 = t)) = [] := List.filter_eq_nil_iff.mpr fun o' ho' => by simpa using h3 o' ho'
    unfold lawO
    rw [w, h4, if_neg (by rintro (z | z | z); exact z rfl; rw [h1] at z; cases z; exact h2 z)]
    rfl

/-! ### what fits alone -/
def figL (l : Str) : Bool := match l.cps.toList with
  | [c] => decide (c ∈ FIGURES.cps.toList)
  | _ => false
def numG (g : Gr) : Bool := g.minus && !(g.os.any fun o => figL o.2.1)
def clash (os : List Opt) (w : Opt) : Bool := os.any fun o => decide (o.1 = w.1) || (decide (o.2.1 = w.2.1) && !decide (w.2.1 = ""))
noncomputable def barred (g : Gr) (x : Str) : Bool := @decide (∃ t, Shrt g.os g.short t ∧ pre t x = true) (Classical.propDecidable _)
noncomputable def fit1 (g : Gr) (w : Opt) : Bool := !clash g.os w && !barred g w.1 && !(numG g && !g.ps.isEmpty && figL w.2.1)
noncomputable def fitP (g : Gr) (ws : List Opt) : List Nat := (List.range ws.length).filter fun i => (ws[i]?).any fun w => fit1 g w
theorem barred_of {g : Gr} {x : Str} {bs : List Str} (h : ∀ t, t ∈ bs ↔ Shrt g.os g.short t) : (bs.any fun t => pre t x) = barred g x := by
  unfold barred
  rw [Bool.eq_iff_iff, @decide_eq_true_iff _ (Classical.propDecidable _), List.any_eq_true]
  exact ⟨fun ⟨t, ht, p⟩ => ⟨t, (h t).mp ht, p⟩, fun ⟨t, ht, p⟩ => ⟨t, (h t).mpr ht, p⟩⟩
theorem memS_snoc (x y : Str) (l : List Str) : memS x (l ++ [y]) = (memS x l || y == x) := by
  unfold memS
  rw [List.any_append]
  simp
theorem okFrom_snoc (w : Opt) : ∀ (os : List Opt) (ns ls : List Str), okFrom ns ls (os ++ [w]) = (okFrom ns ls os && !(memS w.1 (ns ++ os.map (·.1)) || memS w.2.1 (ls ++ (os.map (·.2.1)).filter fun l : Str => !decide (l = ""))))
  | [], ns, ls => by
    show (!(memS w.1 ns || memS w.2.1 ls) && true) = (true && !(memS w.1 (ns ++ []) || memS w.2.1 (ls ++ [])))
    rw [List.append_nil, List.append_nil, Bool.and_true, Bool.true_and]
  | o :: r, ns, ls => by
    show (!(memS o.1 ns || memS o.2.1 ls) && okFrom (ns ++ [o.1]) (if o.2.1 = "" then ls else ls ++ [o.2.1]) (r ++ [w])) = ((!(memS o.1 ns || memS o.2.1 ls) && okFrom (ns ++ [o.1]) (if o.2.1 = "" then ls else ls ++ [o.2.1]) r) && _)
    rw [okFrom_snoc w r, ← Bool.and_assoc, List.map_cons, List.map_cons, List.append_assoc, List.singleton_append]
    congr 3
    by_cases e : o.2.1 = ""
    · rw [if_pos e, List.filter_cons, decide_eq_true e]
      rfl
    · rw [if_neg e, List.filter_cons, decide_eq_false e, List.append_assoc]
      rfl
theorem clash_of (os : List Opt) (w : Opt) (h : okOpts os = true) : okOpts (os ++ [w]) = !clash os w := by
  unfold okOpts at h ⊢
  rw [okFrom_snoc, h, Bool.true_and]
  congr 1
  rw [List.nil_append, List.nil_append, Bool.eq_iff_iff, Bool.or_eq_true, memS_iff, memS_iff]
  unfold clash
  rw [List.any_eq_true]
  constructor
  · rintro (h | h)
    · obtain ⟨o, ho, e⟩ := List.mem_map.mp h
      exact ⟨o, ho, by rw [decide_eq_true e]; rfl⟩
    · obtain ⟨h1, h2⟩ := List.mem_filter.mp h
      obtain ⟨o, ho, e⟩ := List.mem_map.mp h1
      refine ⟨o, ho, ?_⟩
      rw [decide_eq_true e, Bool.true_and, h2, Bool.or_true]
  · rintro ⟨o, ho, e⟩
    rw [Bool.or_eq_true, Bool.and_eq_true] at e
    rcases e with e | ⟨e1, e2⟩
    · exact .inl (List.mem_map.mpr ⟨o, ho, of_decide_eq_true e⟩)
    · exact .inr (List.mem_filter.mpr ⟨List.mem_map.mpr ⟨o, ho, of_decide_eq_true e1⟩, e2⟩)
end W31

set_option maxHeartbeats 4000000
/-! Data that may be compared. -/
namespace W31
open PySem PySem.Spec PyProof.Rows L2
def Asc (x : Str) : Prop := ∀ c ∈ x.cps.toList, c < 128
theorem Asc.ok {x : Str} (h : Asc x) : PyData.strOk x = true := by
  unfold PyData.strOk
  rw [← Array.all_toList, List.all_eq_true]
  intro c hc
  have := h c hc
  exact decide_eq_true (by omega)
theorem Asc.tk {x : Str} (h : Asc x) (k : Nat) : Asc (tk k x) := fun c hc => h c (List.mem_of_mem_take (by rw [tk_list] at hc; exact hc))
theorem asc_signs : ∀ c ∈ (LETTERS ++ "-").cps.toList, c < 128 := by decide +kernel
theorem asc_lets : ∀ c ∈ (LETTERS ++ FIGURES).cps.toList, c < 128 := by decide +kernel
theorem NameOk.asc {x : Str} (h : NameOk x) : Asc x := fun c hc => asc_signs c (h.signs c hc)
theorem LetterOk.asc {x : Str} (h : LetterOk x) : Asc x := by
  rcases h with rfl | ⟨c, rfl, hc⟩
  · intro c hc; cases hc
  · intro d hd
    have : d = c := List.mem_singleton.mp hd
    subst this
    exact asc_lets d hc
theorem asc_dec {l : List Str} (h : (l.all fun x => x.cps.toList.all fun c => decide (c < 128)) = true) {x : Str} (m : x ∈ l) : Asc x := fun c hc => of_decide_eq_true (List.all_eq_true.mp (List.all_eq_true.mp h x m) c hc)
theorem kinds_asc {x : Str} (h : x ∈ kindsL) : Asc x := asc_dec (by decide +kernel) h
theorem arities_asc {x : Str} (h : x ∈ aritiesL) : Asc x := asc_dec (by decide +kernel) h
theorem Shrt.asc {os : List Opt} {short : Bool} {t : Str} (ok : ∀ o ∈ os, OptOk o) (h : Shrt os short t) : Asc t := by
  obtain ⟨_, _, _, o, e⟩ := h
  have ho : o ∈ os.filter fun o => pre t o.1 := by rw [e]; exact List.mem_singleton.mpr rfl
  obtain ⟨m, hp⟩ := List.mem_filter.mp ho
  rw [pre_eq hp]
  exact (ok o m).name.asc.tk _
/-- flat enough -/
structure Lay (d : PyData) (n : Nat) : Prop where
  lay : d.canLay0 = true
  depth : d.depth ≤ n
theorem Lay.shaped {d : PyData} {n : Nat} (h : Lay d n) (hn : n ≤ 64) : SeqAt.shaped d = true := by
  unfold SeqAt.shaped
  rw [h.lay, decide_eq_true (Nat.le_trans h.depth hn)]
  rfl
theorem lay_all {ds : List PyData} {n : Nat} (h : ∀ d ∈ ds, Lay d n) : PyData.canLayAll0 ds = true ∧ PyData.depthAll ds ≤ n := by
  induction ds with
  | nil => exact ⟨by simp [PyData.canLayAll0], by simp [PyData.depthAll]⟩
  | cons d r ih =>
    obtain ⟨h1, h2⟩ := ih fun e he => h e (List.mem_cons_of_mem _ he)
    have h3 := h d List.mem_cons_self
    refine ⟨by simp [PyData.canLayAll0, h1, h3.lay], ?_⟩
    simp only [PyData.depthAll]
    have := h3.depth
    omega
theorem lay_list {ds : List PyData} {n : Nat} (h : ∀ d ∈ ds, Lay d n) : Lay (.list ds) (n + 1) := ⟨by simp only [PyData.canLay0]; exact (lay_all h).1, by simp only [PyData.depth]; have := (lay_all h).2; omega⟩
theorem lay_tuple {ds : List PyData} {n : Nat} (h : ∀ d ∈ ds, Lay d n) : Lay (.tuple ds) (n + 1) := ⟨by simp only [PyData.canLay0]; exact (lay_all h).1, by simp only [PyData.depth]; have := (lay_all h).2; omega⟩
theorem lay_str {x : Str} (h : Asc x) : Lay (.str x) 0 := ⟨by simp only [PyData.canLay0]; exact h.ok, by simp [PyData.depth]⟩
theorem lay_int {i : Int} : Lay (.int i) 0 := ⟨by simp only [PyData.canLay0], by simp [PyData.depth]⟩
theorem lay_bool {b : Bool} : Lay (.bool b) 0 := ⟨by simp only [PyData.canLay0], by simp [PyData.depth]⟩
def strsD (l : List Str) : List PyData := l.map PyData.str
def intsD (l : List Int) : List PyData := l.map PyData.int
def optD (o : Opt) : PyData := .tuple [.str o.1, .str o.2.1, .str o.2.2]
def plcD (p : Plc) : PyData := .tuple [.str p.1, .str p.2]
theorem lay_strs {l : List Str} (h : ∀ x ∈ l, Asc x) : ∀ d ∈ strsD l, Lay d 0 := fun d hd => by obtain ⟨x, hx, rfl⟩ := List.mem_map.mp hd; exact lay_str (h x hx)
theorem lay_ints {l : List Int} : ∀ d ∈ intsD l, Lay d 0 := fun d hd => by obtain ⟨x, hx, rfl⟩ := List.mem_map.mp hd; exact lay_int
theorem lay_opt {o : Opt} (h : OptOk o) : Lay (optD o) 1 := lay_tuple fun d hd => by
  rcases List.mem_cons.mp hd with rfl | hd
  · exact lay_str h.name.asc
  rcases List.mem_cons.mp hd with rfl | hd
  · exact lay_str h.letter.asc
  rcases List.mem_cons.mp hd with rfl | hd
  · exact lay_str (kinds_asc h.kind)
  cases hd
theorem lay_plc {p : Plc} (h : PlcOk p) : Lay (plcD p) 1 := lay_tuple fun d hd => by
  rcases List.mem_cons.mp hd with rfl | hd
  · exact lay_str h.name.asc
  rcases List.mem_cons.mp hd with rfl | hd
  · exact lay_str (arities_asc h.arity)
  cases hd
theorem lay_opts {os : List Opt} (h : ∀ o ∈ os, OptOk o) : ∀ d ∈ os.map optD, Lay d 1 := fun d hd => by obtain ⟨o, ho, rfl⟩ := List.mem_map.mp hd; exact lay_opt (h o ho)
theorem lay_plcs {ps : List Plc} (h : ∀ p ∈ ps, PlcOk p) : ∀ d ∈ ps.map plcD, Lay d 1 := fun d hd => by obtain ⟨o, ho, rfl⟩ := List.mem_map.mp hd; exact lay_plc (h o ho)
section
variable {K : PySem.W.Frag} {H : Hp}
theorem dp_strs : ∀ l : List Str, DpAll K H (l.map V.str) (strsD l)
  | [] => .nil
  | x :: r => .cons (.str x) (dp_strs r)
theorem dp_ints : ∀ l : List Int, DpAll K H (l.map V.int) (intsD l)
  | [] => .nil
  | x :: r => .cons (.int x) (dp_ints r)
theorem dp_opt {v : V} {o : Opt} (h : OptA H v o) : Dp K H v (optD o) := by
  obtain ⟨a, rfl, ha⟩ := h
  exact .tup (SqT.of ha) (.cons (.str _) (.cons (.str _) (.cons (.str _) .nil)))
theorem dp_plc {v : V} {p : Plc} (h : PlcA H v p) : Dp K H v (plcD p) := by
  obtain ⟨a, rfl, ha⟩ := h
  exact .tup (SqT.of ha) (.cons (.str _) (.cons (.str _) .nil))
theorem dp_opts : ∀ {vs : List V} {os : List Opt}, Paired (OptA H) vs os → DpAll K H vs (os.map optD)
  | _, _, .nil => .nil
  | _, _, .cons r t => .cons (dp_opt r) (dp_opts t)
theorem dp_plcs : ∀ {vs : List V} {os : List Plc}, Paired (PlcA H) vs os → DpAll K H vs (os.map plcD)
  | _, _, .nil => .nil
  | _, _, .cons r t => .cons (dp_plc r) (dp_plcs t)
/-- x == [] or x != [], x a list -/
theorem eqE_to {a l : Addr} {xs : List V} {ds : List PyData} {n : Nat} {Q : VK} (ha : SqL K H a xs) (hd : DpAll K H xs ds) (hl : H l = some (.lst [])) (lay : ∀ d ∈ ds, Lay d n) (hn : n < 64) (q : Q (.bl ds.isEmpty) H) : rEqD K (.ref a) (.ref l) H Q :=
  ⟨.list ds, .list [], .lst ha hd, .lst (SqL.of hl) .nil, (lay_list lay).shaped hn, (lay_list (n := 0) fun d hd => by cases hd).shaped (by decide), by cases ds <;> simpa [PyData.eqv, PyData.eqvAll] using q⟩
theorem neE_to {a l : Addr} {xs : List V} {ds : List PyData} {n : Nat} {Q : VK} (ha : SqL K H a xs) (hd : DpAll K H xs ds) (hl : H l = some (.lst [])) (lay : ∀ d ∈ ds, Lay d n) (hn : n < 64) (q : Q (.bl (!ds.isEmpty)) H) : rNeD K (.ref a) (.ref l) H Q :=
  ⟨.list ds, .list [], .lst ha hd, .lst (SqL.of hl) .nil, (lay_list lay).shaped hn, (lay_list (n := 0) fun d hd => by cases hd).shaped (by decide), by cases ds <;> simpa [PyData.eqv, PyData.eqvAll] using q⟩
theorem eqT_to {a l : Addr} {xs : List V} {ds : List PyData} {n : Nat} {Q : VK} (ha : SqT K H a xs) (hd : DpAll K H xs ds) (hl : H l = some (.tup [])) (lay : ∀ d ∈ ds, Lay d n) (hn : n < 64) (q : Q (.bl ds.isEmpty) H) : rEqD K (.ref a) (.ref l) H Q :=
  ⟨.tuple ds, .tuple [], .tup ha hd, .tup (SqT.of hl) .nil, (lay_tuple lay).shaped hn, (lay_tuple (n := 0) fun d hd => by cases hd).shaped (by decide), by cases ds <;> simpa [PyData.eqv, PyData.eqvAll] using q⟩
theorem neT_to {a l : Addr} {xs : List V} {ds : List PyData} {n : Nat} {Q : VK} (ha : SqT K H a xs) (hd : DpAll K H xs ds) (hl : H l = some (.tup [])) (lay : ∀ d ∈ ds, Lay d n) (hn : n < 64) (q : Q (.bl (!ds.isEmpty)) H) : rNeD K (.ref a) (.ref l) H Q :=
  ⟨.tuple ds, .tuple [], .tup ha hd, .tup (SqT.of hl) .nil, (lay_tuple lay).shaped hn, (lay_tuple (n := 0) fun d hd => by cases hd).shaped (by decide), by cases ds <;> simpa [PyData.eqv, PyData.eqvAll] using q⟩
/-- a + b of two tuples -/
theorem catA_to {a b : Addr} {xs ys : List V} {Q : VK} (ha : H a = some (.tup xs)) (hb : H b = some (.tup ys)) (hz : xs.length + ys.length ≤ 1000) (k : ∀ c H', Same H H' → H' c = some (.tup (xs ++ ys)) → Q (.ref c) H') : rCatA K (.ref a) (.ref b) H Q :=
  ⟨a, b, xs, ys, rfl, rfl, SqT.of ha, SqT.of hb, by rw [sizeLine_eq]; omega, fun e => by subst e; exact k b H (Same.refl _) hb, fun _ e => by subst e; exact k a H (Same.refl _) (by rw [List.append_nil]; exact ha), fun _ _ p hp => k p _ (same_new hp _) upd_same⟩
end
theorem asg_ev {e : TE} {g : TG} {σ : L2.St} {H : Hp} {D : Ends} {v : V} (ev : ∀ Q : VK, (∀ H', Same H H' → Q v H') → e σ H Q) (k : ∀ H', Same H H' → g v σ H' D.nx) : tAsg e g D σ H := ev _ k
end W31

set_option maxHeartbeats 4000000
/-! option_told, has_figure, takes_numbers. -/
namespace W31
open PySem PySem.Spec PyProof.Rows L2
theorem fm_guard {α : Type} (p : α → Bool) : ∀ l : List α, l.filterMap (fun a => if p a = true then some a else none) = l.filter p
  | [] => rfl
  | a :: r => by
    rw [List.filterMap_cons, List.filter_cons, fm_guard p r]
    by_cases h : p a = true
    · rw [if_pos h, if_pos h]
    · rw [if_neg h, if_neg h]
def TldA (H : Hp) (r : V) : Option Opt → Prop
  | none => r = .non
  | some o => OptA H r o
def spOptionTold : Sp := fun vs H Q _ => ∃ (v : V) (g : Gr) (t : Str), vs = [v, .str t] ∧ GrA H v g ∧ g.os.length ≤ 24 ∧ ∀ r H', Same H H' → TldA H' r (toldO g.os g.short t) → Q r H'
def spHasFigure : Sp := fun vs H Q _ => ∃ (v : V) (g : Gr), vs = [v] ∧ GrA H v g ∧ (∀ o ∈ g.os, OptOk o) ∧ g.os.length ≤ 24 ∧ ∀ H', Same H H' → Q (.bl (g.os.any fun o => figL o.2.1)) H'
def spTakesNumbers : Sp := fun vs H Q _ => ∃ (v : V) (g : Gr), vs = [v] ∧ GrA H v g ∧ (∀ o ∈ g.os, OptOk o) ∧ g.os.length ≤ 24 ∧ ∀ H', Same H H' → Q (.bl (numG g)) H'
theorem told_found {os : List Opt} {short : Bool} {t : Str} {i : Nat} {o : Opt} (h : os[i]? = some o) (n : ∀ o ∈ os.take i, o.1 ≠ t) (e : o.1 = t) : toldO os short t = some o := by
  obtain ⟨hi, e'⟩ := List.getElem?_eq_some_iff.mp h
  have : os.find? (fun o => decide (o.1 = t)) = some o := by
    have sp : os = os.take i ++ o :: os.drop (i + 1) := by
      rw [← e', ← List.drop_eq_getElem_cons hi, List.take_append_drop]
    rw [sp, List.find?_append, List.find?_eq_none.mpr (fun o' ho' => by simpa using n o' ho'), List.find?_cons_of_pos (by exact decide_eq_true e)]
    rfl
  unfold toldO
  rw [this]
theorem told_less {os : List Opt} {short : Bool} {t : Str} (n : ∀ o ∈ os, o.1 ≠ t) : toldO os short t = if short = true ∧ t ≠ "" ∧ (os.filter fun o => pre t o.1).length = 1 then (os.filter fun o => pre t o.1).head? else none := by
  unfold toldO
  rw [List.find?_eq_none.mpr fun o' ho' => by simpa using n o' ho']
theorem str_ne {x y : Str} : (!decide (V.str x = V.str y)) = !decide (x = y) := by
  congr 1
  exact decide_eq_decide.mpr ⟨fun h => V.str.inj h, fun h => congrArg V.str h⟩
theorem str_eq {x y : Str} : decide (V.str x = V.str y) = decide (x = y) := decide_eq_decide.mpr ⟨fun h => V.str.inj h, fun h => congrArg V.str h⟩
theorem figL_empty : figL "" = false := rfl
theorem figL_one (c : Nat) : figL ⟨#[c]⟩ = decide (c ∈ FIGURES.cps.toList) := rfl
theorem one_ne (c : Nat) : (⟨#[c]⟩ : Str) ≠ "" := fun z => absurd (congrArg (fun y : Str => y.cps.size) z) (by show ¬ (1 = 0); decide)
section
variable {P : Program} {w : World} {K : PySem.W.Frag} {mg : Str → Option Value} {base : Heap} {C aK aA : Addr}
abbrev s_option_told : Stmt := top 25
abbrev N_option_told : List Str := ["grammar", "text", "option", "some"]
theorem sc_option_told : FnScope N_option_told ["grammar", "text"] (defScope s_option_told) := ⟨rfl, rfl, rfl, by decide +kernel, rfl, by decide +kernel, by decide +kernel⟩
theorem ok_option_told {f : Addr} {fd : FuncData} (F : Fun K "option_told" "option_told" s_option_told f fd) (b : Binds K fd ["grammar", "text"] []) (m : mg "option_told" = some (.ref f)) (T : Txt K mg C aK aA) :
    DefAt P w K mg base "option_told" 1 ["grammar", "text"] spOptionTold := by
  refine ⟨f, fd, F.ok sc_option_told (fun vs H Q E h => ?_) (fun cdv A outer s H vs Q E hr h => ?_), b, F.kp, m⟩
  · obtain ⟨v, g, t, rfl, _⟩ := h
    rfl
  obtain ⟨v, g, t, rfl, ⟨a, vo, vp, mm, rfl, ha, ⟨oa, vs, rfl, ho, pr⟩, hp, hm⟩, few, q⟩ := h
  have nd := sc_option_told.nd
  have hlen := Paired.len pr
  refine ⟨_, (pss_cons (ps_for PassesOwn.never rfl (pi_tupK K rfl (pe_ix (ix_tupK K rfl) (pv 0) pe_int (fun _ _ => rfl))) (pg_name (i := 2) nd rfl (Or.inl rfl))
    (pss_one (ps_if (pt_cmpR op_eq (pe_ix (ix_tupK K rfl) (pv 2) pe_int (fun _ _ => rfl)) (pv 1) (nomark _))
    (pss_one (ps_ret (pv 2)))
    pss_nil)))
    (pss_cons (ps_setLc (i := 3) (own := [("option", 2)]) (g := gName 2) rfl nd rfl rfl (sw_true rfl rfl rfl (by decide +kernel)) (pi_tupK K rfl (pe_ix (ix_tupK K rfl) (pv 0) pe_int (fun _ _ => rfl))) (blkOk_by (N := N_option_told) (sc := defScope s_option_told) (by decide +kernel)) (fun _ _ _ _ _ => (pg_name (i := 2) nd rfl (Or.inl rfl))) (fun _ _ _ _ _ => (pts_one (pt_val (pe_m1 PySem.F.slot_str_startswith PySem.F.type_str_startswith mt_startswith (pe_ix (ix_tupK K rfl) (pv 2) pe_int (fun _ _ => rfl)) (pv 1))))) (fun _ _ _ _ _ => (pv 2)))
    (pss_one (ps_ret (pe_ifExp (PW.pt (pw_and (pt_val (pe_ix (ix_tupK K rfl) (pe_ix (ix_tupK K rfl) (pv 0) pe_int (fun _ _ => rfl)) (pe_globI rfl T.SHORT) (fun _ _ => rfl))) (pw_and (pt_cmpR op_ne (pv 1) pe_str (nomark _)) (pw_and1 (pt_cmpR op_eq (pe_callB (call_lenK K rfl) (by rfl) T.n_len W31.boot_len (pa_cons (pv 3) pa_nil)) pe_int (nomark _)))))) (pe_ix (ix_listK K rfl) (pv 3) pe_int (fun _ _ => rfl)) pe_non))))), ?_⟩
  refine ⟨_, rfl, a, _, 0, _, rfl, rfl, SqT.of ha, atI_nat (j := 0) rfl, oa, rfl, ⟨_, SqT.of ho⟩, ?_⟩
  refine for_it walk_tup (fun i σ H' => ∃ (o1 o2 : Option V), σ = [some (.ref a), some (.str t), o1, o2] ∧ Same H H' ∧ ∀ o ∈ g.os.take i, o.1 ≠ t) ⟨none, none, rfl, Same.refl _, fun o ho => by cases ho⟩
    (fun i σ H' hi ⟨_, _, _, s, _⟩ => SqT.of (s _ _ ho)) ?_ ?_
  · rintro i x σ H1 H2 hi ⟨o1, o2, rfl, s, n⟩ ⟨rfl, hx⟩
    obtain ⟨o, ho', ⟨b, rfl, hb⟩⟩ := Paired.snd pr hx
    have hb1 := s _ _ hb
    refine ⟨_, rfl, b, _, 0, _, rfl, rfl, SqT.of hb1, atI_nat (j := 0) rfl, _, rfl, rfl, _, rfl, ?_⟩
    rw [str_eq]
    refine ite2 (fun c => ?_) (fun c => ?_)
    · refine ⟨_, rfl, ?_⟩
      refine q _ _ s ?_
      rw [told_found ho' n (of_decide_eq_true c)]
      exact ⟨b, rfl, hb1⟩
    · refine ⟨_, _, rfl, s, fun o'' h'' => ?_⟩
      rw [List.take_add_one, ho'] at h''
      rcases List.mem_append.mp h'' with h'' | h''
      · exact n o'' h''
      · obtain rfl := List.mem_singleton.mp h''
        exact fun z => c (decide_eq_true z)
  · rintro σ H1 ⟨o1, o2, rfl, s, n⟩
    rw [hlen, List.take_length] at n
    refine ⟨_, rfl, a, _, 0, _, rfl, rfl, SqT.of (s _ _ ha), atI_nat (j := 0) rfl, oa, rfl, ⟨_, SqT.of (s _ _ ho)⟩, ?_⟩
    refine lcT (R := OptA) (ds := g.os) (f := fun o => if pre t o.1 = true then some o else none) OptA.mn (SqT.of (s _ _ ho)) hlen (by omega) ?_ ?_
    · intro i x o H' hx ho' s' Q1 Q0 k1 k0
      obtain ⟨b, rfl, hb⟩ := Paired.at' pr hx ho'
      have hb' := s' _ _ (s _ _ hb)
      refine ⟨rfl, ?_⟩
      refine ⟨_, rfl, b, _, 0, _, rfl, rfl, SqT.of hb', atI_nat (j := 0) rfl, ⟨_, rfl⟩, _, rfl, o.1, t, rfl, rfl, _, rfl, ?_⟩
      rw [starts_pre]
      refine ite2 (fun c => ?_) (fun c => ?_)
      · exact ⟨_, rfl, k1 _ o _ (if_pos c) ⟨b, rfl, hb'⟩ (Same.refl _)⟩
      · exact k0 (if_neg c) _ (Same.refl _)
    · intro D H2 ys hD s2 hys pr2
      rw [fm_guard] at pr2
      have s3 := s.trans s2
      have hl2 := Paired.len pr2
      have no : ¬ (g.short = true ∧ t ≠ "" ∧ (g.os.filter fun o => pre t o.1).length = 1) → TldA H2 .non (toldO g.os g.short t) := fun c => by
        rw [told_less n, if_neg c]
        rfl
      refine ⟨_, rfl, a, _, 2, _, rfl, rfl, SqT.of (s3 _ _ ha), atI_nat (j := 2) rfl, mm, _, 0, _, rfl, rfl, SqT.of (s3 _ _ hm), atI_nat (j := 0) rfl, g.short, rfl, ?_⟩
      refine ite2 (fun c1 => ?_) (fun c1 => iteF (q _ _ s3 (no fun z => c1 z.1)))
      refine ⟨_, rfl, rfl, _, rfl, ?_⟩
      rw [str_ne]
      refine ite2 (fun c2 => ?_) (fun c2 => iteF (q _ _ s3 (no fun z => c2 (by rw [decide_eq_false z.2.1]; rfl))))
      refine ⟨_, rfl, D, _, rfl, .inl (SqL.of hys), rfl, _, rfl, ?_⟩
      refine ite2 (fun c3 => ?_) (fun c3 => ?_)
      · have l1 : ys.length = 1 := by
          have := of_decide_eq_true c3
          exact Int.ofNat.inj (V.int.inj this)
        have l2 : (g.os.filter fun o => pre t o.1).length = 1 := hl2.symm.trans l1
        obtain ⟨o, eo⟩ := one_of_len l2
        obtain ⟨y, ey⟩ := one_of_len l1
        rw [eo, ey] at pr2
        refine ⟨_, rfl, D, _, 0, y, rfl, rfl, SqL.of hys, by rw [ey]; exact atI_nat (j := 0) rfl, ?_⟩
        refine q _ _ s3 ?_
        rw [told_less n, if_pos ⟨c1, (fun z => by rw [decide_eq_true z] at c2; cases c2), l2⟩, eo]
        exact (Paired.at' pr2 (i := 0) rfl rfl : OptA H2 y o)
      · refine q _ _ s3 (no fun z => c3 ?_)
        exact decide_eq_true (congrArg V.int (congrArg Int.ofNat (hl2.trans z.2.2)))

abbrev s_has_figure : Stmt := top 26
abbrev N_has_figure : List Str := ["grammar", "option"]
theorem sc_has_figure : FnScope N_has_figure ["grammar"] (defScope s_has_figure) := ⟨rfl, rfl, rfl, by decide +kernel, rfl, by decide +kernel, by decide +kernel⟩
theorem ok_has_figure {f : Addr} {fd : FuncData} (F : Fun K "has_figure" "has_figure" s_has_figure f fd) (b : Binds K fd ["grammar"] []) (m : mg "has_figure" = some (.ref f)) (T : Txt K mg C aK aA) :
    DefAt P w K mg base "has_figure" 1 ["grammar"] spHasFigure := by
  refine ⟨f, fd, F.ok sc_has_figure (fun vs H Q E h => ?_) (fun cdv A outer s H vs Q E hr h => ?_), b, F.kp, m⟩
  · obtain ⟨v, g, rfl, _⟩ := h
    rfl
  obtain ⟨v, g, rfl, ⟨a, vo, vp, mm, rfl, ha, ⟨oa, vs, rfl, ho, pr⟩, hp, hm⟩, ok, few, q⟩ := h
  have nd := sc_has_figure.nd
  have hlen := Paired.len pr
  refine ⟨_, (pss_one (ps_ret (pe_callB (cr_any rfl) (by rfl) T.n_any W31.boot_any (pa_cons (pe_lc (own := [("option", 1)]) (g := gName 1) (tt := tYes) rfl nd (pi_tupK K rfl (pe_ix (ix_tupK K rfl) (pv 0) pe_int (fun _ _ => rfl))) (blkOk_by (N := N_has_figure) (sc := defScope s_has_figure) (by decide +kernel)) (fun _ _ _ _ _ => (pg_name (i := 1) nd rfl (Or.inl rfl))) (fun _ _ _ _ _ => pts_nil) (fun _ _ _ _ _ => (pe_and (pe_cmpR op_ne (pe_ix (ix_tupK K rfl) (pv 1) pe_int (fun _ _ => rfl)) pe_str (nomark _)) (pe_one (pe_cmpR op_in_sign (pe_ix (ix_tupK K rfl) (pv 1) pe_int (fun _ _ => rfl)) (pe_globS rfl T.FIGURES) rfl))))) pa_nil)))), ?_⟩
  refine ⟨_, rfl, a, _, 0, _, rfl, rfl, SqT.of ha, atI_nat (j := 0) rfl, oa, rfl, ⟨_, SqT.of ho⟩, ?_⟩
  refine lcT (R := BlA) (ds := g.os) (f := fun o => some (figL o.2.1)) BlA.mn (SqT.of ho) hlen (by omega) ?_ ?_
  · intro i x o H' hx ho' s' Q1 Q0 k1 k0
    obtain ⟨b, rfl, hb⟩ := Paired.at' pr hx ho'
    have hb' := s' _ _ hb
    refine ⟨rfl, ?_⟩
    refine ⟨_, rfl, b, _, 1, _, rfl, rfl, SqT.of hb', atI_nat (j := 1) rfl, rfl, ?_⟩
    rw [str_ne]
    rcases (ok o (List.mem_of_getElem? ho')).letter with e | ⟨c, e, hc⟩
    · refine ⟨false, by rw [decide_eq_true e]; rfl, ?_⟩
      refine k1 _ _ _ rfl ?_ (Same.refl _)
      rw [e]
      exact rfl
    · refine ⟨true, by rw [decide_eq_false (by rw [e]; exact one_ne c)]; rfl, ?_⟩
      refine ⟨_, rfl, b, _, 1, _, rfl, rfl, SqT.of hb', atI_nat (j := 1) rfl, c, FIGURES, by rw [e], rfl, ?_⟩
      refine k1 _ _ _ rfl ?_ (Same.refl _)
      rw [e, figL_one]
      exact rfl
  · intro D H2 ys hD s2 hys pr2
    rw [bls_map pr2, filterMap_some (g := fun o : Opt => figL o.2.1) _ fun _ _ => rfl] at hys
    refine ⟨D, _, rfl, SqL.of hys, ?_⟩
    rw [List.any_map]
    exact q _ s2

abbrev s_takes_numbers : Stmt := top 27
abbrev N_takes_numbers : List Str := ["grammar"]
theorem sc_takes_numbers : FnScope N_takes_numbers ["grammar"] (defScope s_takes_numbers) := ⟨rfl, rfl, rfl, by decide +kernel, rfl, by decide +kernel, by decide +kernel⟩
theorem ok_takes_numbers {f : Addr} {fd : FuncData} (F : Fun K "takes_numbers" "takes_numbers" s_takes_numbers f fd) (b : Binds K fd ["grammar"] []) (m : mg "takes_numbers" = some (.ref f)) (T : Txt K mg C aK aA)
    (Dhas_figure : DefAt P w K mg base "has_figure" 1 ["grammar"] spHasFigure) :
    DefAt P w K mg base "takes_numbers" 2 ["grammar"] spTakesNumbers := by
  refine ⟨f, fd, F.ok sc_takes_numbers (fun vs H Q E h => ?_) (fun cdv A outer s H vs Q E hr h => ?_), b, F.kp, m⟩
  · obtain ⟨v, g, rfl, _⟩ := h
    rfl
  obtain ⟨v, g, rfl, hg, ok, few, q⟩ := h
  have hg0 := hg
  obtain ⟨a, vo, vp, mm, rfl, ha, ho, hp, hm⟩ := hg
  have nd := sc_takes_numbers.nd
  refine ⟨_, (pss_one (ps_ret (pe_and (pe_ix (ix_tupK K rfl) (pe_ix (ix_tupK K rfl) (pv 0) pe_int (fun _ _ => rfl)) (pe_globI rfl T.MINUS) (fun _ _ => rfl)) (pe_one (pe_not (pe_callD Dhas_figure (hr.mono (by decide)) rfl (pa_cons (pv 0) pa_nil))))))), ?_⟩
  refine ⟨_, rfl, a, _, 2, _, rfl, rfl, SqT.of ha, atI_nat (j := 2) rfl, mm, _, 2, _, rfl, rfl, SqT.of hm, atI_nat (j := 2) rfl, ?_⟩
  cases hmi : g.minus with
  | false =>
    refine ⟨false, rfl, ?_⟩
    have := q _ (Same.refl _)
    unfold numG at this
    rwa [hmi] at this
  | true =>
    refine ⟨true, rfl, ?_⟩
    refine ⟨_, rfl, _, g, rfl, hg0, ok, few, fun H1 s1 => ?_⟩
    refine ⟨_, rfl, ?_⟩
    have := q _ s1
    unfold numG at this
    rwa [hmi] at this
end
end W31

/-! The pairing of names with partners, in plain Lean: what find does, that a failing find leaves a dead zone, the counting. -/
namespace W31

/-! ### lists -/
section
variable {A : Type} [DecidableEq A]
theorem nd_sub_len : ∀ {l l' : List A}, l.Nodup → (∀ x, x ∈ l → x ∈ l') → l.length ≤ l'.length
  | [], _, _, _ => Nat.zero_le _
  | a :: r, l', h, s => by
    obtain ⟨h1, h2⟩ := List.nodup_cons.mp h
    have ha : a ∈ l' := s a List.mem_cons_self
    have q := nd_sub_len (l := r) (l' := l'.erase a) h2 fun x hx => by
      have hne : x ≠ a := fun e => h1 (e ▸ hx)
      exact (List.mem_erase_of_ne hne).mpr (s x (List.mem_cons_of_mem _ hx))
    rw [List.length_erase_of_mem ha] at q
    have : 0 < l'.length := List.length_pos_of_mem ha
    simp only [List.length_cons]
    omega
theorem nd_same_len {l l' : List A} (h : l.Nodup) (h' : l'.Nodup) (s : ∀ x, x ∈ l ↔ x ∈ l') : l.length = l'.length :=
  Nat.le_antisymm (nd_sub_len h fun x q => (s x).mp q) (nd_sub_len h' fun x q => (s x).mpr q)
theorem nd_snoc1 : ∀ {l : List A} {a : A}, l.Nodup → a ∉ l → (l ++ [a]).Nodup := fun {l a} h n => by
  rw [List.nodup_append]
  exact ⟨h, by simp, fun x hx y hy e => n (by rw [List.mem_singleton] at hy; rw [← hy, ← e]; exact hx)⟩
end
section
variable {A B : Type}
theorem nd_map {f : A → B} : ∀ {l : List A}, l.Nodup → (∀ x, x ∈ l → ∀ y, y ∈ l → f x = f y → x = y) → (l.map f).Nodup
  | [], _, _ => by simp
  | a :: r, h, inj => by
    obtain ⟨h1, h2⟩ := List.nodup_cons.mp h
    rw [List.map_cons, List.nodup_cons]
    refine ⟨fun m => ?_, nd_map h2 fun x hx y hy e => inj x (List.mem_cons_of_mem _ hx) y (List.mem_cons_of_mem _ hy) e⟩
    obtain ⟨x, hx, e⟩ := List.mem_map.mp m
    exact h1 (inj x (List.mem_cons_of_mem _ hx) a List.mem_cons_self e ▸ hx)
end

/-! ### a table: pairs of a key and a value, in the order in which the keys came -/
section
variable {P B : Type} [DecidableEq P]
def look : List (P × B) → P → Option B
  | [], _ => none
  | (q, b) :: r, p => if q = p then some b else look r p
def put : List (P × B) → P → B → List (P × B)
  | [], p, b => [(p, b)]
  | (q, c) :: r, p, b => if q = p then (q, b) :: r else (q, c) :: put r p b
theorem look_put_same : ∀ (t : List (P × B)) (p : P) (b : B), look (put t p b) p = some b
  | [], p, b => by simp [put, look]
  | (q, c) :: r, p, b => by
    by_cases e : q = p
    · simp [put, look, e]
    · simp [put, look, e, look_put_same r p b]
theorem look_put_ne : ∀ (t : List (P × B)) {p q : P} (b : B), q ≠ p → look (put t p b) q = look t q
  | [], p, q, b, h => by simp [put, look, h.symm]
  | (x, c) :: r, p, q, b, h => by
    by_cases e : x = p
    · subst e; simp [put, look, h.symm]
    · by_cases e2 : x = q
      · subst e2; simp [put, look, e]
      · simp [put, look, e, e2, look_put_ne r b h]
theorem look_mem : ∀ {t : List (P × B)} {p : P} {b : B}, look t p = some b → (p, b) ∈ t
  | [], _, _, h => by simp [look] at h
  | (q, c) :: r, p, b, h => by
    by_cases e : q = p
    · simp [look, e] at h; subst h; subst e; exact List.mem_cons_self
    · simp [look, e] at h; exact List.mem_cons_of_mem _ (look_mem h)
theorem look_none : ∀ {t : List (P × B)} {p : P}, look t p = none → p ∉ t.map (·.1)
  | [], _, _ => by simp
  | (q, c) :: r, p, h => by
    by_cases e : q = p
    · simp [look, e] at h
    · simp only [look, e, if_false] at h
      have q2 := look_none h
      simp only [List.map_cons, List.mem_cons, not_or]
      exact ⟨fun z => e z.symm, q2⟩
theorem look_some_of_key {t : List (P × B)} {p : P} (h : p ∈ t.map (·.1)) : ∃ b, look t p = some b := by
  cases e : look t p with
  | none => exact absurd h (look_none e)
  | some b => exact ⟨b, rfl⟩
theorem mem_look : ∀ {t : List (P × B)} {p : P} {b : B}, (t.map (·.1)).Nodup → (p, b) ∈ t → look t p = some b
  | (q, c) :: r, p, b, nd, h => by
    obtain ⟨h1, h2⟩ := List.nodup_cons.mp (show (q :: r.map (·.1)).Nodup from nd)
    rcases List.mem_cons.mp h with e | h
    · cases e; simp [look]
    · have ne : q ≠ p := fun e => h1 (e ▸ List.mem_map.mpr ⟨(p, b), h, rfl⟩)
      simp [look, ne, mem_look h2 h]
theorem put_keys_some : ∀ {t : List (P × B)} {p : P} (b : B), p ∈ t.map (·.1) → (put t p b).map (·.1) = t.map (·.1)
  | (q, c) :: r, p, b, h => by
    by_cases e : q = p
    · simp [put, e]
    · have h' : p ∈ r.map (·.1) := by
        rcases List.mem_cons.mp (show p ∈ q :: r.map (·.1) from h) with z | z
        · exact absurd z.symm e
        · exact z
      simp [put, e, put_keys_some b h']
theorem put_keys_none : ∀ {t : List (P × B)} {p : P} (b : B), p ∉ t.map (·.1) → put t p b = t ++ [(p, b)]
  | [], p, b, _ => rfl
  | (q, c) :: r, p, b, h => by
    have h1 : ¬ q = p := fun e => h (by rw [e]; exact List.mem_cons_self)
    have h2 : p ∉ r.map (·.1) := fun z => h (List.mem_cons_of_mem _ z)
    simp [put, h1, put_keys_none b h2]
theorem put_nodup {t : List (P × B)} {p : P} (b : B) (h : (t.map (·.1)).Nodup) : ((put t p b).map (·.1)).Nodup := by
  by_cases m : p ∈ t.map (·.1)
  · rw [put_keys_some b m]; exact h
  · rw [put_keys_none b m, List.map_append]; exact nd_snoc1 h m
theorem put_len {t : List (P × B)} {p : P} (b : B) : (put t p b).length ≤ t.length + 1 := by
  by_cases m : p ∈ t.map (·.1)
  · have q := congrArg List.length (put_keys_some b m)
    rw [List.length_map, List.length_map] at q
    omega
  · rw [put_keys_none b m, List.length_append]; exact Nat.le_refl _
end

/-! ### find -/
section
variable {N P : Type} [DecidableEq N] [DecidableEq P] (nm : Nat → N) (ed : N → List (P × Nat))
abbrev Tk (P : Type) := List (P × Nat)
def tryE (rec : N → List P → Tk P → Bool × List P × Tk P) : List (P × Nat) → List P → Tk P → Bool × List P × Tk P
  | [], seen, t => (false, seen, t)
  | (p, n) :: r, seen, t =>
    if p ∈ seen then tryE rec r seen t
    else match look t p with
      | none => (true, seen ++ [p], put t p n)
      | some m => match rec (nm m) (seen ++ [p]) t with
        | (true, s2, t2) => (true, s2, put t2 p n)
        | (false, s2, t2) => tryE rec r s2 t2
def findN : Nat → N → List P → Tk P → Bool × List P × Tk P
  | 0, _, seen, t => (false, seen, t)
  | k + 1, x, seen, t => tryE nm (findN k) (ed x) seen t

/-- what is wanted ahead of a call -/
structure Pre (x : N) (seen : List P) (t : Tk P) : Prop where
  inj : ∀ p q m m', p ∉ seen → q ∉ seen → look t p = some m → look t q = some m' → nm m = nm m' → p = q
  out : ∀ p m, p ∉ seen → look t p = some m → nm m ≠ x
structure Post (x : N) (seen : List P) (t t' : Tk P) : Prop where
  same : ∀ p, p ∈ seen → look t' p = look t p
  inj : ∀ p q m m', p ∉ seen → q ∉ seen → look t' p = some m → look t' q = some m' → nm m = nm m' → p = q
  back : ∀ p m, p ∉ seen → look t' p = some m → nm m = x ∨ ∃ q m', q ∉ seen ∧ look t q = some m' ∧ nm m' = nm m
  forth : ∀ p m, p ∉ seen → look t p = some m → ∃ q m', q ∉ seen ∧ look t' q = some m' ∧ nm m' = nm m
  own : ∃ q m', q ∉ seen ∧ look t' q = some m' ∧ nm m' = x
variable {nm ed}
theorem Pre.more {x : N} {seen s2 : List P} {t : Tk P} (h : Pre nm x seen t) (s : ∀ p, p ∈ seen → p ∈ s2) : Pre nm x s2 t :=
  ⟨fun p q m m' hp hq => h.inj p q m m' (fun z => hp (s p z)) (fun z => hq (s q z)), fun p m hp => h.out p m fun z => hp (s p z)⟩
theorem Post.less {x : N} {seen s2 : List P} {t t' : Tk P} (h : Post nm x s2 t t') (a : Pre nm x seen t) (s : ∀ p, p ∈ seen → p ∈ s2) : Post nm x seen t t' where
  same := fun p hp => h.same p (s p hp)
  inj := fun p q m m' hp hq e1 e2 e => by
    have cross : ∀ p q m m', p ∉ seen → q ∉ seen → p ∈ s2 → q ∉ s2 → look t' p = some m → look t' q = some m' → nm m = nm m' → False := fun p q m m' hp hq h1 h2 e1 e2 e => by
      rw [h.same p h1] at e1
      rcases h.back q m' h2 e2 with z | ⟨q2, m2, hq2, e3, e4⟩
      · exact a.out p m hp e1 (e.trans z)
      · have := a.inj p q2 m m2 hp (fun z => hq2 (s _ z)) e1 e3 (e.trans e4.symm)
        exact hq2 (this ▸ h1)
    by_cases h1 : p ∈ s2
    · by_cases h2 : q ∈ s2
      · rw [h.same p h1] at e1
        rw [h.same q h2] at e2
        exact a.inj p q m m' hp hq e1 e2 e
      · exact (cross p q m m' hp hq h1 h2 e1 e2 e).elim
    · by_cases h2 : q ∈ s2
      · exact (cross q p m' m hq hp h2 h1 e2 e1 e.symm).elim
      · exact h.inj p q m m' h1 h2 e1 e2 e
  back := fun p m hp e1 => by
    by_cases h1 : p ∈ s2
    · rw [h.same p h1] at e1
      exact .inr ⟨p, m, hp, e1, rfl⟩
    · rcases h.back p m h1 e1 with z | ⟨q, m', hq, e2, e3⟩
      · exact .inl z
      · exact .inr ⟨q, m', fun z => hq (s _ z), e2, e3⟩
  forth := fun p m hp e1 => by
    by_cases h1 : p ∈ s2
    · exact ⟨p, m, hp, by rw [h.same p h1]; exact e1, rfl⟩
    · obtain ⟨q, m', hq, e2, e3⟩ := h.forth p m h1 e1
      exact ⟨q, m', fun z => hq (s _ z), e2, e3⟩
  own := by
    obtain ⟨q, m', hq, e2, e3⟩ := h.own
    exact ⟨q, m', fun z => hq (s _ z), e2, e3⟩
/-- a free partner is taken -/
theorem Post.free {x : N} {seen : List P} {t : Tk P} {p : P} {n : Nat} (a : Pre nm x seen t) (hp : p ∉ seen) (h0 : look t p = none) (hn : nm n = x) : Post nm x seen t (put t p n) where
  same := fun q hq => look_put_ne t n fun e => hp (by rw [← e]; exact hq)
  inj := fun q r m m' hq hr e1 e2 e => by
    by_cases h1 : q = p
    · by_cases h2 : r = p
      · rw [h1, h2]
      · rw [h1, look_put_same] at e1
        rw [look_put_ne t n h2] at e2
        cases e1
        exact absurd (e.symm.trans hn) (a.out r m' hr e2)
    · by_cases h2 : r = p
      · rw [h2, look_put_same] at e2
        rw [look_put_ne t n h1] at e1
        cases e2
        exact absurd (e.trans hn) (a.out q m hq e1)
      · rw [look_put_ne t n h1] at e1
        rw [look_put_ne t n h2] at e2
        exact a.inj q r m m' hq hr e1 e2 e
  back := fun q m hq e1 => by
    by_cases h1 : q = p
    · rw [h1, look_put_same] at e1
      cases e1
      exact .inl hn
    · rw [look_put_ne t n h1] at e1
      exact .inr ⟨q, m, hq, e1, rfl⟩
  forth := fun q m hq e1 => by
    have h1 : q ≠ p := fun e => by rw [e, h0] at e1; cases e1
    exact ⟨q, m, hq, by rw [look_put_ne t n h1]; exact e1, rfl⟩
  own := ⟨p, n, hp, look_put_same t p n, hn⟩
/-- a partner that was taken by a name that has found another one -/
theorem Post.moved {x : N} {seen : List P} {t t2 : Tk P} {p : P} {n m : Nat} (a : Pre nm x seen t) (hp : p ∉ seen) (h0 : look t p = some m) (hn : nm n = x) (h : Post nm (nm m) (seen ++ [p]) t t2) : Post nm x seen t (put t2 p n) := by
  have cut : ∀ {q : P}, q ∉ seen → q ≠ p → q ∉ seen ++ [p] := fun h1 h2 z => by
    rcases List.mem_append.mp z with z | z
    · exact h1 z
    · exact h2 (List.mem_singleton.mp z)
  have uncut : ∀ {q : P}, q ∉ seen ++ [p] → q ∉ seen ∧ q ≠ p := fun h => ⟨fun z => h (List.mem_append_left _ z), fun z => h (List.mem_append_right _ (List.mem_singleton.mpr z))⟩
  -- names outside: none of them is x
  have nox : ∀ q m', q ∉ seen → q ≠ p → look t2 q = some m' → nm m' ≠ x := fun q m' hq hne e1 e => by
    rcases h.back q m' (cut hq hne) e1 with z | ⟨r, m2, hr, e2, e3⟩
    · exact a.out p m hp h0 (z.symm.trans e)
    · exact a.out r m2 (uncut hr).1 e2 (e3.trans e)
  refine ⟨fun q hq => ?_, fun q r k k' hq hr e1 e2 e => ?_, fun q k hq e1 => ?_, fun q k hq e1 => ?_, ⟨p, n, hp, look_put_same t2 p n, hn⟩⟩
  · rw [look_put_ne t2 n fun e => hp (by rw [← e]; exact hq)]
    exact h.same q (List.mem_append_left _ hq)
  · by_cases h1 : q = p
    · by_cases h2 : r = p
      · rw [h1, h2]
      · rw [h1, look_put_same] at e1
        rw [look_put_ne t2 n h2] at e2
        cases e1
        exact absurd (e.symm.trans hn) (nox r k' hr h2 e2)
    · by_cases h2 : r = p
      · rw [h2, look_put_same] at e2
        rw [look_put_ne t2 n h1] at e1
        cases e2
        exact absurd (e.trans hn) (nox q k hq h1 e1)
      · rw [look_put_ne t2 n h1] at e1
        rw [look_put_ne t2 n h2] at e2
        exact h.inj q r k k' (cut hq h1) (cut hr h2) e1 e2 e
  · by_cases h1 : q = p
    · rw [h1, look_put_same] at e1
      cases e1
      exact .inl hn
    · rw [look_put_ne t2 n h1] at e1
      rcases h.back q k (cut hq h1) e1 with z | ⟨r, k', hr, e2, e3⟩
      · exact .inr ⟨p, m, hp, h0, z.symm⟩
      · exact .inr ⟨r, k', (uncut hr).1, e2, e3⟩
  · by_cases h1 : q = p
    · rw [h1, h0] at e1
      cases e1
      obtain ⟨r, k', hr, e2, e3⟩ := h.own
      exact ⟨r, k', (uncut hr).1, by rw [look_put_ne t2 n (uncut hr).2]; exact e2, e3⟩
    · obtain ⟨r, k', hr, e2, e3⟩ := h.forth q k (cut hq h1) e1
      exact ⟨r, k', (uncut hr).1, by rw [look_put_ne t2 n (uncut hr).2]; exact e2, e3⟩

/-- what a failing call has found -/
structure Fail (nm : Nat → N) (ed : N → List (P × Nat)) (x : N) (seen s2 : List P) (t t' : Tk P) : Prop where
  eq : t' = t
  sub : ∀ p, p ∈ seen → p ∈ s2
  all : ∀ p n, (p, n) ∈ ed x → p ∈ s2
  good : ∀ p, p ∈ s2 → p ∉ seen → ∃ m, look t p = some m ∧ ∀ q n, (q, n) ∈ ed (nm m) → q ∈ s2

/-- seen are partners, and k calls reach -/
structure Rm (ap : List P) (k : Nat) (seen : List P) : Prop where
  nd : seen.Nodup
  sub : ∀ p, p ∈ seen → p ∈ ap
  len : ap.length < seen.length + k
theorem Rm.pos {ap : List P} {seen : List P} (h : Rm ap 0 seen) : False := by
  have := nd_sub_len h.nd h.sub
  have := h.len
  omega
theorem Rm.next {ap : List P} {k : Nat} {seen : List P} {p : P} (h : Rm ap (k + 1) seen) (hp : p ∉ seen) (ha : p ∈ ap) : Rm ap k (seen ++ [p]) :=
  ⟨nd_snoc1 h.nd hp, fun q hq => (List.mem_append.mp hq).elim (h.sub q) fun z => by rw [List.mem_singleton.mp z]; exact ha, by rw [List.length_append, List.length_singleton]; have := h.len; omega⟩
/-- what a call gives -/
structure Gives (nm : Nat → N) (ed : N → List (P × Nat)) (ap : List P) (x : N) (seen : List P) (t : Tk P) (r : Bool × List P × Tk P) : Prop where
  nd : r.2.1.Nodup
  ins : ∀ p, p ∈ r.2.1 → p ∈ ap
  sub : ∀ p, p ∈ seen → p ∈ r.2.1
  yes : r.1 = true → Pre nm x seen t → Post nm x seen t r.2.2
  no : r.1 = false → Fail nm ed x seen r.2.1 t r.2.2
/-- the same of the turns over some edges -/
structure GivesE (nm : Nat → N) (ed : N → List (P × Nat)) (ap : List P) (x : N) (es : List (P × Nat)) (seen : List P) (t : Tk P) (r : Bool × List P × Tk P) : Prop where
  nd : r.2.1.Nodup
  ins : ∀ p, p ∈ r.2.1 → p ∈ ap
  sub : ∀ p, p ∈ seen → p ∈ r.2.1
  yes : r.1 = true → Pre nm x seen t → Post nm x seen t r.2.2
  eq : r.1 = false → r.2.2 = t
  all : r.1 = false → ∀ e, e ∈ es → e.1 ∈ r.2.1
  good : r.1 = false → ∀ p, p ∈ r.2.1 → p ∉ seen → ∃ m, look t p = some m ∧ ∀ q n, (q, n) ∈ ed (nm m) → q ∈ r.2.1

theorem tryE_gives {ap : List P} {k : Nat} {rec : N → List P → Tk P → Bool × List P × Tk P} {x : N} (hrec : ∀ y seen t, Rm ap k seen → Gives nm ed ap y seen t (rec y seen t)) (hx : ∀ p n, (p, n) ∈ ed x → nm n = x)
    (hap : ∀ p n, (p, n) ∈ ed x → p ∈ ap) :
    ∀ (es : List (P × Nat)) (seen : List P) (t : Tk P), (∀ e, e ∈ es → e ∈ ed x) → Rm ap (k + 1) seen → GivesE nm ed ap x es seen t (tryE nm rec es seen t)
  | [], seen, t, _, rm => ⟨rm.nd, rm.sub, fun _ h => h, fun h => (by simp [tryE] at h), fun _ => rfl, fun _ e he => (by simp at he), fun _ p h1 h2 => absurd h1 h2⟩
  | (p, n) :: r, seen, t, hs, rm => by
    have hs' : ∀ e, e ∈ r → e ∈ ed x := fun e he => hs e (List.mem_cons_of_mem _ he)
    have hn : nm n = x := hx p n (hs _ List.mem_cons_self)
    have hpa : p ∈ ap := hap p n (hs _ List.mem_cons_self)
    unfold tryE
    by_cases hp : p ∈ seen
    · rw [if_pos hp]
      have g := tryE_gives hrec hx hap r seen t hs' rm
      refine ⟨g.nd, g.ins, g.sub, g.yes, g.eq, fun h e he => ?_, g.good⟩
      rcases List.mem_cons.mp he with rfl | he
      · exact g.sub _ hp
      · exact g.all h e he
    · rw [if_neg hp]
      have rm1 := rm.next hp hpa
      cases h0 : look t p with
      | none => exact ⟨rm1.nd, rm1.sub, fun q hq => List.mem_append_left _ hq, fun _ a => Post.free a hp h0 hn, fun h => (by cases h), fun h => (by cases h), fun h => (by cases h)⟩
      | some m =>
        have g := hrec (nm m) (seen ++ [p]) t rm1
        show GivesE nm ed ap x ((p, n) :: r) seen t (match rec (nm m) (seen ++ [p]) t with
          | (true, s2, t2) => (true, s2, put t2 p n)
          | (false, s2, t2) => tryE nm rec r s2 t2)
        cases hr : rec (nm m) (seen ++ [p]) t with
        | mk b s =>
          obtain ⟨s2, t2⟩ := s
          rw [hr] at g
          cases b with
          | true =>
            refine ⟨g.nd, g.ins, fun q hq => g.sub q (List.mem_append_left _ hq), fun _ a => ?_, fun h => (by cases h), fun h => (by cases h), fun h => (by cases h)⟩
            refine Post.moved a hp h0 hn (g.yes rfl ⟨fun q r k k' hq hr => a.inj q r k k' (fun z => hq (List.mem_append_left _ z)) (fun z => hr (List.mem_append_left _ z)), fun q k hq e1 e => ?_⟩)
            have := a.inj q p k m (fun z => hq (List.mem_append_left _ z)) hp e1 h0 e
            exact hq (List.mem_append_right _ (List.mem_singleton.mpr this))
          | false =>
            have f := g.no rfl
            have e2 : t2 = t := f.eq
            subst e2
            have sub : ∀ q, q ∈ seen → q ∈ s2 := fun q hq => g.sub q (List.mem_append_left _ hq)
            have rm2 : Rm ap (k + 1) s2 := ⟨g.nd, g.ins, by
              have := nd_sub_len rm.nd sub
              have := rm.len
              omega⟩
            have h := tryE_gives hrec hx hap r s2 t2 hs' rm2
            refine ⟨h.nd, h.ins, fun q hq => h.sub q (sub q hq), fun e pre => (h.yes e (pre.more sub)).less pre sub, h.eq, fun e1 e he => ?_, fun e1 q hq hns => ?_⟩
            · rcases List.mem_cons.mp he with rfl | he
              · exact h.sub _ (g.sub _ (List.mem_append_right _ (List.mem_singleton.mpr rfl)))
              · exact h.all e1 e he
            · by_cases hq2 : q ∈ s2
              · by_cases hqp : q ∈ seen ++ [p]
                · have eq : q = p := by
                    rcases List.mem_append.mp hqp with z | z
                    · exact absurd z hns
                    · exact List.mem_singleton.mp z
                  exact ⟨m, by rw [eq]; exact h0, fun q' n' hq' => h.sub _ (f.all q' n' hq')⟩
                · obtain ⟨m2, e1, e2⟩ := f.good q hq2 hqp
                  exact ⟨m2, e1, fun q' n' hq' => h.sub _ (e2 q' n' hq')⟩
              · exact h.good e1 q hq hq2
theorem findN_gives {ap : List P} (hx : ∀ x p n, (p, n) ∈ ed x → nm n = x) (hap : ∀ x p n, (p, n) ∈ ed x → p ∈ ap) : ∀ (k : Nat) (x : N) (seen : List P) (t : Tk P), Rm ap k seen → Gives nm ed ap x seen t (findN nm ed k x seen t)
  | 0, _, _, _, rm => rm.pos.elim
  | k + 1, x, seen, t, rm => by
    have g := tryE_gives (x := x) (fun y s t' r => findN_gives hx hap k y s t' r) (hx x) (hap x) (ed x) seen t (fun _ h => h) rm
    exact ⟨g.nd, g.ins, g.sub, g.yes, fun h => ⟨g.eq h, g.sub, fun p n he => g.all h _ he, g.good h⟩⟩

/-! ### names that are dead: none of them ever gets a partner any more -/
def Closed (nm : Nat → N) (ed : N → List (P × Nat)) (t : Tk P) (D : N → Prop) : Prop := ∀ d, D d → ∀ p n, (p, n) ∈ ed d → ∃ m, look t p = some m ∧ D (nm m)
def Dead (nm : Nat → N) (ed : N → List (P × Nat)) (t : Tk P) (x : N) : Prop := ∃ D, Closed nm ed t D ∧ D x
theorem dead_closed (t : Tk P) : Closed nm ed t (Dead nm ed t) := fun d ⟨D, c, hd⟩ p n h => by
  obtain ⟨m, e, q⟩ := c d hd p n h
  exact ⟨m, e, D, c, q⟩
/-- a name out of a closed set finds none; one ahead of it changes nothing there -/
structure Apart (nm : Nat → N) (D : N → Prop) (x : N) (t : Tk P) (r : Bool × List P × Tk P) : Prop where
  no : D x → r.1 = false ∧ r.2.2 = t
  fail : r.1 = false → r.2.2 = t
  keep : ∀ p m, look t p = some m → D (nm m) → look r.2.2 p = some m
theorem tryE_apart {D : N → Prop} {rec : N → List P → Tk P → Bool × List P × Tk P} {x : N} {t : Tk P} (c : Closed nm ed t D) (hrec : ∀ y seen, Apart nm D y t (rec y seen t)) :
    ∀ (es : List (P × Nat)) (seen : List P), (∀ e, e ∈ es → e ∈ ed x) → Apart nm D x t (tryE nm rec es seen t)
  | [], seen, _ => ⟨fun _ => ⟨rfl, rfl⟩, fun _ => rfl, fun _ _ h _ => h⟩
  | (p, n) :: r, seen, hs => by
    have hs' : ∀ e, e ∈ r → e ∈ ed x := fun e he => hs e (List.mem_cons_of_mem _ he)
    unfold tryE
    by_cases hp : p ∈ seen
    · rw [if_pos hp]
      exact tryE_apart c hrec r seen hs'
    · rw [if_neg hp]
      cases h0 : look t p with
      | none =>
        refine ⟨fun hd => ?_, fun h => (by cases h), fun q m e _ => ?_⟩
        · obtain ⟨m, e, _⟩ := c x hd p n (hs _ List.mem_cons_self)
          rw [h0] at e
          cases e
        · show look (put t p n) q = some m
          rw [look_put_ne t n fun z => by rw [z, h0] at e; cases e]
          exact e
      | some m =>
        have g := hrec (nm m) (seen ++ [p])
        show Apart nm D x t (match rec (nm m) (seen ++ [p]) t with
          | (true, s2, t2) => (true, s2, put t2 p n)
          | (false, s2, t2) => tryE nm rec r s2 t2)
        cases hr : rec (nm m) (seen ++ [p]) t with
        | mk b s =>
          obtain ⟨s2, t2⟩ := s
          rw [hr] at g
          cases b with
          | true =>
            have hm : ¬ D (nm m) := fun z => by cases (g.no z).1
            refine ⟨fun hd => ?_, fun h => (by cases h), fun q k e hk => ?_⟩
            · obtain ⟨m', e, q⟩ := c x hd p n (hs _ List.mem_cons_self)
              rw [h0] at e
              cases e
              exact absurd q hm
            · show look (put t2 p n) q = some k
              rw [look_put_ne t2 n fun z => by rw [z, h0] at e; cases e; exact hm hk]
              exact g.keep q k e hk
          | false =>
            have e2 : t2 = t := g.fail rfl
            subst e2
            exact tryE_apart c hrec r s2 hs'
theorem findN_apart {D : N → Prop} {t : Tk P} (c : Closed nm ed t D) : ∀ (k : Nat) (x : N) (seen : List P), Apart nm D x t (findN nm ed k x seen t)
  | 0, _, _ => ⟨fun _ => ⟨rfl, rfl⟩, fun _ => rfl, fun _ _ h _ => h⟩
  | k + 1, x, seen => tryE_apart c (fun y s => findN_apart c k y s) (ed x) seen fun _ h => h
theorem dead_stays {t : Tk P} {k : Nat} {x y : N} {seen : List P} (h : Dead nm ed t y) : Dead nm ed (findN nm ed k x seen t).2.2 y := by
  obtain ⟨D, c, hy⟩ := h
  refine ⟨D, fun d hd p n he => ?_, hy⟩
  obtain ⟨m, e, q⟩ := c d hd p n he
  exact ⟨m, (findN_apart c k x seen).keep p m e q, q⟩

/-! ### what stands in the table -/
theorem tryE_all {rec : N → List P → Tk P → Bool × List P × Tk P} {W : P → Nat → Prop} (hrec : ∀ y seen t, (∀ e, e ∈ t → W e.1 e.2) → ∀ e, e ∈ (rec y seen t).2.2 → W e.1 e.2)
    (hput : ∀ (t : Tk P) p n, (∀ e, e ∈ t → W e.1 e.2) → W p n → ∀ e, e ∈ put t p n → W e.1 e.2) :
    ∀ (es : List (P × Nat)) (seen : List P) (t : Tk P), (∀ e, e ∈ es → W e.1 e.2) → (∀ e, e ∈ t → W e.1 e.2) → ∀ e, e ∈ (tryE nm rec es seen t).2.2 → W e.1 e.2
  | [], _, _, _, h => h
  | (p, n) :: r, seen, t, he, h => by
    have he' : ∀ e, e ∈ r → W e.1 e.2 := fun e q => he e (List.mem_cons_of_mem _ q)
    unfold tryE
    by_cases hp : p ∈ seen
    · rw [if_pos hp]
      exact tryE_all hrec hput r seen t he' h
    · rw [if_neg hp]
      cases h0 : look t p with
      | none => exact hput t p n h (he _ List.mem_cons_self)
      | some m =>
        have g := hrec (nm m) (seen ++ [p]) t h
        show ∀ e, e ∈ (match rec (nm m) (seen ++ [p]) t with
          | (true, s2, t2) => (true, s2, put t2 p n)
          | (false, s2, t2) => tryE nm rec r s2 t2).2.2 → W e.1 e.2
        cases hr : rec (nm m) (seen ++ [p]) t with
        | mk b s =>
          obtain ⟨s2, t2⟩ := s
          rw [hr] at g
          cases b with
          | true => exact hput t2 p n g (he _ List.mem_cons_self)
          | false => exact tryE_all hrec hput r s2 t2 he' g
theorem put_all {W : P → Nat → Prop} : ∀ (t : Tk P) p n, (∀ e, e ∈ t → W e.1 e.2) → W p n → ∀ e, e ∈ put t p n → W e.1 e.2
  | [], p, n, _, w, e, he => by
    rw [List.mem_singleton.mp he]
    exact w
  | (q, c) :: r, p, n, h, w, e, he => by
    unfold put at he
    by_cases hq : q = p
    · rw [if_pos hq] at he
      rcases List.mem_cons.mp he with rfl | he
      · show W q n
        rw [hq]
        exact w
      · exact h e (List.mem_cons_of_mem _ he)
    · rw [if_neg hq] at he
      rcases List.mem_cons.mp he with rfl | he
      · exact h _ List.mem_cons_self
      · exact put_all r p n (fun e q => h e (List.mem_cons_of_mem _ q)) w e he
/-- each entry is an edge -/
theorem findN_all {W : P → Nat → Prop} (hed : ∀ x (e : P × Nat), e ∈ ed x → W e.1 e.2) : ∀ (k : Nat) (x : N) (seen : List P) (t : Tk P), (∀ e, e ∈ t → W e.1 e.2) → ∀ e, e ∈ (findN nm ed k x seen t).2.2 → W e.1 e.2
  | 0, _, _, _, h => h
  | k + 1, x, seen, t, h => tryE_all (fun y s t' h' => findN_all hed k y s t' h') put_all (ed x) seen t (hed x) h
theorem tryE_keys {rec : N → List P → Tk P → Bool × List P × Tk P} (hrec : ∀ y seen t, (t.map (·.1)).Nodup → ((rec y seen t).2.2.map (·.1)).Nodup) :
    ∀ (es : List (P × Nat)) (seen : List P) (t : Tk P), (t.map (·.1)).Nodup → ((tryE nm rec es seen t).2.2.map (·.1)).Nodup
  | [], _, _, h => h
  | (p, n) :: r, seen, t, h => by
    unfold tryE
    by_cases hp : p ∈ seen
    · rw [if_pos hp]
      exact tryE_keys hrec r seen t h
    · rw [if_neg hp]
      cases h0 : look t p with
      | none => exact put_nodup n h
      | some m =>
        have g := hrec (nm m) (seen ++ [p]) t h
        show (List.map (fun e : P × Nat => e.1) ((match rec (nm m) (seen ++ [p]) t with
          | (true, s2, t2) => (true, s2, put t2 p n)
          | (false, s2, t2) => tryE nm rec r s2 t2 : Bool × List P × Tk P)).2.2).Nodup
        cases hr : rec (nm m) (seen ++ [p]) t with
        | mk b s =>
          obtain ⟨s2, t2⟩ := s
          rw [hr] at g
          cases b with
          | true => exact put_nodup n g
          | false => exact tryE_keys hrec r s2 t2 g
theorem findN_keys : ∀ (k : Nat) (x : N) (seen : List P) (t : Tk P), (t.map (·.1)).Nodup → ((findN nm ed k x seen t).2.2.map (·.1)).Nodup
  | 0, _, _, _, h => h
  | k + 1, x, seen, t, h => tryE_keys (fun y s t' h' => findN_keys k y s t' h') (ed x) seen t h
end
end W31

set_option maxHeartbeats 4000000
/-! tellings_of, shortenings. -/
namespace W31
open PySem PySem.Spec PyProof.Rows L2
/-- the heads of a name, of names -/
def heads (x : Str) : List Str := (List.range x.length).map fun k => tk (k + 1) x
def headsAll (os : List Opt) : List Str := os.flatMap fun o => heads o.1
theorem heads_len (x : Str) : (heads x).length = x.length := by unfold heads; rw [List.length_map, List.length_range]
theorem headsAll_len : ∀ os : List Opt, (∀ o ∈ os, o.1.length ≤ 12) → (headsAll os).length ≤ 12 * os.length
  | [], _ => Nat.le_refl _
  | o :: r, h => by
    unfold headsAll
    rw [List.flatMap_cons, List.length_append, heads_len, List.length_cons]
    have := headsAll_len r fun o ho => h o (List.mem_cons_of_mem _ ho)
    unfold headsAll at this
    have := h o List.mem_cons_self
    omega
theorem mem_headsAll {os : List Opt} {t : Str} : t ∈ headsAll os ↔ ∃ o ∈ os, ∃ k, 1 ≤ k ∧ k ≤ o.1.length ∧ t = tk k o.1 := by
  unfold headsAll heads
  rw [List.mem_flatMap]
  constructor
  · rintro ⟨o, ho, h⟩
    obtain ⟨k, hk, rfl⟩ := List.mem_map.mp h
    exact ⟨o, ho, k + 1, by omega, List.mem_range.mp hk, rfl⟩
  · rintro ⟨o, ho, k, h1, h2, rfl⟩
    exact ⟨o, ho, List.mem_map.mpr ⟨k - 1, List.mem_range.mpr (by omega), by rw [Nat.sub_add_cancel h1]⟩⟩
def tellK (os : List Opt) (short : Bool) (ss : List Str) : List (Str × Str) := ss.filterMap fun t => (toldO os short t).map fun o => (t, o.1)
def kvS (ms : List (Str × Str)) : List (Key × V) := ms.map fun p => (Sum.inr p.1, V.str p.2)
theorem tellK_fst {os : List Opt} {short : Bool} {ss : List Str} {p : Str × Str} (h : p ∈ tellK os short ss) : p.1 ∈ ss := by
  obtain ⟨t, ht, e⟩ := List.mem_filterMap.mp h
  cases ho : toldO os short t with
  | none => rw [ho] at e; cases e
  | some o => rw [ho] at e; cases e; exact ht
theorem kvS_none {ms : List (Str × Str)} {t : Str} (h : ∀ p ∈ ms, p.1 ≠ t) : valV (kvS ms) (Sum.inr t) = none := by
  have e := valV_any (Sum.inr t : Key) (kvS ms)
  cases hv : valV (kvS ms) (Sum.inr t) with
  | none => rfl
  | some v =>
    rw [hv] at e
    obtain ⟨kv, hm, hd⟩ := List.any_eq_true.mp e
    obtain ⟨p, hp, rfl⟩ := List.mem_map.mp hm
    exact absurd (Sum.inr.inj (of_decide_eq_true hd)) (h p hp)
theorem kvS_val : ∀ {ms : List (Str × Str)} {p : Str × Str}, (ms.map (·.1)).Nodup → p ∈ ms → valV (kvS ms) (Sum.inr p.1) = some (.str p.2)
  | [], _, _, h => by cases h
  | q :: r, p, nd, h => by
    rw [List.map_cons, List.nodup_cons] at nd
    rcases List.mem_cons.mp h with rfl | h
    · exact valV_pos rfl
    · have : ¬ (Sum.inr q.1 : Key) = Sum.inr p.1 := fun z => nd.1 (by rw [Sum.inr.inj z]; exact List.mem_map.mpr ⟨p, h, rfl⟩)
      exact (valV_neg this).trans (kvS_val nd.2 h)
theorem tellK_nd {os : List Opt} {short : Bool} : ∀ {ss : List Str}, ss.Nodup → ((tellK os short ss).map (·.1)).Nodup
  | [], _ => List.nodup_nil
  | t :: r, nd => by
    rw [List.nodup_cons] at nd
    unfold tellK
    rw [List.filterMap_cons]
    cases ho : toldO os short t with
    | none => exact tellK_nd nd.2
    | some o =>
      show ((t, o.1) :: tellK os short r |>.map (·.1)).Nodup
      rw [List.map_cons, List.nodup_cons]
      refine ⟨fun h => ?_, tellK_nd nd.2⟩
      obtain ⟨p, hp, e⟩ := List.mem_map.mp h
      exact nd.1 (by rw [← show p.1 = t from e]; exact tellK_fst hp)
structure GrSm (g : Gr) : Prop where
  ok : GrOk g
  few : g.os.length ≤ 3
def spTellings : Sp := fun vs H Q _ => ∃ (v : V) (g : Gr), vs = [v] ∧ GrA H v g ∧ GrSm g ∧
  ∀ (d : Addr) (H' : Hp) (ss : List Str), Same H H' → H d = none → ss.Nodup → ss.length ≤ 36 → (∀ t, t ∈ ss ↔ t ∈ headsAll g.os) → H' d = some (.dK (kvS (tellK g.os g.short ss))) → Q (.ref d) H'
def spShortenings : Sp := fun vs H Q _ => ∃ (v : V) (g : Gr), vs = [v] ∧ GrA H v g ∧ GrSm g ∧
  ∀ (l : Addr) (H' : Hp) (bs : List Str), Same H H' → H l = none → (∀ t, t ∈ bs ↔ Shrt g.os g.short t) → bs.length ≤ 36 → H' l = some (.lst (bs.map V.str)) → Q (.ref l) H'
theorem tellK_len (os : List Opt) (short : Bool) (ss : List Str) : (tellK os short ss).length ≤ ss.length := List.length_filterMap_le _ _
section
variable {P : Program} {w : World} {K : PySem.W.Frag} {mg : Str → Option Value} {base : Heap} {C aK aA : Addr}
abbrev s_tellings_of : Stmt := top 28
abbrev N_tellings_of : List Str := ["grammar", "some", "found", "text", "option", "many"]
theorem sc_tellings_of : FnScope N_tellings_of ["grammar"] (defScope s_tellings_of) := ⟨rfl, rfl, rfl, by decide +kernel, rfl, by decide +kernel, by decide +kernel⟩
theorem ok_tellings_of {f : Addr} {fd : FuncData} (F : Fun K "tellings_of" "tellings_of" s_tellings_of f fd) (b : Binds K fd ["grammar"] []) (m : mg "tellings_of" = some (.ref f)) (T : Txt K mg C aK aA)
    (Doption_told : DefAt P w K mg base "option_told" 1 ["grammar", "text"] spOptionTold) :
    DefAt P w K mg base "tellings_of" 2 ["grammar"] spTellings := by
  refine ⟨f, fd, F.ok sc_tellings_of (fun vs H Q E h => ?_) (fun cdv A outer s H vs Q E hr h => ?_), b, F.kp, m⟩
  · obtain ⟨v, g, rfl, _⟩ := h
    rfl
  obtain ⟨v, g, rfl, hg, sm, q⟩ := h
  have hg0 := hg
  obtain ⟨a, vo, vp, mm, rfl, ha, ⟨oa, vs, rfl, ho, pr⟩, hp, hm⟩ := hg
  have nd := sc_tellings_of.nd
  have hu := hu_of hr
  have hlen := Paired.len pr
  have h12 : ∀ o ∈ g.os, o.1.length ≤ 12 := fun o ho => (sm.ok.os o ho).name.hi
  have hal := headsAll_len g.os h12
  have few := sm.few
  refine ⟨_, (pss_cons (ps_set (i := 1) nd rfl (Or.inl rfl) (pe_callB (cr_sortMS rfl) (by rfl) T.n_sorted W31.boot_sorted (pa_cons (pe_callTy (cr_setM rfl) (by rfl) T.n_set W31.boot_set (pa_cons (pe_lc2 (own := [("option", 4), ("many", 5)]) (vs1 := [5]) (g := gName 4) (g1 := gName 5) (tt := tYes) (tt1 := tYes) rfl nd (pi_tupK K rfl (pe_ix (ix_tupK K rfl) (pv 0) pe_int (fun _ _ => rfl))) (blkOk_by (N := N_tellings_of) (sc := defScope s_tellings_of) (by decide +kernel)) (by decide) (fun _ _ _ _ _ => (pg_name (i := 4) nd rfl (Or.inl rfl))) (fun _ _ _ _ _ => pts_nil) (fun _ _ _ _ _ => (pi_range2 (by rfl) T.n_range (pa_cons pe_int (pa_cons (pe_op op_add (pe_callB call_lenS (by rfl) T.n_len W31.boot_len (pa_cons (pe_ix (ix_tupK K rfl) (pv 4) pe_int (fun _ _ => rfl)) pa_nil)) pe_int) pa_nil)))) (fun _ _ _ _ _ => (pg_name (i := 5) nd rfl (Or.inl rfl))) (fun _ _ _ _ _ => pts_nil) (fun _ _ _ _ _ => (pe_slice sl_str (pe_ix (ix_tupK K rfl) (pv 4) pe_int (fun _ _ => rfl)) po_none (po_some (pv 5))))) pa_nil)) pa_nil)))
    (pss_cons (ps_set (i := 2) nd rfl (Or.inl rfl) pe_dnewK)
    (pss_cons (ps_for PassesOwn.never rfl (pi_listK K rfl (pv 1)) (pg_name (i := 3) nd rfl (Or.inl rfl))
    (pss_cons (ps_set (i := 4) nd rfl (Or.inl rfl) (pe_callD Doption_told (hr.mono (by decide)) rfl (pa_cons (pv 0) (pa_cons (pv 3) pa_nil))))
    (pss_one (ps_if (pt_cmpR op_notN (pv 4) pe_non (nomark _))
    (pss_one (ps_dput hu (pv 2) (pv 3) (pe_ix (ix_tupK K rfl) (pv 4) pe_int (fun _ _ => rfl)) rfl))
    pss_nil))))
    (pss_one (ps_ret (pv 2)))))), ?_⟩
  refine ⟨_, rfl, a, _, 0, _, rfl, rfl, SqT.of ha, atI_nat (j := 0) rfl, oa, rfl, ⟨_, SqT.of ho⟩, ?_⟩
  intro D hD
  refine ⟨fun i m H1 => m = vs.length - i ∧ i ≤ vs.length ∧ Same H H1 ∧ H1 D = some (.lst ((headsAll (g.os.take i)).map V.str)), ⟨_, rfl, Nat.zero_le _, same_new hD _, upd_same⟩, ?_⟩
  rintro i m H1 ⟨rfl, hi, s, hd⟩
  by_cases hlt : i < vs.length
  · refine .inr ⟨walk_tup.goes i H1 hlt (SqT.of (s _ _ ho)), fun H' => i + 1 ≤ vs.length ∧ Same H H' ∧ H' D = some (.lst ((headsAll (g.os.take (i + 1))).map V.str)), fun H' ⟨z1, z2, z3⟩ => ⟨vs.length - (i + 1), by omega, rfl, z1, z2, z3⟩, fun x H' y => ?_⟩
    obtain ⟨rfl, hx⟩ := walk_tup.yields i H1 x H' hlt (SqT.of (s _ _ ho)) y
    obtain ⟨o, ho', ⟨b, rfl, hb⟩⟩ := Paired.snd pr hx
    have oin : o ∈ g.os := List.mem_of_getElem? ho'
    have hb1 := s _ _ hb
    have l12 := h12 o oin
    have tk1 : g.os.take (i + 1) = g.os.take i ++ [o] := by rw [List.take_add_one, ho']; rfl
    have ha1 : headsAll (g.os.take (i + 1)) = headsAll (g.os.take i) ++ heads o.1 := by
      rw [tk1]
      unfold headsAll
      rw [List.flatMap_append]
      simp
    have sub : (headsAll (g.os.take i)).length ≤ 12 * 3 := Nat.le_trans (headsAll_len _ fun o ho => h12 o (List.mem_of_mem_take ho)) (Nat.mul_le_mul_left _ (Nat.le_trans (List.length_take_le _ _) (by omega)))
    refine ⟨rfl, ?_⟩
    refine ⟨_, rfl, b, _, 0, _, rfl, rfl, SqT.of hb1, atI_nat (j := 0) rfl, o.1, rfl, by rw [sizeLine_eq]; omega, _, _, rfl, rfl, _, _, rfl, ⟨by omega, by omega, by omega, by omega⟩, ?_⟩
    have cnt : (((o.1.length : Nat) : Int) + 1 - 1).toNat = o.1.length := by omega
    rw [cnt]
    refine ⟨fun j k H2 => k = o.1.length - j ∧ j ≤ o.1.length ∧ Same H H2 ∧ H2 D = some (.lst ((headsAll (g.os.take i) ++ (heads o.1).take j).map V.str)), ⟨_, rfl, Nat.zero_le _, s, by rw [List.take_zero, List.append_nil]; exact hd⟩, ?_⟩
    rintro j k H2 ⟨rfl, hj, s2, hd2⟩
    by_cases hjl : j < o.1.length
    · refine .inr ⟨hjl, fun H' => j + 1 ≤ o.1.length ∧ Same H H' ∧ H' D = some (.lst ((headsAll (g.os.take i) ++ (heads o.1).take (j + 1)).map V.str)), fun H' ⟨z1, z2, z3⟩ => ⟨o.1.length - (j + 1), by omega, rfl, z1, z2, z3⟩, ?_⟩
      rintro x H' ⟨rfl, rfl⟩
      refine ⟨rfl, ?_⟩
      refine ⟨_, rfl, b, _, 0, _, rfl, rfl, SqT.of (s2 _ _ hb), atI_nat (j := 0) rfl, _, rfl, _, rfl, o.1, rfl, by rw [sizeLine_eq]; omega, ?_⟩
      have cut : cutS o.1 none (some (1 + (j : Nat))) = tk (j + 1) o.1 := by
        rw [show (1 + (j : Nat) : Int) = ((j + 1 : Nat) : Int) by omega, cut_tk]
      rw [cut]
      have nx : (heads o.1)[j]? = some (tk (j + 1) o.1) := by
        unfold heads
        rw [List.getElem?_map, List.getElem?_range hjl]
        rfl
      refine ⟨_, hd2, ?_, hjl, same_own s2 hD, ?_⟩
      · rw [sizeLine_eq, List.length_map, List.length_append]
        have : ((heads o.1).take j).length ≤ 12 := Nat.le_trans (List.length_take_le _ _) (by omega)
        omega
      · rw [upd_same, List.take_add_one, nx, ← List.append_assoc, List.map_append (l₂ := (some (tk (j + 1) o.1)).toList)]
        rfl
    · have ej : j = o.1.length := by omega
      subst ej
      refine .inl ⟨Nat.le_refl _, hlt, s2, ?_⟩
      rw [List.take_of_length_le (l := heads o.1) (by rw [heads_len]; exact Nat.le_refl _)] at hd2
      rw [ha1]
      exact hd2
  · have ei : i = vs.length := by omega
    subst ei
    refine .inl ⟨walk_tup.stops H1 (SqT.of (s _ _ ho)), ?_⟩
    rw [hlen, List.take_length] at hd
    refine ⟨D, (headsAll g.os).map Sum.inr, rfl, .inl (by rw [List.map_map]; exact SqL.of hd), by rw [List.length_map]; omega, fun S n hS hn => ?_⟩
    rw [List.length_map] at hn
    refine ⟨S, headsAll g.os, n, rfl, upd_same, by omega, fun ss p hso hnd hmem hp => ?_⟩
    have sS := s.trans (same_new hS (SetMO w S ((headsAll g.os).map Sum.inr) n))
    have s1 := sS.trans (same_new hp (.lst (ss.map V.str)))
    have ssl : ss.length ≤ 36 := Nat.le_trans (nd_sub_len hnd fun x hx => (hmem x).mp hx) (by omega)
    have hpF : H p = none := sS.free hp
    intro d hd0
    have hdF : H d = none := s1.free hd0
    have s2 := s1.trans (same_new hd0 (.dK []))
    have npd : p ≠ d := fun e => by rw [← e, upd_same] at hd0; cases hd0
    refine ⟨_, rfl, p, rfl, ⟨_, SqL.of (by rw [upd_ne npd, upd_same])⟩, ?_⟩
    refine for_it walk_list (fun i σ H' => ∃ (o1 o2 o3 : Option V), σ = [some (.ref a), some (.ref p), some (.ref d), o1, o2, o3] ∧ Same H H' ∧ H' p = some (.lst (ss.map V.str)) ∧ H' d = some (.dK (kvS (tellK g.os g.short (ss.take i)))))
      ⟨none, none, none, rfl, s2, by rw [upd_ne npd, upd_same], upd_same⟩ (fun i σ H' hi ⟨_, _, _, _, _, h1, _⟩ => SqL.of h1) ?_ ?_
    · rintro i x σ H3 H4 hi ⟨o1, o2, o3, rfl, s3, h1, h2⟩ ⟨rfl, hx⟩
      rw [List.getElem?_map] at hx
      obtain ⟨t, ht, rfl⟩ := Option.map_eq_some_iff.mp hx
      have new : ∀ p ∈ tellK g.os g.short (ss.take i), p.1 ≠ t := fun p hp e => by
        have := tellK_fst hp
        rw [e] at this
        obtain ⟨hi', e'⟩ := List.getElem?_eq_some_iff.mp ht
        have sp : ss = ss.take i ++ t :: ss.drop (i + 1) := by rw [← e', ← List.drop_eq_getElem_cons hi', List.take_append_drop]
        have hn := hnd
        rw [sp, List.nodup_append] at hn
        exact hn.2.2 t this t List.mem_cons_self rfl
      have tks : tellK g.os g.short (ss.take (i + 1)) = tellK g.os g.short (ss.take i) ++ ((toldO g.os g.short t).map fun o => (t, o.1)).toList := by
        unfold tellK
        rw [List.take_add_one, ht, List.filterMap_append]
        cases hto : toldO g.os g.short t <;> simp [hto]
      refine ⟨_, rfl, _, rfl, _, g, t, rfl, GrA.mn.mono _ _ _ _ (Same.kt s3) hg0, by omega, fun r H5 s5 hr5 => ?_⟩
      have h15 := s5 _ _ h1
      have h25 := s5 _ _ h2
      have s6 := s3.trans s5
      refine ⟨_, rfl, rfl, _, rfl, ?_⟩
      cases hto : toldO g.os g.short t with
      | none =>
        rw [hto] at hr5
        obtain rfl : r = .non := hr5
        refine iteF ?_
        refine ⟨_, _, _, rfl, s6, h15, ?_⟩
        rw [tks, hto]
        show _ = some (HO.dK (kvS (_ ++ [])))
        rw [List.append_nil]
        exact h25
      | some o =>
        rw [hto] at hr5
        obtain ⟨b, rfl, hb⟩ := hr5
        refine iteT ?_
        refine ⟨_, rfl, b, _, 0, _, rfl, rfl, SqT.of hb, atI_nat (j := 0) rfl, _, rfl, _, rfl, d, _, rfl, DPut.k (k := Sum.inr t) h25 ?_, ?_⟩
        · unfold kvS
          rw [sizeLine_eq, List.length_map]
          have := tellK_len g.os g.short (ss.take i)
          have := (List.take_sublist i ss).length_le
          omega
        · have nd1 : ¬ p = d := npd
          refine ⟨_, _, _, rfl, same_own s6 hdF, by rw [upd_ne npd]; exact h15, ?_⟩
          rw [upd_same, putK_new _ (kvS_none new), tks, hto]
          unfold kvS
          rw [List.map_append]
          rfl
    · rintro σ H3 ⟨o1, o2, o3, rfl, s3, h1, h2⟩
      rw [List.length_map, List.take_length] at h2
      exact ⟨_, rfl, q d _ ss s3 hdF hnd ssl hmem h2⟩

abbrev s_shortenings : Stmt := top 29
abbrev N_shortenings : List Str := ["grammar", "found", "text"]
theorem sc_shortenings : FnScope N_shortenings ["grammar"] (defScope s_shortenings) := ⟨rfl, rfl, rfl, by decide +kernel, rfl, by decide +kernel, by decide +kernel⟩
theorem ok_shortenings {f : Addr} {fd : FuncData} (F : Fun K "shortenings" "shortenings" s_shortenings f fd) (b : Binds K fd ["grammar"] []) (m : mg "shortenings" = some (.ref f)) (T : Txt K mg C aK aA)
    (Dtellings_of : DefAt P w K mg base "tellings_of" 2 ["grammar"] spTellings) :
    DefAt P w K mg base "shortenings" 3 ["grammar"] spShortenings := by
  refine ⟨f, fd, F.ok sc_shortenings (fun vs H Q E h => ?_) (fun cdv A outer s H vs Q E hr h => ?_), b, F.kp, m⟩
  · obtain ⟨v, g, rfl, _⟩ := h
    rfl
  obtain ⟨v, g, rfl, hg, sm, q⟩ := h
  have nd := sc_shortenings.nd
  have hu := hu_of hr
  refine ⟨_, (pss_cons (ps_set (i := 1) nd rfl (Or.inr rfl) (pe_callD Dtellings_of (hr.mono (by decide)) rfl (pa_cons (pv 0) pa_nil)))
    (pss_one (ps_ret (pe_lock (pe_lc (own := [("text", 2)]) (g := gName 2) rfl nd (pi_keys (pv 1)) (blkOk_by (N := N_shortenings) (sc := defScope s_shortenings) (by decide +kernel)) (fun _ _ _ _ _ => (pg_name (i := 2) nd rfl (Or.inl rfl))) (fun _ _ _ _ _ => (pts_one (pt_cmpR op_ne (pe_dget hu (pv 1) (pv 2) (fun _ _ => rfl)) (pv 2) (nomark _)))) (fun _ _ _ _ _ => (pv 2))))))), ?_⟩
  refine ⟨_, rfl, v, g, rfl, hg, sm, fun d H1 ss s1 hd0 hnd hss hmem hd => ?_⟩
  have tl := tellK_len g.os g.short ss
  refine ⟨d, _, hd, trivial, fun od => ?_⟩
  refine ⟨_, rfl, d, od, rfl, .inl ⟨_, upd_same, ?_⟩⟩
  refine lcK (R := StrA) (ds := tellK g.os g.short ss) (f := fun p => if (!decide (p.2 = p.1)) = true then some p.1 else none) StrA.mn upd_same (by unfold kvS; rw [List.length_map]) (by omega) ?_ ?_
  · intro i x p H' hx hpd s' Q1 Q0 k1 k0
    unfold kvS at hx
    rw [List.map_map, List.getElem?_map, hpd] at hx
    obtain rfl : V.str p.1 = x := Option.some.inj hx
    have hd' := s' _ _ upd_same
    refine ⟨rfl, ?_⟩
    refine ⟨_, rfl, _, rfl, d, _, rfl, .inl ⟨_, Sum.inr p.1, .inr ⟨_, hd'⟩, rfl, (kvS_val (tellK_nd hnd) (List.mem_of_getElem? hpd)).symm⟩, _, rfl, rfl, _, rfl, ?_⟩
    rw [str_ne]
    refine ite2 (fun c => ?_) (fun c => ?_)
    · exact ⟨_, rfl, k1 _ p.1 _ (if_pos c) rfl (Same.refl _)⟩
    · exact k0 (if_neg c) _ (Same.refl _)
  · intro D H2 ys hD s2 hys pr
    have hdD : d ≠ D := fun e => by rw [← e, upd_same] at hD; cases hD
    have hd2 := s2 _ _ upd_same
    refine ⟨hd2, ?_⟩
    rw [strs_map pr] at hys
    refine q D _ _ ?_ ?_ ?_ ?_ (by rw [upd_ne hdD.symm]; exact hys)
    · intro b u hb
      by_cases e : b = d
      · rw [e, hd0] at hb; cases hb
      · rw [upd_ne e]
        exact s2 _ _ (by rw [upd_ne e]; exact s1 _ _ hb)
    · have : H1 D = none := by rw [upd_ne hdD.symm] at hD; exact hD
      exact s1.free this
    · intro t
      rw [← shrt_prog, List.mem_filterMap]
      constructor
      · rintro ⟨p, hp, e⟩
        obtain ⟨t', ht', e'⟩ := List.mem_filterMap.mp hp
        split at e
        · next c =>
          cases e
          cases hto : toldO g.os g.short t' with
          | none => rw [hto] at e'; cases e'
          | some o =>
            rw [hto] at e'
            cases e'
            exact ⟨mem_headsAll.mp ((hmem _).mp ht'), o, hto, by simpa using c⟩
        · cases e
      · rintro ⟨h1, o, h2, h3⟩
        refine ⟨(t, o.1), List.mem_filterMap.mpr ⟨t, (hmem t).mpr (mem_headsAll.mpr h1), by rw [h2]; rfl⟩, ?_⟩
        rw [if_pos (by rw [decide_eq_false h3]; rfl)]
    · exact Nat.le_trans (List.length_filterMap_le _ _) (by omega)
end
end W31

set_option maxHeartbeats 4000000
/-! need_wishes, with_wishes, fitting. -/
namespace W31
open PySem PySem.Spec PyProof.Rows L2
structure WsOk (ws : List Opt) : Prop where
  ok : ∀ w ∈ ws, OptOk w
  few : ws.length ≤ 16
structure GrGd (g : Gr) : Prop where
  sm : GrSm g
  good : okOpts g.os = true
def spNeedWishes : Sp := fun vs H Q _ => ∃ (v u : V) (g : Gr) (ws : List Opt), vs = [v, u] ∧ GrA H v g ∧ GrGd g ∧ OptsA H u ws ∧ WsOk ws ∧ ∀ H', Same H H' → Q .non H'
def spWithWishes : Sp := fun vs H Q _ => ∃ (v u : V) (g : Gr) (w : Opt), vs = [v, u] ∧ GrA H v g ∧ GrGd g ∧ OptsA H u [w] ∧ OptOk w ∧ ∀ r H', Same H H' → (clash g.os w = false → ∃ a, r = .ref a) → (clash g.os w = true → r = .non) → Q r H'
def natsV (l : List Nat) : List V := l.map fun n : Nat => V.int (n : Int)
def spFitting : Sp := fun vs H Q _ => ∃ (v u : V) (g : Gr) (ws : List Opt), vs = [v, u] ∧ GrA H v g ∧ GrGd g ∧ OptsA H u ws ∧ WsOk ws ∧ ∀ l H', Same H H' → H l = none → H' l = some (.lst (natsV (fitP g ws))) → Q (.ref l) H'
noncomputable def fitT (g : Gr) (ws : List Opt) (i : Nat) : List Nat := (List.range i).filter fun j => (ws[j]?).any fun w => fit1 g w
theorem fitT_succ {g : Gr} {ws : List Opt} {i : Nat} {w : Opt} (h : ws[i]? = some w) : fitT g ws (i + 1) = fitT g ws i ++ if fit1 g w = true then [i] else [] := by
  unfold fitT
  rw [List.range_succ, List.filter_append]
  congr 1
  show (List.filter (fun j => (ws[j]?).any fun w => fit1 g w) [i]) = _
  rw [List.filter_cons, h]
  rfl
theorem fitT_len (g : Gr) (ws : List Opt) (i : Nat) : (fitT g ws i).length ≤ i := Nat.le_trans (List.length_filter_le _ _) (by rw [List.length_range]; exact Nat.le_refl _)
theorem gName_to {i : Nat} {v : V} {σ : L2.St} {H : Hp} {Q : L2.St → Hp → Prop} (h : Q (σ.set i (some v)) H) : gName i v σ H Q := h
section
variable {P : Program} {w : World} {K : PySem.W.Frag} {mg : Str → Option Value} {base : Heap} {C aK aA : Addr}
abbrev s_need_wishes : Stmt := top 32
abbrev N_need_wishes : List Str := ["grammar", "wishes", "wish"]
theorem sc_need_wishes : FnScope N_need_wishes ["grammar", "wishes"] (defScope s_need_wishes) := ⟨rfl, rfl, rfl, by decide +kernel, rfl, by decide +kernel, by decide +kernel⟩
theorem ok_need_wishes {f : Addr} {fd : FuncData} (F : Fun K "need_wishes" "need_wishes" s_need_wishes f fd) (b : Binds K fd ["grammar", "wishes"] []) (m : mg "need_wishes" = some (.ref f)) (T : Txt K mg C aK aA)
    (Dis_option : DefAt P w K mg base "is_option" 3 ["thing"] spIsOption)
    (Dneed_grammar : DefAt P w K mg base "need_grammar" 6 ["thing"] spNeedGrammar) :
    DefAt P w K mg base "need_wishes" 7 ["grammar", "wishes"] spNeedWishes := by
  refine ⟨f, fd, F.ok sc_need_wishes (fun vs H Q E h => ?_) (fun cdv A outer s H vs Q E hr h => ?_), b, F.kp, m⟩
  · obtain ⟨v, u, g, ws, rfl, _⟩ := h
    rfl
  obtain ⟨v, u, g, ws, rfl, hg, gd, ⟨wa, vs, rfl, hw, pr⟩, wok, q⟩ := h
  have hg0 := hg
  obtain ⟨a, vo, vp, mm, rfl, ha, ⟨oa, xs, rfl, ho, pro⟩, hp, hm⟩ := hg
  have nd := sc_need_wishes.nd
  have hlen := Paired.len pr
  have few := wok.few
  have g3 := gd.sm.few
  refine ⟨_, (pss_cons (ps_expr (pe_callD Dneed_grammar (hr.mono (by decide)) rfl (pa_cons (pv 0) pa_nil)))
    (pss_cons (ps_if (PW.pt (pw_or (pt_not (pt_val (pe_callB (call_isK K rfl) (by rfl) T.n_isinstance W31.boot_isinstance (pa_cons (pv 1) (pa_cons (pe_bltn (v := .ty "tuple") (by rfl) T.n_tuple W31.boot_tuple rfl) pa_nil))))) (pw_or (pt_cmpR op_gt (pe_callB (call_lenK K rfl) (by rfl) T.n_len W31.boot_len (pa_cons (pv 1) pa_nil)) (pe_globI rfl T.MOST_WISHES) (nomark _)) (pw_or1 (pt_not (pt_val (pe_callB (cr_all rfl) (by rfl) T.n_all W31.boot_all (pa_cons (pe_lc (own := [("wish", 2)]) (g := gName 2) (tt := tYes) rfl nd (pi_tupK K rfl (pv 1)) (blkOk_by (N := N_need_wishes) (sc := defScope s_need_wishes) (by decide +kernel)) (fun _ _ _ _ _ => (pg_name (i := 2) nd rfl (Or.inl rfl))) (fun _ _ _ _ _ => pts_nil) (fun _ _ _ _ _ => (pe_callD Dis_option (hr.mono (by decide)) rfl (pa_cons (pv 2) pa_nil)))) pa_nil))))))))
    (pss_one ps_never)
    pss_nil)
    (pss_one (ps_if (pt_cmpR op_gt (pe_op op_add (pe_callB (call_lenK K rfl) (by rfl) T.n_len W31.boot_len (pa_cons (pe_ix (ix_tupK K rfl) (pv 0) pe_int (fun _ _ => rfl)) pa_nil)) (pe_callB (call_lenK K rfl) (by rfl) T.n_len W31.boot_len (pa_cons (pv 1) pa_nil))) (pe_globI rfl T.MOST_OPTIONS) (nomark _))
    (pss_one ps_never)
    pss_nil)))), ?_⟩
  refine ⟨_, rfl, _, g, rfl, hg0, gd.sm.ok, by omega, gd.good, fun H1 s1 => ?_⟩
  have hw1 := s1 _ _ hw
  refine ⟨_, rfl, _, _, _, _, true, rfl, .ty "tuple", .base (.tup hw1), kit_ty (by decide +kernel), true, rfl, iteF ?_⟩
  refine ⟨_, rfl, wa, _, rfl, .inr (SqT.of hw1), _, _, rfl, rfl, _, rfl, ?_⟩
  rw [decide_eq_false (by rw [hlen]; omega)]
  refine iteF ?_
  refine ⟨_, rfl, wa, rfl, ⟨_, SqT.of hw1⟩, ?_⟩
  refine lcT (R := BlA) (ds := ws) (f := fun _ => some true) BlA.mn (SqT.of hw1) hlen (by omega) ?_ ?_
  · intro i x o H' hx ho' s' Q1 Q0 k1 k0
    have hox := Paired.at' (Paired.mono OptA.mn (Same.kt (s1.trans s')) pr) hx ho'
    refine ⟨rfl, ?_⟩
    exact ⟨_, rfl, _, o, rfl, hox, wok.ok o (List.mem_of_getElem? ho'), fun H2 s2 => k1 _ true _ rfl rfl s2⟩
  · intro D H2 ys hD s2 hys pr2
    rw [bls_map pr2, filterMap_some (g := fun _ => true) _ fun _ _ => rfl] at hys
    have s3 := s1.trans s2
    refine ⟨D, _, rfl, SqL.of hys, _, rfl, ?_⟩
    rw [show (ws.map fun _ => true).all id = true from List.all_eq_true.mpr fun b hb => by obtain ⟨_, _, e⟩ := List.mem_map.mp hb; exact e.symm]
    refine iteF ?_
    refine ⟨_, rfl, a, _, 0, _, rfl, rfl, SqT.of (s3 _ _ ha), atI_nat (j := 0) rfl, oa, _, rfl, .inr (SqT.of (s3 _ _ ho)), _, rfl, wa, _, rfl, .inr (SqT.of (s3 _ _ hw)), _, _, rfl, rfl, _, _, rfl, rfl, _, rfl, ?_⟩
    have hlo := Paired.len pro
    rw [decide_eq_false (by rw [hlen, hlo]; omega)]
    refine iteF ?_
    exact q _ s3

abbrev s_with_wishes : Stmt := top 33
abbrev N_with_wishes : List Str := ["grammar", "wishes", "options", "places", "modes", "longer"]
theorem sc_with_wishes : FnScope N_with_wishes ["grammar", "wishes"] (defScope s_with_wishes) := ⟨rfl, rfl, rfl, by decide +kernel, rfl, by decide +kernel, by decide +kernel⟩
theorem ok_with_wishes {f : Addr} {fd : FuncData} (F : Fun K "with_wishes" "with_wishes" s_with_wishes f fd) (b : Binds K fd ["grammar", "wishes"] []) (m : mg "with_wishes" = some (.ref f)) (T : Txt K mg C aK aA)
    (Dis_grammar : DefAt P w K mg base "is_grammar" 6 ["thing"] spIsGrammar) :
    DefAt P w K mg base "with_wishes" 7 ["grammar", "wishes"] spWithWishes := by
  refine ⟨f, fd, F.ok sc_with_wishes (fun vs H Q E h => ?_) (fun cdv A outer s H vs Q E hr h => ?_), b, F.kp, m⟩
  · obtain ⟨v, u, g, ws, rfl, _⟩ := h
    rfl
  obtain ⟨v, u, g, wi, rfl, ⟨a, vo, vp, mm, rfl, ha, ⟨oa, xs, rfl, ho, pro⟩, hp, hm⟩, gd, ⟨wa, vs, rfl, hw, pr⟩, wok, q⟩ := h
  have nd := sc_with_wishes.nd
  have g3 := gd.sm.few
  have lo := Paired.len pro
  have lw := Paired.len pr
  refine ⟨_, (pss_cons (ps_asg (pv 0) (pg_tupK (n := 3) K rfl rfl (pgs_cons (pg_name (i := 2) nd rfl (Or.inl rfl)) (pgs_cons (pg_name (i := 3) nd rfl (Or.inl rfl)) (pgs_cons (pg_name (i := 4) nd rfl (Or.inl rfl)) pgs_nil)))))
    (pss_cons (ps_set (i := 5) nd rfl (Or.inl rfl) (pe_tup (pa_cons (pe_op (op_catAK K rfl) (pv 2) (pe_callTy (call_tupK K rfl) (by rfl) T.n_tuple W31.boot_tuple (pa_cons (pv 1) pa_nil))) (pa_cons (pv 3) (pa_cons (pv 4) pa_nil)))))
    (pss_one (ps_ret (pe_ifExp (pt_val (pe_callD Dis_grammar (hr.mono (by decide)) rfl (pa_cons (pv 5) pa_nil))) (pv 5) pe_non))))), ?_⟩
  refine ⟨_, rfl, a, _, rfl, SqT.of ha, rfl, _, _, rfl, _, _, rfl, _, _, rfl, rfl, ?_⟩
  refine ⟨_, rfl, _, rfl, wa, _, rfl, .inr ⟨SqT.of hw, ?_⟩⟩
  refine catA_to ho hw (by rw [lo, lw]; show g.os.length + 1 ≤ 1000; omega) fun c H1 s1 hc => ?_
  refine ⟨_, rfl, _, rfl, by show 3 ≤ sizeLine; decide, fun L hL => ?_⟩
  have s2 := s1.trans (same_new hL (.tup [.ref c, vp, .ref mm]))
  have gA : GrA (upd H1 L (.tup [.ref c, vp, .ref mm])) (.ref L) { g with os := g.os ++ [wi] } := by
    refine ⟨L, .ref c, vp, mm, rfl, upd_same, ⟨c, _, rfl, (same_new hL _) _ _ hc, ?_⟩, PlcsA.mn.mono _ _ _ _ (Same.kt s2) hp, s2 _ _ hm⟩
    exact Paired.mono OptA.mn (Same.kt s2) (Paired.app pro pr)
  have gok : GrOk { g with os := g.os ++ [wi] } := ⟨fun o ho => by
    rcases List.mem_append.mp ho with ho | ho
    · exact gd.sm.ok.os o ho
    · obtain rfl := List.mem_singleton.mp ho
      exact wok, gd.sm.ok.ps, gd.sm.ok.few, gd.sm.ok.plcs⟩
  refine ⟨_, rfl, _, { g with os := g.os ++ [wi] }, rfl, gA, gok, by show (g.os ++ [wi]).length ≤ 24; rw [List.length_append]; show g.os.length + 1 ≤ 24; omega, fun H3 s3 => ?_⟩
  show ∃ b, _
  refine ⟨_, rfl, ?_⟩
  show if okOpts (g.os ++ [wi]) = true then _ else _
  rw [clash_of g.os wi gd.good]
  cases hc : clash g.os wi with
  | false =>
    refine iteT ?_
    exact ⟨_, rfl, q _ _ (s2.trans s3) (fun _ => ⟨_, rfl⟩) fun z => by rw [hc] at z; cases z⟩
  | true =>
    refine iteF ?_
    exact q _ _ (s2.trans s3) (fun z => by rw [hc] at z; cases z) fun _ => rfl

abbrev s_fitting : Stmt := top 34
abbrev N_fitting : List Str := ["grammar", "wishes", "barred", "bars_figures", "found", "number", "wish", "is_figure", "is_free", "text"]
theorem sc_fitting : FnScope N_fitting ["grammar", "wishes"] (defScope s_fitting) := ⟨rfl, rfl, rfl, by decide +kernel, rfl, by decide +kernel, by decide +kernel⟩
theorem ok_fitting {f : Addr} {fd : FuncData} (F : Fun K "fitting" "fitting" s_fitting f fd) (b : Binds K fd ["grammar", "wishes"] []) (m : mg "fitting" = some (.ref f)) (T : Txt K mg C aK aA)
    (Dshortenings : DefAt P w K mg base "shortenings" 3 ["grammar"] spShortenings)
    (Dtakes_numbers : DefAt P w K mg base "takes_numbers" 2 ["grammar"] spTakesNumbers)
    (Dwith_wishes : DefAt P w K mg base "with_wishes" 7 ["grammar", "wishes"] spWithWishes) :
    DefAt P w K mg base "fitting" 8 ["grammar", "wishes"] spFitting := by
  refine ⟨f, fd, F.ok sc_fitting (fun vs H Q E h => ?_) (fun cdv A outer s H vs Q E hr h => ?_), b, F.kp, m⟩
  · obtain ⟨v, u, g, ws, rfl, _⟩ := h
    rfl
  obtain ⟨v, u, g, ws, rfl, hg, gd, ⟨wa, vs, rfl, hw, pr⟩, wok, q⟩ := h
  have hg0 := hg
  obtain ⟨a, vo, vp, mm, rfl, ha, ho, ⟨pa, xs, rfl, hp, prp⟩, hm⟩ := hg
  have nd := sc_fitting.nd
  have g3 := gd.sm.few
  have few := wok.few
  have hlen := Paired.len pr
  refine ⟨_, (pss_cons (ps_set (i := 2) nd rfl (Or.inl rfl) (pe_callD Dshortenings (hr.mono (by decide)) rfl (pa_cons (pv 0) pa_nil)))
    (pss_cons (ps_set (i := 3) nd rfl (Or.inl rfl) (pe_and (pe_callD Dtakes_numbers (hr.mono (by decide)) rfl (pa_cons (pv 0) pa_nil)) (pe_one (pe_cmpR (op_neDK K rfl hr.units) (pe_ix (ix_tupK K rfl) (pv 0) pe_int (fun _ _ => rfl)) (pe_tup pa_nil) (nomark _)))))
    (pss_cons (ps_set (i := 4) nd rfl (Or.inl rfl) (pe_lst pa_nil))
    (pss_cons (ps_for PassesOwn.never rfl (pi_enumT (by rfl) T.n_enumerate (pa_cons (pv 1) pa_nil)) (pg_tupK (n := 2) K rfl rfl (pgs_cons (pg_name (i := 5) nd rfl (Or.inl rfl)) (pgs_cons (pg_name (i := 6) nd rfl (Or.inr rfl)) pgs_nil)))
    (pss_cons (ps_set (i := 7) nd rfl (Or.inl rfl) (pe_and (pe_cmpR op_ne (pe_ix (ix_tupK K rfl) (pv 6) pe_int (fun _ _ => rfl)) pe_str (nomark _)) (pe_one (pe_cmpR op_in_sign (pe_ix (ix_tupK K rfl) (pv 6) pe_int (fun _ _ => rfl)) (pe_globS rfl T.FIGURES) rfl))))
    (pss_cons (ps_set (i := 8) nd rfl (Or.inl rfl) (pe_and (pe_cmpR op_notN (pe_callD Dwith_wishes (hr.mono (by decide)) rfl (pa_cons (pv 0) (pa_cons (pe_tup (pa_cons (pv 6) pa_nil)) pa_nil))) pe_non (nomark _)) (pe_one (pe_not (pe_and (pv 3) (pe_one (pv 7)))))))
    (pss_one (ps_if (PW.pt (pw_and (pt_val (pv 8)) (pw_and1 (pt_cmpR (op_eqDK K rfl hr.units) (pe_lc (own := [("text", 9)]) (g := gName 9) rfl nd (pi_listK K rfl (pv 2)) (blkOk_by (N := N_fitting) (sc := defScope s_fitting) (by decide +kernel)) (fun _ _ _ _ _ => (pg_name (i := 9) nd rfl (Or.inl rfl))) (fun _ _ _ _ _ => (pts_one (pt_val (pe_m1 PySem.F.slot_str_startswith PySem.F.type_str_startswith mt_startswith (pe_ix (ix_tupK K rfl) (pv 6) pe_int (fun _ _ => rfl)) (pv 9))))) (fun _ _ _ _ _ => (pv 9))) (pe_lst pa_nil) (nomark _)))))
    (pss_one (ps_expr (pe_bm PySem.F.plainAttrs_list PySem.F.slot_list_append PySem.F.type_list_append mt_append (pv 4) (pa_cons (pv 5) pa_nil))))
    pss_nil)))))
    (pss_one (ps_ret (pv 4))))))), ?_⟩
  refine ⟨_, rfl, _, g, rfl, hg0, gd.sm, fun lb H1 bs s1 hlb hbm hbl hb => ?_⟩
  refine gName_to ?_
  dsimp only
  refine asg_ev (v := .bl (numG g && !g.ps.isEmpty)) (fun Q q => ?_) (fun H2 s2 => ?_)
  · refine ⟨_, rfl, _, g, rfl, GrA.mn.mono _ _ _ _ (Same.kt s1) hg0, gd.sm.ok.os, by omega, fun H2 s2 => ?_⟩
    refine ⟨_, rfl, ?_⟩
    refine ite2 (fun c => ?_) (fun c => ?_)
    · have s3 := s1.trans s2
      refine ⟨_, rfl, a, _, 1, _, rfl, rfl, SqT.of (s3 _ _ ha), atI_nat (j := 1) rfl, Nat.zero_le _, fun t ht => ?_⟩
      have s4 := s3.trans (same_new ht (.tup []))
      refine neT_to (SqT.of (s4 _ _ hp)) (dp_plcs (Paired.mono PlcA.mn (Same.kt s4) prp)) upd_same (lay_plcs gd.sm.ok.ps) (by decide) ?_
      have := q _ (s2.trans (same_new ht (.tup [])))
      rw [c, Bool.true_and] at this
      rwa [List.isEmpty_map]
    · have := q _ s2
      rw [show numG g = false by simpa using c, Bool.false_and] at this
      exact this
  have s2' := s1.trans s2
  refine ⟨Nat.zero_le _, fun lf hlf => ?_⟩
  have hlf0 : H lf = none := s2'.free hlf
  have hlfb : lb ≠ lf := fun e => by rw [← e, s2 _ _ hb] at hlf; cases hlf
  have s3 := s2'.trans (same_new hlf (.lst []))
  have hb3 := (s2.trans (same_new hlf (.lst []))) _ _ hb
  refine ⟨_, rfl, wa, vs, rfl, SqT.of (s3 _ _ hw), ?_⟩
  refine for_it walk_enumT (fun i σ H' => ∃ (o5 o6 o7 o8 o9 : Option V), σ = [some (.ref a), some (.ref wa), some (.ref lb), some (.bl (numG g && !g.ps.isEmpty)), some (.ref lf), o5, o6, o7, o8, o9] ∧ Same H H' ∧ H' lb = some (.lst (bs.map V.str)) ∧ H' lf = some (.lst (natsV (fitT g ws i))))
    ⟨none, none, none, none, none, rfl, s3, hb3, upd_same⟩ (fun i σ H' hi ⟨_, _, _, _, _, _, s, _⟩ => SqT.of (s _ _ hw)) ?_ ?_
  · rintro i x σ H4 H5 hi ⟨o5, o6, o7, o8, o9, rfl, s4, hb4, hf4⟩ ⟨Tp, y, z, rfl, hT, rfl, hy, hz⟩
    obtain rfl : V.int (i : Nat) = y := Option.some.inj hy
    obtain ⟨wi, hwi, ⟨b, rfl, hb⟩⟩ := Paired.snd pr hz
    have wiok := wok.ok wi (List.mem_of_getElem? hwi)
    have n5 := same_new hT (.tup [.int (i : Nat), .ref b])
    have s5 := s4.trans n5
    have hb5 := n5 _ _ hb4
    have hf5 := n5 _ _ hf4
    refine ⟨Tp, _, rfl, SqT.of upd_same, rfl, _, _, rfl, _, _, rfl, rfl, ?_⟩
    dsimp only
    refine asg_ev (v := .bl (figL wi.2.1)) (fun Q q => ?_) (fun H6 s6 => ?_)
    · refine ⟨_, rfl, b, _, 1, _, rfl, rfl, SqT.of (s5 _ _ hb), atI_nat (j := 1) rfl, rfl, ?_⟩
      rw [str_ne]
      rcases wiok.letter with e | ⟨c, e, hc⟩
      · refine ⟨false, by rw [decide_eq_true e]; rfl, ?_⟩
        have := q _ (Same.refl _)
        rw [e] at this
        exact this
      · refine ⟨true, by rw [decide_eq_false (by rw [e]; exact one_ne c)]; rfl, ?_⟩
        refine ⟨_, rfl, b, _, 1, _, rfl, rfl, SqT.of (s5 _ _ hb), atI_nat (j := 1) rfl, c, FIGURES, by rw [e], rfl, ?_⟩
        have := q _ (Same.refl _)
        rw [e] at this
        exact this
    have s6' := s5.trans s6
    have hb6 := s6 _ _ hb5
    have hf6 := s6 _ _ hf5
    refine gName_to ?_
    dsimp only
    refine asg_ev (v := .bl (!clash g.os wi && !((numG g && !g.ps.isEmpty) && figL wi.2.1))) (fun Q q => ?_) (fun H7 s7 => ?_)
    · refine ⟨_, rfl, _, rfl, by show 1 ≤ sizeLine; decide, fun L hL => ?_⟩
      have sL := same_new hL (.tup [.ref b])
      have sL' := s6'.trans sL
      refine ⟨_, _, g, wi, rfl, GrA.mn.mono _ _ _ _ (Same.kt sL') hg0, gd, ⟨L, _, rfl, upd_same, .cons ⟨b, rfl, sL' _ _ hb⟩ .nil⟩, wiok, fun r H8 s8 r1 r2 => ?_⟩
      have sQ := sL.trans s8
      refine ⟨rfl, ?_⟩
      cases hc : clash g.os wi with
      | true =>
        obtain rfl := r2 hc
        refine ⟨false, rfl, ?_⟩
        have := q _ sQ
        rw [hc] at this
        exact this
      | false =>
        obtain ⟨ra, rfl⟩ := r1 hc
        refine ⟨true, rfl, ?_⟩
        refine ⟨_, rfl, _, rfl, ?_⟩
        have := q _ sQ
        rw [hc] at this
        refine ite2 (fun c => ?_) (fun c => ?_)
        · rw [c] at this
          exact ⟨_, rfl, _, rfl, this⟩
        · rw [show (numG g && !g.ps.isEmpty) = false by simpa using c] at this
          exact ⟨_, rfl, this⟩
    have s7' := s6'.trans s7
    have hb7 := s7 _ _ hb6
    have hf7 := s7 _ _ hf6
    have fin0 : fit1 g wi = false → ∀ (o7 o8 o9 : Option V) H', Same H H' → H' lb = some (.lst (bs.map V.str)) → H' lf = some (.lst (natsV (fitT g ws i))) → ∃ (p5 p6 p7 p8 p9 : Option V), ([some (.ref a), some (.ref wa), some (.ref lb), some (.bl (numG g && !g.ps.isEmpty)), some (.ref lf), some (.int (i : Nat)), some (.ref b), o7, o8, o9] : L2.St) = [some (.ref a), some (.ref wa), some (.ref lb), some (.bl (numG g && !g.ps.isEmpty)), some (.ref lf), p5, p6, p7, p8, p9] ∧ Same H H' ∧ H' lb = some (.lst (bs.map V.str)) ∧ H' lf = some (.lst (natsV (fitT g ws (i + 1)))) := fun z o7 o8 o9 H' z1 z2 z3 => by
      refine ⟨_, _, _, _, _, rfl, z1, z2, ?_⟩
      rw [fitT_succ hwi, z, if_neg (by decide), List.append_nil]
      exact z3
    have e1 : fit1 g wi = (!barred g wi.1 && (!clash g.os wi && !((numG g && !g.ps.isEmpty) && figL wi.2.1))) := by
      unfold fit1
      cases clash g.os wi <;> cases barred g wi.1 <;> rfl
    refine ⟨_, rfl, _, rfl, ?_⟩
    refine ite2 (fun c1 => ?_) (fun c1 => iteF (fin0 (by rw [e1, show (!clash g.os wi && !((numG g && !g.ps.isEmpty) && figL wi.2.1)) = false by simpa using c1, Bool.and_false]) _ _ _ _ s7' hb7 hf7))
    refine ⟨_, rfl, lb, rfl, ⟨_, SqL.of hb7⟩, ?_⟩
    refine lcL (R := StrA) (ds := bs) (f := fun t => if pre t wi.1 = true then some t else none) StrA.mn (SqL.of hb7) (List.length_map _) (by omega) ?_ ?_
    · intro j x t H' hx ht s' Q1 Q0 k1 k0
      rw [List.getElem?_map, ht] at hx
      obtain rfl : V.str t = x := Option.some.inj hx
      refine ⟨rfl, ?_⟩
      refine ⟨_, rfl, b, _, 0, _, rfl, rfl, SqT.of (s' _ _ (s7' _ _ hb)), atI_nat (j := 0) rfl, ⟨_, rfl⟩, _, rfl, wi.1, t, rfl, rfl, _, rfl, ?_⟩
      rw [starts_pre]
      refine ite2 (fun c => ?_) (fun c => ?_)
      · exact ⟨_, rfl, k1 _ t _ (if_pos c) rfl (Same.refl _)⟩
      · exact k0 (if_neg c) _ (Same.refl _)
    · intro D H8 ys hD s8 hys pr2
      rw [fm_guard] at pr2
      rw [strs_map pr2] at hys
      refine ⟨Nat.zero_le _, fun E0 hE => ?_⟩
      have s9 := s8.trans (same_new hE (.lst []))
      have s9' := s7'.trans s9
      refine eqE_to (SqL.of ((same_new hE (.lst [])) _ _ hys)) (dp_strs _) upd_same (lay_strs fun x hx => ((hbm x).mp (List.mem_filter.mp hx).1).asc gd.sm.ok.os) (by decide) ?_
      have eb : (strsD (bs.filter fun t => pre t wi.1)).isEmpty = !barred g wi.1 := by
        rw [← barred_of (x := wi.1) hbm]
        unfold strsD
        rw [List.isEmpty_map, Bool.eq_iff_iff, List.isEmpty_iff, List.filter_eq_nil_iff, Bool.not_eq_true', ← Bool.not_eq_true, List.any_eq_true]
        exact ⟨fun z ⟨t, h1, h2⟩ => z t h1 h2, fun z t h1 h2 => z ⟨t, h1, h2⟩⟩
      rw [eb]
      refine ⟨_, rfl, ?_⟩
      refine ite2 (fun c2 => ?_) (fun c2 => fin0 (by rw [e1, show (!barred g wi.1) = false by simpa using c2, Bool.false_and]) _ _ _ _ s9' (s9 _ _ hb7) (s9 _ _ hf7))
      have hf9 := s9 _ _ hf7
      refine ⟨_, rfl, .inl ⟨rfl, _, SqL.of hf9⟩, _, rfl, lf, _, _, rfl, rfl, hf9, small1000 (by unfold natsV; rw [List.length_map]; have := fitT_len g ws i; omega), ?_⟩
      refine ⟨_, _, _, _, _, rfl, same_own s9' hlf0, by rw [upd_ne hlfb]; exact s9 _ _ hb7, ?_⟩
      rw [upd_same, fitT_succ hwi, e1, c1, c2, if_pos (show (true && true) = true from rfl)]
      unfold natsV
      rw [List.map_append]
      rfl
  · rintro σ H4 ⟨o5, o6, o7, o8, o9, rfl, s4, hb4, hf4⟩
    rw [hlen] at hf4
    exact ⟨_, rfl, q lf _ s4 hlf0 hf4⟩
end
end W31

set_option maxHeartbeats 4000000
/-! What a Pairing is, in plain Lean and in the heap. -/
namespace W31
open PySem PySem.Spec PyProof.Rows L2

/-! ### plain -/
def wn (ws : List Opt) (n : Nat) : Opt := (ws[n]?).getD ("", "", "")
def nmW (ws : List Opt) (n : Nat) : Str := (wn ws n).1
def prt (ws : List Opt) (n : Nat) : Str := if (wn ws n).2.1 = "" then "own " ++ (toString (n : Int) : String) else (wn ws n).2.1
def edW (ws : List Opt) (nums : List Nat) (x : Str) : List (Str × Nat) := (nums.filter fun n => decide (nmW ws n = x)).map fun n => (prt ws n, n)
def addK (ks : List Str) (x : Str) : List Str := if x ∈ ks then ks else ks ++ [x]
def keysW (ws : List Opt) (nums : List Nat) : List Str := nums.foldl (fun ks n => addK ks (nmW ws n)) []
theorem mem_addK {ks : List Str} {x y : Str} : y ∈ addK ks x ↔ y ∈ ks ∨ y = x := by
  unfold addK
  split
  · next h => exact ⟨.inl, fun z => z.elim id fun e => e ▸ h⟩
  · rw [List.mem_append, List.mem_singleton]
theorem nd_addK {ks : List Str} {x : Str} (h : ks.Nodup) : (addK ks x).Nodup := by
  unfold addK
  split
  · exact h
  · next n => exact nd_snoc1 h n
theorem mem_edW {ws : List Opt} {nums : List Nat} {x : Str} {e : Str × Nat} : e ∈ edW ws nums x ↔ e.2 ∈ nums ∧ nmW ws e.2 = x ∧ e.1 = prt ws e.2 := by
  unfold edW
  rw [List.mem_map]
  constructor
  · rintro ⟨n, h, rfl⟩
    obtain ⟨h1, h2⟩ := List.mem_filter.mp h
    exact ⟨h1, of_decide_eq_true h2, rfl⟩
  · rintro ⟨h1, h2, h3⟩
    exact ⟨e.2, List.mem_filter.mpr ⟨h1, decide_eq_true h2⟩, by rw [← h3]⟩
theorem keysW_snoc (ws : List Opt) (l : List Nat) (n : Nat) : keysW ws (l ++ [n]) = addK (keysW ws l) (nmW ws n) := by
  unfold keysW
  rw [List.foldl_append]
  rfl
theorem keysW_nd (ws : List Opt) (l : List Nat) : (keysW ws l).Nodup := by
  unfold keysW
  suffices h : ∀ (l : List Nat) (ks : List Str), ks.Nodup → (l.foldl (fun ks n => addK ks (nmW ws n)) ks).Nodup from h l [] List.nodup_nil
  intro l
  induction l with
  | nil => exact fun ks h => h
  | cons n r ih => exact fun ks h => ih _ (nd_addK h)
theorem mem_keysW (ws : List Opt) (l : List Nat) (x : Str) : x ∈ keysW ws l ↔ ∃ n ∈ l, nmW ws n = x := by
  unfold keysW
  suffices h : ∀ (l : List Nat) (ks : List Str), x ∈ l.foldl (fun ks n => addK ks (nmW ws n)) ks ↔ x ∈ ks ∨ ∃ n ∈ l, nmW ws n = x by
    rw [h]
    simp
  intro l
  induction l with
  | nil => intro ks; simp
  | cons n r ih =>
    intro ks
    rw [List.foldl_cons, ih, mem_addK]
    constructor
    · rintro ((h | h) | ⟨m, h1, h2⟩)
      · exact .inl h
      · exact .inr ⟨n, List.mem_cons_self, h.symm⟩
      · exact .inr ⟨m, List.mem_cons_of_mem _ h1, h2⟩
    · rintro (h | ⟨m, h1, h2⟩)
      · exact .inl (.inl h)
      · rcases List.mem_cons.mp h1 with rfl | h1
        · exact .inl (.inr h2.symm)
        · exact .inr ⟨m, h1, h2⟩
theorem keysW_len (ws : List Opt) (l : List Nat) : (keysW ws l).length ≤ l.length := by
  have h : (keysW ws l).length ≤ (l.map (nmW ws)).length := nd_sub_len (keysW_nd ws l) fun x hx => by
    obtain ⟨n, h1, h2⟩ := (mem_keysW ws l x).mp hx
    exact List.mem_map.mpr ⟨n, h1, h2⟩
  rwa [List.length_map] at h
theorem edW_snoc (ws : List Opt) (l : List Nat) (n : Nat) (x : Str) : edW ws (l ++ [n]) x = edW ws l x ++ if nmW ws n = x then [(prt ws n, n)] else [] := by
  unfold edW
  rw [List.filter_append, List.map_append]
  congr 1
  rw [List.filter_cons]
  by_cases h : nmW ws n = x
  · rw [decide_eq_true h, if_pos h, if_pos rfl]
    rfl
  · rw [decide_eq_false h, if_neg h, if_neg (by decide)]
    rfl
theorem edW_none {ws : List Opt} {l : List Nat} {x : Str} (h : x ∉ keysW ws l) : edW ws l x = [] := by
  unfold edW
  rw [List.map_eq_nil_iff, List.filter_eq_nil_iff]
  intro n hn
  rw [decide_eq_true_iff]
  exact fun e => h ((mem_keysW ws l x).mpr ⟨n, hn, e⟩)
/-- the table so far -/
structure TkOk (ws : List Opt) (nums : List Nat) (tk : Tk Str) : Prop where
  nd : (tk.map (·.1)).Nodup
  all : ∀ e ∈ tk, e.2 ∈ nums ∧ e.1 = prt ws e.2
theorem TkOk.len {ws : List Opt} {nums : List Nat} {tk : Tk Str} (h : TkOk ws nums tk) : tk.length ≤ nums.length := by
  have : (tk.map (·.1)).length ≤ (nums.map (prt ws)).length := nd_sub_len h.nd fun x hx => by
    obtain ⟨e, he, rfl⟩ := List.mem_map.mp hx
    exact List.mem_map.mpr ⟨e.2, (h.all e he).1, (h.all e he).2.symm⟩
  rwa [List.length_map, List.length_map] at this
theorem TkOk.findN {ws : List Opt} {nums : List Nat} {tk : Tk Str} (h : TkOk ws nums tk) (k : Nat) (x : Str) (seen : List Str) : TkOk ws nums (findN (nmW ws) (edW ws nums) k x seen tk).2.2 :=
  ⟨findN_keys k x seen tk h.nd, fun e he => findN_all (W := fun p n => n ∈ nums ∧ p = prt ws n) (fun y e' he' => ⟨(mem_edW.mp he').1, (mem_edW.mp he').2.2⟩) k x seen tk h.all e he⟩
theorem TkOk.put {ws : List Opt} {nums : List Nat} {tk : Tk Str} (h : TkOk ws nums tk) {n : Nat} (hn : n ∈ nums) : TkOk ws nums (put tk (prt ws n) n) :=
  ⟨put_nodup n h.nd, put_all (W := fun p n => n ∈ nums ∧ p = prt ws n) tk _ n h.all ⟨hn, rfl⟩⟩
/-- all names are looked at, one by one -/
def wholeT (ws : List Opt) (nums : List Nat) : List Str → Tk Str → Tk Str
  | [], t => t
  | x :: r, t => wholeT ws nums r (findN (nmW ws) (edW ws nums) 17 x [] t).2.2
def tkW (ws : List Opt) (nums : List Nat) : Tk Str := wholeT ws nums (keysW ws nums) []
theorem wholeT_snoc (ws : List Opt) (nums : List Nat) (x : Str) : ∀ (l : List Str) (t : Tk Str), wholeT ws nums (l ++ [x]) t = (findN (nmW ws) (edW ws nums) 17 x [] (wholeT ws nums l t)).2.2
  | [], _ => rfl
  | y :: r, t => wholeT_snoc ws nums x r _
theorem wholeT_ok {ws : List Opt} {nums : List Nat} : ∀ (l : List Str) (t : Tk Str), TkOk ws nums t → TkOk ws nums (wholeT ws nums l t)
  | [], _, h => h
  | x :: r, t, h => wholeT_ok r _ (h.findN 17 x [])
theorem tkW_ok (ws : List Opt) (nums : List Nat) (l : List Str) : TkOk ws nums (wholeT ws nums l []) := wholeT_ok l [] ⟨List.nodup_nil, fun e he => by cases he⟩

/-! ### in the heap -/
def PrA (H : Hp) (v : V) (p : Str × Nat) : Prop := ∃ a, v = .ref a ∧ H a = some (.tup [.str p.1, .int (p.2 : Nat)])
theorem PrA.mn : Mn PrA := ⟨fun _ _ _ _ k ⟨a, e, h⟩ => ⟨a, e, k _ _ h⟩⟩
def kvE (L : Str → Addr) (ks : List Str) : List (Key × V) := ks.map fun x => (Sum.inr x, V.ref (L x))
def kvT (tk : Tk Str) : List (Key × V) := tk.map fun e => (Sum.inr e.1, V.int (e.2 : Nat))
structure EdA (H : Hp) (e : Addr) (L : Str → Addr) (ks : List Str) (ed : Str → List (Str × Nat)) : Prop where
  dict : Rd H e (.dK (kvE L ks))
  lists : ∀ x ∈ ks, ∃ ts, H (L x) = some (.lst ts) ∧ Paired (PrA H) ts (ed x)
theorem kvE_none {L : Str → Addr} {ks : List Str} {x : Str} (h : x ∉ ks) : valV (kvE L ks) (Sum.inr x) = none := by
  have e := valV_any (Sum.inr x : Key) (kvE L ks)
  cases hv : valV (kvE L ks) (Sum.inr x) with
  | none => rfl
  | some v =>
    rw [hv] at e
    obtain ⟨kv, hm, hd⟩ := List.any_eq_true.mp e
    obtain ⟨y, hy, rfl⟩ := List.mem_map.mp hm
    exact absurd (Sum.inr.inj (of_decide_eq_true hd) ▸ hy) h
theorem kvE_val {L : Str → Addr} : ∀ {ks : List Str} {x : Str}, x ∈ ks → valV (kvE L ks) (Sum.inr x) = some (.ref (L x))
  | [], _, h => by cases h
  | y :: r, x, h => by
    by_cases e : y = x
    · subst e
      exact valV_pos rfl
    · have : ¬ (Sum.inr y : Key) = Sum.inr x := fun z => e (Sum.inr.inj z)
      refine (valV_neg this).trans (kvE_val ?_)
      rcases List.mem_cons.mp h with z | z
      · exact absurd z.symm e
      · exact z
theorem kvT_val (p : Str) : ∀ tk : Tk Str, valV (kvT tk) (Sum.inr p) = (look tk p).map fun n => V.int (n : Nat)
  | [] => rfl
  | (q, n) :: r => by
    by_cases e : q = p
    · subst e
      rw [show look ((q, n) :: r) q = some n by simp [look]]
      exact valV_pos rfl
    · have : ¬ (Sum.inr q : Key) = Sum.inr p := fun z => e (Sum.inr.inj z)
      rw [show look ((q, n) :: r) p = look r p by simp [look, e], ← kvT_val p r]
      exact valV_neg this
theorem kvT_put (p : Str) (n : Nat) (tk : Tk Str) (nd : (tk.map (·.1)).Nodup) : putK (kvT tk) (Sum.inr p) (V.int (n : Nat)) = kvT (put tk p n) := by
  have e := valV_any (Sum.inr p : Key) (kvT tk)
  rw [kvT_val] at e
  unfold putK
  rw [e]
  cases hl : look tk p with
  | none =>
    rw [if_neg (by decide)]
    suffices h : ∀ tk : Tk Str, look tk p = none → put tk p n = tk ++ [(p, n)] by
      rw [h tk hl]
      unfold kvT
      rw [List.map_append]
      rfl
    intro tk
    induction tk with
    | nil => exact fun _ => rfl
    | cons q r ih =>
      intro h
      by_cases z : q.1 = p
      · rw [show look (q :: r) p = some q.2 by obtain ⟨a, b⟩ := q; simp at z; simp [look, z]] at h
        cases h
      · rw [show look (q :: r) p = look r p by obtain ⟨a, b⟩ := q; simp at z; simp [look, z]] at h
        rw [show put (q :: r) p n = q :: put r p n by obtain ⟨a, b⟩ := q; simp at z; simp [put, z], ih h]
        rfl
  | some m =>
    show (kvT tk).map (fun kv => if kv.1 = (Sum.inr p : Key) then (kv.1, V.int (n : Nat)) else kv) = kvT (put tk p n)
    clear e
    induction tk with
    | nil => cases hl
    | cons q r ih =>
      obtain ⟨q, k⟩ := q
      rw [List.map_cons, List.nodup_cons] at nd
      by_cases z : q = p
      · subst z
        have hr : (kvT r).map (fun kv => if kv.1 = (Sum.inr q : Key) then (kv.1, V.int (n : Nat)) else kv) = kvT r := by
          rw [List.map_congr_left (g := id), List.map_id]
          intro kv hkv
          obtain ⟨e, he, rfl⟩ := List.mem_map.mp hkv
          rw [if_neg fun z => nd.1 (by rw [← Sum.inr.inj z]; exact List.mem_map.mpr ⟨e, he, rfl⟩)]
          rfl
        rw [show put ((q, k) :: r) q n = (q, n) :: r by simp [put]]
        show (if (Sum.inr q : Key) = Sum.inr q then ((Sum.inr q : Key), V.int (n : Nat)) else _) :: (kvT r).map _ = _
        rw [hr, if_pos rfl]
        rfl
      · rw [show look ((q, k) :: r) p = look r p by simp [look, z]] at hl
        rw [show put ((q, k) :: r) p n = (q, k) :: put r p n by simp [put, z]]
        show (if (Sum.inr q : Key) = Sum.inr p then _ else ((Sum.inr q : Key), V.int (k : Nat))) :: (kvT r).map _ = _
        rw [ih nd.2 hl, if_neg fun y => z (Sum.inr.inj y)]
        rfl
/-- all but two places stand -/
def Fr2 (H H' : Hp) (a b : Addr) : Prop := ∀ c u, H c = some u → c ≠ a → c ≠ b → H' c = some u
theorem Fr2.refl (H : Hp) (a b : Addr) : Fr2 H H a b := fun _ _ h _ _ => h
theorem Fr2.trans {H H1 H2 : Hp} {a b : Addr} (f : Fr2 H H1 a b) (g : Fr2 H1 H2 a b) : Fr2 H H2 a b := fun c u h h1 h2 => g c u (f c u h h1 h2) h1 h2
theorem Same.fr2 {H H' : Hp} (s : Same H H') (a b : Addr) : Fr2 H H' a b := fun c u h _ _ => s c u h
theorem fr2_a (H : Hp) (a b : Addr) (o : HO) : Fr2 H (upd H a o) a b := fun c u h h1 _ => by rw [upd_ne h1]; exact h
theorem fr2_b (H : Hp) (a b : Addr) (o : HO) : Fr2 H (upd H b o) a b := fun c u h _ h2 => by rw [upd_ne h2]; exact h
theorem Fr2.kt {H H' : Hp} {a b : Addr} (f : Fr2 H H' a b) (ha : ∀ xs, H a ≠ some (.tup xs)) (hb : ∀ xs, H b ≠ some (.tup xs)) : KT H H' := fun c xs h => f c _ h (fun z => ha xs (z ▸ h)) fun z => hb xs (z ▸ h)
def flds (vw : V) (e t : Addr) : List (Str × V) := [("wishes", vw), ("edges", .ref e), ("taken", .ref t)]
section
variable {vw : V} {e t : Addr}
theorem fl_w : (flds vw e t).lookup ("wishes" : Str) = some vw := rfl
theorem fl_e : (flds vw e t).lookup ("edges" : Str) = some (.ref e) := rfl
theorem fl_t : (flds vw e t).lookup ("taken" : Str) = some (.ref t) := rfl
theorem fl_f : (flds vw e t).lookup ("find" : Str) = none := rfl
theorem fl_r : (flds vw e t).lookup ("reached" : Str) = none := rfl
end
/-- the instance: its fields; the wishes, the edges -/
structure PairI (C : Addr) (ws : List Opt) (H : Hp) (me e t : Addr) (L : Str → Addr) (ks : List Str) (ed : Str → List (Str × Nat)) : Prop where
  ins : ∃ dx vw, H me = some (.ins C dx (flds vw e t)) ∧ OptsA H vw ws
  ed : EdA H e L ks ed
theorem PairI.fr {C : Addr} {ws : List Opt} {H H' : Hp} {me e t : Addr} {L : Str → Addr} {ks : List Str} {ed : Str → List (Str × Nat)} {sl : Addr} {us : List V} {kt : List (Key × V)} (h : PairI C ws H me e t L ks ed) (f : Fr2 H H' sl t) (hsl : H sl = some (.lst us)) (ht : H t = some (.dK kt)) (net : e ≠ t) (nl : ∀ x ∈ ks, L x ≠ sl) :
    PairI C ws H' me e t L ks ed := by
  have k : KT H H' := f.kt (fun xs z => by rw [hsl] at z; cases z) (fun xs z => by rw [ht] at z; cases z)
  refine ⟨?_, ?_, ?_⟩
  · obtain ⟨dx, vw, h1, h7⟩ := h.ins
    exact ⟨dx, vw, f _ _ h1 (fun z => by rw [z, hsl] at h1; cases h1) (fun z => by rw [z, ht] at h1; cases h1), OptsA.mn.mono _ _ _ _ k h7⟩
  · have nes : e ≠ sl := fun z => by
      rcases h.ed.dict with q | ⟨o, q⟩
      · rw [z, hsl] at q; cases q
      · rw [z, hsl] at q; cases q
    rcases h.ed.dict with q | ⟨o, q⟩
    · exact .inl (f _ _ q nes net)
    · exact .inr ⟨o, f _ _ q nes net⟩
  · intro x hx
    obtain ⟨ts, h1, h2⟩ := h.ed.lists x hx
    exact ⟨ts, f _ _ h1 (nl x hx) (fun z => by rw [z, ht] at h1; cases h1), Paired.mono PrA.mn k h2⟩
theorem wishes_at {ws : List Opt} {H : Hp} {vw : V} (h : OptsA H vw ws) {n : Nat} (hn : n < ws.length) : ∃ a vs b, vw = .ref a ∧ H a = some (.tup vs) ∧ atI vs (n : Nat) = some (.ref b) ∧ H b = some (.tup [.str (wn ws n).1, .str (wn ws n).2.1, .str (wn ws n).2.2]) := by
  obtain ⟨a, vs, rfl, ha, pr⟩ := h
  have hw : ws[n]? = some (wn ws n) := by unfold wn; rw [List.getElem?_eq_getElem hn]; rfl
  obtain ⟨v, hv, ⟨b, rfl, hb⟩⟩ := Paired.fst pr hw
  exact ⟨a, vs, b, rfl, ha, atI_nat hv, hb⟩
end W31

set_option maxHeartbeats 4000000
/-! The whole pairing, in plain Lean: a pairing, a cover of its size. -/
namespace W31
open PySem PySem.Spec PyProof.Rows L2
structure WInv (ws : List Opt) (nums : List Nat) (l : List Str) (tk : Tk Str) : Prop where
  inj : ∀ p q m m', look tk p = some m → look tk q = some m' → nmW ws m = nmW ws m' → p = q
  names : ∀ p m, look tk p = some m → nmW ws m ∈ l
  dead : ∀ x ∈ l, (∃ p m, look tk p = some m ∧ nmW ws m = x) ∨ Dead (nmW ws) (edW ws nums) tk x
theorem ed_nm {ws : List Opt} {nums : List Nat} : ∀ y p n, (p, n) ∈ edW ws nums y → nmW ws n = y := fun y p n h => (mem_edW.mp h).2.1
theorem ed_ap {ws : List Opt} {nums : List Nat} : ∀ y p n, (p, n) ∈ edW ws nums y → p ∈ nums.map (prt ws) := fun y p n h => List.mem_map.mpr ⟨n, (mem_edW.mp h).1, (mem_edW.mp h).2.2.symm⟩
theorem WInv.step {ws : List Opt} {nums : List Nat} {l : List Str} {tk : Tk Str} (h : WInv ws nums l tk) {x : Str} (hx : x ∉ l) (few : nums.length ≤ 16) : WInv ws nums (l ++ [x]) (findN (nmW ws) (edW ws nums) 17 x [] tk).2.2 := by
  have rm : Rm (nums.map (prt ws)) 17 [] := ⟨List.nodup_nil, (fun p hp => by cases hp), by rw [List.length_map]; show nums.length < 0 + 17; omega⟩
  have g := findN_gives (ed := edW ws nums) ed_nm ed_ap 17 x [] tk rm
  have pr : Pre (nmW ws) x [] tk := ⟨fun p q m m' _ _ a b c => h.inj p q m m' a b c, fun p m _ a z => hx (z ▸ h.names p m a)⟩
  cases hr : (findN (nmW ws) (edW ws nums) 17 x [] tk).1 with
  | true =>
    have po := g.yes hr pr
    refine ⟨fun p q m m' a b c => po.inj p q m m' (by simp) (by simp) a b c, fun p m a => ?_, fun y hy => ?_⟩
    · rcases po.back p m (by simp) a with e | ⟨q, m', _, e1, e2⟩
      · rw [e]; simp
      · rw [← e2]; exact List.mem_append_left _ (h.names q m' e1)
    · rcases List.mem_append.mp hy with hy | hy
      · rcases h.dead y hy with ⟨p, m, e1, e2⟩ | d
        · obtain ⟨q, m', _, e3, e4⟩ := po.forth p m (by simp) e1
          exact .inl ⟨q, m', e3, e4.trans e2⟩
        · exact .inr (dead_stays d)
      · obtain rfl := List.mem_singleton.mp hy
        obtain ⟨q, m', _, e1, e2⟩ := po.own
        exact .inl ⟨q, m', e1, e2⟩
  | false =>
    have f := g.no hr
    have eq := f.eq
    rw [eq]
    refine ⟨h.inj, fun p m a => List.mem_append_left _ (h.names p m a), fun y hy => ?_⟩
    rcases List.mem_append.mp hy with hy | hy
    · exact h.dead y hy
    · obtain rfl := List.mem_singleton.mp hy
      refine .inr ⟨fun d => ∀ q n, (q, n) ∈ edW ws nums d → q ∈ (findN (nmW ws) (edW ws nums) 17 y [] tk).2.1, fun d hd p n hpn => ?_, fun q n hq => f.all q n hq⟩
      obtain ⟨m, e1, e2⟩ := f.good p (hd p n hpn) (by simp)
      exact ⟨m, e1, e2⟩
theorem tkW_inv (ws : List Opt) (nums : List Nat) (few : nums.length ≤ 16) : WInv ws nums (keysW ws nums) (tkW ws nums) := by
  unfold tkW
  suffices h : ∀ (r l : List Str) (tk : Tk Str), (l ++ r).Nodup → WInv ws nums l tk → WInv ws nums (l ++ r) (wholeT ws nums r tk) from
    h (keysW ws nums) [] [] (keysW_nd ws nums) ⟨fun p q m m' a => by simp [look] at a, fun p m a => by simp [look] at a, fun x hx => by cases hx⟩
  intro r
  induction r with
  | nil => intro l tk _ h; rw [List.append_nil]; exact h
  | cons x r ih =>
    intro l tk nd h
    have hx : x ∉ l := fun z => by
      rw [List.nodup_append] at nd
      exact nd.2.2 x z x List.mem_cons_self rfl
    have := ih (l ++ [x]) _ (by rw [List.append_assoc]; exact nd) (h.step hx few)
    rw [List.append_assoc] at this
    exact this

/-! ### what is reached -/
def Free (ws : List Opt) (tk : Tk Str) (x : Str) : Prop := ∀ p m, look tk p = some m → nmW ws m ≠ x
structure Reach (ws : List Opt) (nums : List Nat) (tk : Tk Str) (names partners : List Str) : Prop where
  init : ∀ x ∈ keysW ws nums, Free ws tk x → x ∈ names
  keys : ∀ x ∈ names, x ∈ keysW ws nums
  least : ∀ S : Str → Prop, (∀ x ∈ keysW ws nums, Free ws tk x → S x) → (∀ x p n m, S x → (p, n) ∈ edW ws nums x → look tk p = some m → S (nmW ws m)) → ∀ x ∈ names, S x
  closed : ∀ x ∈ names, ∀ p n, (p, n) ∈ edW ws nums x → p ∈ partners
  nd : partners.Nodup
  back : ∀ p ∈ partners, (∃ x ∈ names, ∃ n, (p, n) ∈ edW ws nums x) ∧ ∃ m, look tk p = some m ∧ nmW ws m ∈ names
section
variable {ws : List Opt} {nums : List Nat} {tk : Tk Str} {names partners names2 partners2 : List Str}
theorem Reach.sub (r : Reach ws nums tk names partners) (s : Reach ws nums tk names2 partners2) : ∀ x ∈ names, x ∈ names2 :=
  r.least (fun x => x ∈ names2) s.init fun x p n m hx hp hm => by
    obtain ⟨_, m', e1, e2⟩ := s.back p (s.closed x hx p n hp)
    rw [hm] at e1
    cases e1
    exact e2
theorem Reach.subP (r : Reach ws nums tk names partners) (s : Reach ws nums tk names2 partners2) : ∀ p ∈ partners, p ∈ partners2 := fun p hp => by
  obtain ⟨⟨x, hx, n, hn⟩, _⟩ := r.back p hp
  exact s.closed x (r.sub s x hx) p n hn
/-- all letters are good, few wishes -/
structure LOk (ws : List Opt) (nums : List Nat) : Prop where
  low : ∀ n ∈ nums, n < ws.length
  few : nums.length ≤ 16
  ws16 : ws.length ≤ 17
  ok : ∀ w ∈ ws, LetterOk w.2.1
theorem wn_at {n : Nat} (h : n < ws.length) : ws[n]? = some (wn ws n) := by unfold wn; rw [List.getElem?_eq_getElem h]; rfl
theorem wn_mem {n : Nat} (h : n < ws.length) : wn ws n ∈ ws := List.mem_of_getElem? (wn_at h)
theorem own_inj : ∀ n, n < 17 → ∀ m, m < 17 → ("own " ++ ((toString ((n : Nat) : Int) : String) : Str)) = ("own " ++ ((toString ((m : Nat) : Int) : String) : Str)) → n = m := by decide +kernel
theorem own_long : ∀ n, n < 17 → 2 ≤ ("own " ++ ((toString ((n : Nat) : Int) : String) : Str)).length := by decide +kernel
theorem letter_short {l : Str} (h : LetterOk l) : l.length ≤ 1 := by
  rcases h with rfl | ⟨c, rfl, _⟩
  · decide
  · exact Nat.le_refl _
theorem prt_own (k : LOk ws nums) {n m : Nat} (hn : n ∈ nums) (hm : m ∈ nums) (e : (wn ws n).2.1 = "") (h : prt ws n = prt ws m) : n = m := by
  have n17 : n < 17 := Nat.lt_of_lt_of_le (k.low n hn) k.ws16
  have m17 : m < 17 := Nat.lt_of_lt_of_le (k.low m hm) k.ws16
  unfold prt at h
  rw [if_pos e] at h
  split at h
  · exact own_inj n n17 m m17 h
  · have := own_long n n17
    rw [h] at this
    have := letter_short (k.ok _ (wn_mem (k.low m hm)))
    omega
theorem Reach.cov (k : LOk ws nums) (t : TkOk ws nums tk) (i : ∀ p q m m', look tk p = some m → look tk q = some m' → nmW ws m = nmW ws m' → p = q) (r : Reach ws nums tk names partners) {p : Str} (hp : p ∈ partners) :
    ∃ n ∈ nums, (wn ws n).2.1 ≠ "" ∧ p = (wn ws n).2.1 := by
  obtain ⟨⟨x, hx, n, hn⟩, m, hm, hmn⟩ := r.back p hp
  obtain ⟨h1, h2, h3⟩ := mem_edW.mp hn
  have h1 : n ∈ nums := h1
  have h3 : p = prt ws n := h3
  have h2 : nmW ws n = x := h2
  refine ⟨n, h1, fun z => ?_, ?_⟩
  · have mt := t.all (p, m) (look_mem hm)
    have e : n = m := prt_own k h1 mt.1 z (h3.symm.trans mt.2)
    subst e
    refine r.least (fun y => y ≠ x) (fun y hy fr z => fr p n hm (h2.trans z.symm)) (fun y q n' m' hy hq hq' z => ?_) x hx rfl
    have e2 : p = q := i p q n m' hm hq' (h2.trans z.symm)
    subst e2
    obtain ⟨g1, g2, g3⟩ := mem_edW.mp hq
    have e3 : n = n' := prt_own k h1 g1 (by assumption) (h3.symm.trans g3)
    subst e3
    exact hy (g2.symm.trans h2)
  · rw [h3]
    unfold prt
    rw [if_neg]
    intro z
    have mt := t.all (p, m) (look_mem hm)
    have e : n = m := prt_own k h1 mt.1 z (h3.symm.trans mt.2)
    subst e
    refine r.least (fun y => y ≠ x) (fun y hy fr z => fr p n hm (h2.trans z.symm)) (fun y q n' m' hy hq hq' z => ?_) x hx rfl
    have e2 : p = q := i p q n m' hm hq' (h2.trans z.symm)
    subst e2
    obtain ⟨g1, g2, g3⟩ := mem_edW.mp hq
    have e3 : n = n' := prt_own k h1 g1 (by assumption) (h3.symm.trans g3)
    subst e3
    exact hy (g2.symm.trans h2)
/-- each number is covered -/
theorem Reach.all (k : LOk ws nums) (t : TkOk ws nums tk) (i : ∀ p q m m', look tk p = some m → look tk q = some m' → nmW ws m = nmW ws m' → p = q) (r : Reach ws nums tk names partners) {n : Nat} (hn : n ∈ nums) (hx : nmW ws n ∈ names) :
    (wn ws n).2.1 ≠ "" ∧ (wn ws n).2.1 ∈ partners := by
  have hp : prt ws n ∈ partners := r.closed _ hx _ n (mem_edW.mpr ⟨hn, rfl, rfl⟩)
  obtain ⟨m, hm, e1, e2⟩ := r.cov k t i hp
  have ne : (wn ws n).2.1 ≠ "" := fun z => by
    have : prt ws n = prt ws m := by
      rw [e2]
      unfold prt
      rw [if_neg e1]
    have := prt_own k hn hm z this
    subst this
    exact e1 z
  refine ⟨ne, ?_⟩
  have : prt ws n = (wn ws n).2.1 := by unfold prt; rw [if_neg ne]
  rw [← this]
  exact hp
/-- the names of the cover -/
def covN (ws : List Opt) (nums : List Nat) (names : List Str) : List Str := (keysW ws nums).filter fun x => !decide (x ∈ names)
theorem mem_covN {x : Str} : x ∈ covN ws nums names ↔ x ∈ keysW ws nums ∧ x ∉ names := by
  unfold covN
  rw [List.mem_filter]
  simp
theorem Reach.count (t : TkOk ws nums tk) (i : ∀ p q m m', look tk p = some m → look tk q = some m' → nmW ws m = nmW ws m' → p = q) (r : Reach ws nums tk names partners) : (covN ws nums names).length + partners.length = tk.length := by
  have e1 : (tk.filter fun e => decide (e.1 ∈ partners)).length = partners.length := by
    have : ((tk.filter fun e => decide (e.1 ∈ partners)).map (·.1)).length = partners.length := by
      refine nd_same_len ?_ r.nd fun p => ?_
      · exact List.Nodup.sublist (List.Sublist.map _ List.filter_sublist) t.nd
      · constructor
        · intro h
          obtain ⟨e, he, rfl⟩ := List.mem_map.mp h
          exact of_decide_eq_true (List.mem_filter.mp he).2
        · intro h
          obtain ⟨_, m, hm, _⟩ := r.back p h
          exact List.mem_map.mpr ⟨(p, m), List.mem_filter.mpr ⟨look_mem hm, decide_eq_true h⟩, rfl⟩
    rwa [List.length_map] at this
  have e2 : (tk.filter fun e => !decide (e.1 ∈ partners)).length = (covN ws nums names).length := by
    have : ((tk.filter fun e => !decide (e.1 ∈ partners)).map fun e => nmW ws e.2).length = (covN ws nums names).length := by
      refine nd_same_len (nd_map ?_ ?_) (List.Nodup.sublist List.filter_sublist (keysW_nd ws nums)) fun x => ?_
      · have : ((tk.filter fun e => !decide (e.1 ∈ partners)).map (·.1)).Nodup := List.Nodup.sublist (List.Sublist.map _ List.filter_sublist) t.nd
        exact List.Pairwise.of_map _ (fun a b q e => q (congrArg Prod.fst e)) this
      · rintro ⟨p, m⟩ h1 ⟨q, m'⟩ h2 e
        have g1 := mem_look t.nd (List.mem_filter.mp h1).1
        have g2 := mem_look t.nd (List.mem_filter.mp h2).1
        have := i p q m m' g1 g2 e
        subst this
        rw [g1] at g2
        cases g2
        rfl
      · rw [mem_covN]
        constructor
        · intro h
          obtain ⟨⟨p, m⟩, he, rfl⟩ := List.mem_map.mp h
          obtain ⟨g1, g2⟩ := List.mem_filter.mp he
          have mt := t.all (p, m) g1
          refine ⟨(mem_keysW _ _ _).mpr ⟨m, mt.1, rfl⟩, fun z => ?_⟩
          have : p ∈ partners := r.closed _ z p m (mem_edW.mpr ⟨mt.1, rfl, mt.2⟩)
          simp [this] at g2
        · rintro ⟨hx, hn⟩
          refine Classical.byContradiction fun z => hn (r.init x hx fun p m hm e => z ?_)
          refine List.mem_map.mpr ⟨(p, m), List.mem_filter.mpr ⟨look_mem hm, ?_⟩, e⟩
          have : p ∉ partners := fun y => by
            obtain ⟨_, m', hm', hn'⟩ := r.back p y
            rw [hm] at hm'
            cases hm'
            exact hn (e ▸ hn')
          simp [this]
    rwa [List.length_map] at this
  have e3 : ∀ l : Tk Str, (l.filter fun e => decide (e.1 ∈ partners)).length + (l.filter fun e => !decide (e.1 ∈ partners)).length = l.length := by
    intro l
    induction l with
    | nil => rfl
    | cons a l ih =>
      rw [List.filter_cons, List.filter_cons]
      by_cases h : a.1 ∈ partners
      · simp [h] at ih ⊢; omega
      · simp [h] at ih ⊢; omega
  have := e3 tk
  omega
/-- two numbers go together -/
def Far (ws : List Opt) (n m : Nat) : Prop := nmW ws n ≠ nmW ws m ∧ ¬ ((wn ws n).2.1 = (wn ws m).2.1 ∧ (wn ws m).2.1 ≠ "")
theorem Reach.dual (k : LOk ws nums) (t : TkOk ws nums tk) (i : ∀ p q m m', look tk p = some m → look tk q = some m' → nmW ws m = nmW ws m' → p = q) (r : Reach ws nums tk names partners) {S : List Nat} (nd : S.Nodup) (hs : ∀ n ∈ S, n ∈ nums)
    (far : ∀ n ∈ S, ∀ m ∈ S, n ≠ m → Far ws n m) : S.length ≤ tk.length := by
  rw [← r.count t i]
  have := nd_sub_len (l := S.map fun n => if nmW ws n ∈ names then (Sum.inr (wn ws n).2.1 : Str ⊕ Str) else Sum.inl (nmW ws n)) (l' := (covN ws nums names).map Sum.inl ++ partners.map Sum.inr) (nd_map nd fun n hn m hm e => ?_) fun x hx => ?_
  · rw [List.length_map, List.length_append, List.length_map, List.length_map] at this
    exact this
  · refine Classical.byContradiction fun z => ?_
    have f := far n hn m hm z
    by_cases q1 : nmW ws n ∈ names <;> by_cases q2 : nmW ws m ∈ names
    · rw [if_pos q1, if_pos q2] at e
      exact f.2 ⟨Sum.inr.inj e, (r.all k t i (hs m hm) q2).1⟩
    · rw [if_pos q1, if_neg q2] at e; cases e
    · rw [if_neg q1, if_pos q2] at e; cases e
    · rw [if_neg q1, if_neg q2] at e
      exact f.1 (Sum.inl.inj e)
  · obtain ⟨n, hn, rfl⟩ := List.mem_map.mp hx
    by_cases q1 : nmW ws n ∈ names
    · rw [if_pos q1]
      exact List.mem_append_right _ (List.mem_map.mpr ⟨_, (r.all k t i (hs n hn) q1).2, rfl⟩)
    · rw [if_neg q1]
      exact List.mem_append_left _ (List.mem_map.mpr ⟨_, mem_covN.mpr ⟨(mem_keysW _ _ _).mpr ⟨n, hs n hn, rfl⟩, q1⟩, rfl⟩)
/-- the chosen numbers -/
theorem vals_nd (t : TkOk ws nums tk) (i : ∀ p q m m', look tk p = some m → look tk q = some m' → nmW ws m = nmW ws m' → p = q) : (tk.map (·.2)).Nodup := by
  refine nd_map (List.Pairwise.of_map _ (fun a b q e => q (congrArg Prod.fst e)) t.nd) ?_
  rintro ⟨p, m⟩ h1 ⟨q, m'⟩ h2 e
  have e : m = m' := e
  subst e
  have a1 : p = prt ws m := (t.all _ h1).2
  have a2 : q = prt ws m := (t.all _ h2).2
  rw [a1, a2]
theorem vals_far (t : TkOk ws nums tk) (i : ∀ p q m m', look tk p = some m → look tk q = some m' → nmW ws m = nmW ws m' → p = q) : ∀ n ∈ tk.map (·.2), ∀ m ∈ tk.map (·.2), n ≠ m → Far ws n m := by
  intro n hn m hm ne
  obtain ⟨⟨p, n'⟩, h1, rfl⟩ := List.mem_map.mp hn
  obtain ⟨⟨q, m'⟩, h2, rfl⟩ := List.mem_map.mp hm
  have g1 := mem_look t.nd h1
  have g2 := mem_look t.nd h2
  have ne : n' ≠ m' := ne
  refine ⟨fun z => ?_, fun ⟨z1, z2⟩ => ?_⟩
  · have := i p q n' m' g1 g2 z
    subst this
    rw [g1] at g2
    cases g2
    exact ne rfl
  · have h3 : p = prt ws n' := (t.all _ h1).2
    have h4 : q = prt ws m' := (t.all _ h2).2
    have z1 : (wn ws n').2.1 = (wn ws m').2.1 := z1
    have z2 : (wn ws m').2.1 ≠ "" := z2
    have : p = q := by
      rw [h3, h4]
      unfold prt
      rw [if_neg z2, if_neg (z1 ▸ z2), z1]
    subst this
    rw [g1] at g2
    cases g2
    exact ne rfl
end
end W31

set_option maxHeartbeats 4000000
/-! Pairing.find. -/
namespace W31
open PySem PySem.Spec PyProof.Rows L2
structure FindP (C : Addr) (k : Nat) (ws : List Opt) (nums : List Nat) (H : Hp) (me : Addr) (x : Str) (sl e t : Addr) (L : Str → Addr) (seen : List Str) (tk : Tk Str) : Prop where
  pi : PairI C ws H me e t L (keysW ws nums) (edW ws nums)
  net : e ≠ t
  nl : ∀ y ∈ keysW ws nums, L y ≠ sl
  hx : x ∈ keysW ws nums
  hs : H sl = some (.lst (seen.map V.str))
  ht : H t = some (.dK (kvT tk))
  rm : Rm (nums.map (prt ws)) k seen
  tko : TkOk ws nums tk
  low : ∀ n ∈ nums, n < ws.length
  few : nums.length ≤ 16
abbrev fnd (ws : List Opt) (nums : List Nat) (k : Nat) (x : Str) (seen : List Str) (tk : Tk Str) := findN (nmW ws) (edW ws nums) k x seen tk
def spFind (C : Addr) (k : Nat) : Sp := fun vs H Q _ => ∃ (me : Addr) (x : Str) (sl e t : Addr) (L : Str → Addr) (ws : List Opt) (nums : List Nat) (seen : List Str) (tk : Tk Str), vs = [.ref me, .str x, .ref sl] ∧ FindP C k ws nums H me x sl e t L seen tk ∧
  ∀ H', Fr2 H H' sl t → H' sl = some (.lst ((fnd ws nums k x seen tk).2.1.map V.str)) → H' t = some (.dK (kvT (fnd ws nums k x seen tk).2.2)) → Q (.bl (fnd ws nums k x seen tk).1) H'
theorem rm_le {ap : List Str} {k : Nat} {seen : List Str} (h : Rm ap k seen) : seen.length ≤ ap.length := nd_sub_len h.nd h.sub
section
variable {P : Program} {w : World} {K : PySem.W.Frag} {mg : Str → Option Value} {base : Heap} {C aK aA : Addr}
abbrev s_find : Stmt := inClass (top 35) 1
abbrev N_find : List Str := ["self", "name", "seen", "partner", "number"]
theorem sc_find : FnScope N_find ["self", "name", "seen"] (defScope s_find) := ⟨rfl, rfl, rfl, by decide +kernel, rfl, by decide +kernel, by decide +kernel⟩
theorem ok_find {fF : Addr} {fdF : FuncData} (F : Fun K "find" "Pairing.find" s_find fF fdF) (bF : Binds K fdF ["self", "name", "seen"] []) (mFind : Meth K C "find" fF) (T : Txt K mg C aK aA) : ∀ k, FnOk P w K mg base CX0 k fF fdF ["self", "name", "seen"] (spFind C k)
  | 0 => ⟨fun vs H Q E h => by
      obtain ⟨me, x, sl, e, t, L, ws, nums, seen, tk, rfl, hp, _⟩ := h
      exact hp.rm.pos.elim, fun A outer s H args us vs Q E hr he hb hv h => by
      obtain ⟨me, x, sl, e, t, L, ws, nums, seen, tk, rfl, hp, _⟩ := h
      exact hp.rm.pos.elim⟩
  | k + 1 => by
    have GF := ok_find F bF mFind T k
    refine F.ok sc_find (fun vs H Q E h => ?_) (fun cdv A outer s H vs Q E hr h => ?_)
    · obtain ⟨me, x, sl, e, t, L, ws, nums, seen, tk, rfl, _⟩ := h
      rfl
    obtain ⟨me, x, sl, e, t, L, ws, nums, seen, tk, rfl, hp, q⟩ := h
    have nd := sc_find.nd
    have hu := hu_of hr
    have hrF := hr
    obtain ⟨ts, hts, prs⟩ := hp.pi.ed.lists x hp.hx
    have hlen := Paired.len prs
    have few := hp.few
    have hnm : ∀ y p n, (p, n) ∈ edW ws nums y → nmW ws n = y := fun y p n h => (mem_edW.mp h).2.1
    have hap : ∀ y p n, (p, n) ∈ edW ws nums y → p ∈ nums.map (prt ws) := fun y p n h => List.mem_map.mpr ⟨n, (mem_edW.mp h).1, (mem_edW.mp h).2.2.symm⟩
    obtain ⟨dx, vw, hme, hww⟩ := hp.pi.ins
    refine ⟨_, (pss_cons (ps_for PassesOwn.never rfl (pi_listK K rfl (pe_dget hu (pe_fldK K rfl (pv 0) rfl) (pv 1) (fun _ _ => rfl))) (pg_tupK (n := 2) K rfl rfl (pgs_cons (pg_name (i := 3) nd rfl (Or.inl rfl)) (pgs_cons (pg_name (i := 4) nd rfl (Or.inl rfl)) pgs_nil)))
    (pss_cons (ps_if (pt_cmpR (op_inK K rfl) (pv 3) (pv 2) (by rfl))
    (pss_one ps_continue)
    pss_nil)
    (pss_cons (ps_expr (pe_bm PySem.F.plainAttrs_list PySem.F.slot_list_append PySem.F.type_list_append mt_append (pv 2) (pa_cons (pv 3) pa_nil)))
    (pss_one (ps_if (PW.pt (pw_or (pt_cmp (pc_dnotin hu (pv 3) (pe_fldK K rfl (pv 0) rfl))) (pw_or1 (pt_val (pe_meth (pv 0) T.cl mFind GF hrF bF .nil pass0 (pa_cons (pe_ix (ix_tupK K rfl) (pe_ix (ix_tupK K rfl) (pe_fldK K rfl (pv 0) rfl) (pe_dget hu (pe_fldK K rfl (pv 0) rfl) (pv 3) (fun _ _ => rfl)) (fun _ _ => rfl)) pe_int (fun _ _ => rfl)) (pa_cons (pv 2) pa_nil)))))))
    (pss_cons (ps_dput hu (pe_fldK K rfl (pv 0) rfl) (pv 3) (pv 4) rfl)
    (pss_one (ps_ret pe_bl)))
    pss_nil)))))
    (pss_one (ps_ret pe_bl))), ?_⟩
    refine ⟨_, rfl, me, C, _, _, _, rfl, hme, T.cl, T.nE, fl_e, _, rfl, e, _, rfl, .inl ⟨_, Sum.inr x, hp.pi.ed.dict, rfl, (kvE_val hp.hx).symm⟩, L x, rfl, ⟨_, SqL.of hts⟩, ?_⟩
    refine for_it (walk_list (xs := ts)) (fun i σ H' => ∃ (o3 o4 : Option V) (s1 : List Str) (t1 : Tk Str), σ = [some (.ref me), some (.str x), some (.ref sl), o3, o4] ∧ Fr2 H H' sl t ∧ H' sl = some (.lst (s1.map V.str)) ∧ H' t = some (.dK (kvT t1)) ∧
        Rm (nums.map (prt ws)) (k + 1) s1 ∧ TkOk ws nums t1 ∧ tryE (nmW ws) (fnd ws nums k) ((edW ws nums x).drop i) s1 t1 = fnd ws nums (k + 1) x seen tk)
      ⟨none, none, seen, tk, rfl, Fr2.refl _ _ _, hp.hs, hp.ht, hp.rm, hp.tko, rfl⟩ (fun i σ H' hi ⟨_, _, _, _, _, f, _⟩ => ?_) ?_ ?_
    · refine SqL.of (f _ _ hts (hp.nl x hp.hx) fun z => ?_)
      rw [z, hp.ht] at hts
      cases hts
    · rintro i v σ H2 H1 hi ⟨o3, o4, s1, t1, rfl, f, h1, h2, rm, tko, er⟩ ⟨rfl, hv⟩
      obtain ⟨⟨p, n⟩, hpn, ⟨a, rfl, ha⟩⟩ := Paired.snd prs hv
      have hin : (p, n) ∈ edW ws nums x := List.mem_of_getElem? hpn
      obtain ⟨m1, m2, m3⟩ := mem_edW.mp hin
      have m3 : p = prt ws n := m3
      have drop : (edW ws nums x).drop i = (p, n) :: (edW ws nums x).drop (i + 1) := by
        obtain ⟨hi', e'⟩ := List.getElem?_eq_some_iff.mp hpn
        rw [← e']
        exact List.drop_eq_getElem_cons hi'
      rw [drop] at er
      have ha1 : H1 a = some (.tup [.str p, .int (n : Nat)]) := f _ _ ha (fun z => by rw [z, hp.hs] at ha; cases ha) (fun z => by rw [z, hp.ht] at ha; cases ha)
      have nst : sl ≠ t := fun z => by have := hp.hs; rw [z, hp.ht] at this; cases this
      refine ⟨a, _, rfl, SqT.of ha1, rfl, _, _, rfl, _, _, rfl, rfl, ?_⟩
      refine ⟨_, rfl, _, rfl, sl, _, rfl, .inl (SqL.of h1), rfl, flat_strs _, _, rfl, ?_⟩
      show if inV (V.str p) (s1.map V.str) = true then _ else _
      rw [inV_memS]
      refine ite2 (fun c => ?_) (fun c => ?_)
      · refine ⟨_, _, s1, t1, rfl, f, h1, h2, rm, tko, ?_⟩
        rw [← er]
        show _ = if p ∈ s1 then _ else _
        rw [if_pos (memS_iff.mp c)]
      have np : p ∉ s1 := fun z => c (memS_iff.mpr z)
      have er : (match look t1 p with
        | none => (true, s1 ++ [p], put t1 p n)
        | some m => match fnd ws nums k (nmW ws m) (s1 ++ [p]) t1 with
          | (true, s2, t2) => (true, s2, put t2 p n)
          | (false, s2, t2) => tryE (nmW ws) (fnd ws nums k) ((edW ws nums x).drop (i + 1)) s2 t2) = fnd ws nums (k + 1) x seen tk := by
        rw [← er]
        show _ = if p ∈ s1 then _ else _
        rw [if_neg np]
        cases look t1 p with
        | none => rfl
        | some m =>
          dsimp only
          rcases fnd ws nums k (nmW ws m) (s1 ++ [p]) t1 with ⟨_ | _, s2, t2⟩ <;> rfl
      have sl16 : s1.length ≤ 16 := by
        have := rm_le rm
        rw [List.length_map] at this
        omega
      refine ⟨_, rfl, .inl ⟨rfl, _, SqL.of h1⟩, _, rfl, sl, _, _, rfl, rfl, h1, small1000 (by rw [List.length_map]; omega), ?_⟩
      have f3 : Fr2 H (upd H1 sl (.lst (s1.map V.str ++ [V.str p]))) sl t := f.trans (fr2_a H1 sl t _)
      have mapn : s1.map V.str ++ [V.str p] = (s1 ++ [p]).map V.str := by rw [List.map_append]; rfl
      rw [mapn] at f3 ⊢
      have h13 : (upd H1 sl (.lst ((s1 ++ [p]).map V.str))) sl = some (.lst ((s1 ++ [p]).map V.str)) := upd_same
      have h23 : (upd H1 sl (.lst ((s1 ++ [p]).map V.str))) t = some (.dK (kvT t1)) := by rw [upd_ne nst.symm]; exact h2
      obtain ⟨H3, hH3⟩ : ∃ H3, H3 = upd H1 sl (.lst ((s1 ++ [p]).map V.str)) := ⟨_, rfl⟩
      rw [← hH3] at f3 h13 h23 ⊢
      have pi3 := hp.pi.fr f3 hp.hs hp.ht hp.net hp.nl
      obtain ⟨dx3, vw3, hme3, hww3⟩ := pi3.ins
      have tkl : ∀ t' : Tk Str, TkOk ws nums t' → (kvT t').length < sizeLine := fun t' z => by
        unfold kvT
        rw [sizeLine_eq, List.length_map]
        have := z.len
        omega
      refine ⟨_, rfl, _, rfl, me, C, _, _, _, rfl, hme3, T.cl, T.nT, fl_t, t, (look t1 p).map fun n => V.int (n : Nat), rfl, .inl ⟨_, Sum.inr p, .inl h23, rfl, (kvT_val p t1).symm⟩, ?_⟩
      cases hl : look t1 p with
      | none =>
        rw [hl] at er
        refine ⟨_, rfl, ?_⟩
        refine iteT ?_
        refine ⟨_, rfl, _, rfl, me, C, _, _, _, rfl, hme3, T.cl, T.nT, fl_t, _, rfl, t, _, rfl, DPut.k (k := Sum.inr p) h23 (tkl _ tko), ?_⟩
        have := q (upd H3 t (.dK (putK (kvT t1) (Sum.inr p) (V.int (n : Nat))))) (f3.trans (fr2_b _ _ _ _)) (by rw [upd_ne nst, h13, ← er]) (by rw [upd_same, kvT_put _ _ _ tko.nd, ← er])
        rw [← er] at this
        exact this
      | some m =>
        rw [hl] at er
        dsimp only at er
        have mt := tko.all (p, m) (look_mem hl)
        have mlt := hp.low m mt.1
        obtain ⟨wa, wvs, wb, hvw, hwa, hat, hwb⟩ := wishes_at hww3 mlt
        refine ⟨_, rfl, ?_⟩
        refine iteF ?_
        refine ⟨_, rfl, me, _, _, rfl, hme3, fl_f, _, rfl, me, C, _, _, _, rfl, hme3, T.cl, T.nW, fl_w, _, rfl, me, C, _, _, _, rfl, hme3, T.cl, T.nT, fl_t, _, rfl, t, V.int (m : Nat), rfl, .inl ⟨_, Sum.inr p, .inl h23, rfl, by rw [kvT_val, hl]; rfl⟩,
          wa, _, _, _, hvw, rfl, SqT.of hwa, hat, wb, _, 0, _, rfl, rfl, SqT.of hwb, atI_nat (j := 0) rfl, _, rfl, me, nmW ws m, sl, e, t, L, ws, nums, s1 ++ [p], t1, rfl,
          ⟨pi3, hp.net, hp.nl, (mem_keysW _ _ _).mpr ⟨m, mt.1, rfl⟩, h13, h23, rm.next np (hap _ _ _ hin), tko, hp.low, hp.few⟩, fun H4 f4 h14 h24 => ?_⟩
        have gv := findN_gives hnm hap k (nmW ws m) (s1 ++ [p]) t1 (rm.next np (hap _ _ _ hin))
        have tk4 := tko.findN k (nmW ws m) (s1 ++ [p])
        have f4' := f3.trans f4
        refine ⟨_, rfl, ?_⟩
        cases hR : fnd ws nums k (nmW ws m) (s1 ++ [p]) t1 with
        | mk b r =>
          obtain ⟨s2, t2⟩ := r
          rw [hR] at er h14 h24
          unfold fnd at hR
          rw [hR] at gv tk4
          cases b with
          | true =>
            refine iteT ?_
            have pi4 := hp.pi.fr f4' hp.hs hp.ht hp.net hp.nl
            obtain ⟨dx4, vw4, hme4, hww4⟩ := pi4.ins
            refine ⟨_, rfl, _, rfl, me, C, _, _, _, rfl, hme4, T.cl, T.nT, fl_t, _, rfl, t, _, rfl, DPut.k (k := Sum.inr p) h24 (tkl _ tk4), ?_⟩
            have := q (upd H4 t (.dK (putK (kvT t2) (Sum.inr p) (V.int (n : Nat))))) (f4'.trans (fr2_b _ _ _ _)) (by rw [upd_ne nst, h14, ← er]) (by rw [upd_same, kvT_put _ _ _ tk4.nd, ← er])
            rw [← er] at this
            exact this
          | false =>
            refine iteF ?_
            refine ⟨_, _, s2, t2, rfl, f4', h14, h24, ⟨gv.nd, gv.ins, ?_⟩, tk4, er⟩
            have h5 : s1.length ≤ s2.length := nd_sub_len rm.nd fun y hy => gv.sub y (List.mem_append_left _ hy)
            have h6 : (nums.map (prt ws)).length < s1.length + (k + 1) := rm.len
            show (nums.map (prt ws)).length < s2.length + (k + 1)
            omega
    · rintro σ H1 ⟨o3, o4, s1, t1, rfl, f, h1, h2, rm, tko, er⟩
      rw [hlen, List.drop_length] at er
      have := q H1 f (by rw [h1, ← er]; rfl) (by rw [h2, ← er]; rfl)
      rw [← er] at this
      exact this
end
end W31

set_option maxHeartbeats 4000000
/-! Pairing.__init__. -/
namespace W31
open PySem PySem.Spec PyProof.Rows L2
def FrM (H H' : Hp) (me : Addr) : Prop := ∀ c u, H c = some u → c ≠ me → H' c = some u
theorem FrM.free {H H' : Hp} {me z : Addr} {u : HO} (f : FrM H H' me) (hz : H' z = none) (hm : H' me = some u) : H z = none := by
  cases h : H z with
  | none => rfl
  | some v => rw [f z v h fun e => by rw [e, hm] at hz; cases hz] at hz; cases hz
structure InitS (C : Addr) (dx : Addr) (H : Hp) (me : Addr) (vw : V) (e t : Addr) (H' : Hp) (L : Str → Addr) (ks : List Str) (ed : Str → List (Str × Nat)) : Prop where
  fr : FrM H H' me
  hme : H' me = some (.ins C dx (flds vw e t))
  he : H' e = some (.dK (kvE L ks))
  ht : H' t = some (.dK [])
  new : ∀ x ∈ ks, H (L x) = none
  ls : ∀ x ∈ ks, ∃ ts, H' (L x) = some (.lst ts) ∧ Paired (PrA H') ts (ed x)
  inj : ∀ x ∈ ks, ∀ y ∈ ks, L x = L y → x = y
theorem InitS.more {C dx : Addr} {H : Hp} {me : Addr} {vw : V} {e t : Addr} {H' : Hp} {L : Str → Addr} {ks : List Str} {ed : Str → List (Str × Nat)} {nm : Str} {z : Addr} (h : InitS C dx H me vw e t H' L ks ed) (h0 : H e = none) (net : e ≠ t) (hn : nm ∉ ks) (hed : ed nm = []) (hz : H' z = none) :
    InitS C dx H me vw e t (upd (upd H' z (.lst [])) e (.dK (putK (kvE L ks) (Sum.inr nm) (.ref z)))) (fun x => if x = nm then z else L x) (ks ++ [nm]) ed := by
  have zm : me ≠ z := ne_of_none h.hme hz
  have ze : e ≠ z := ne_of_none h.he hz
  have zt : t ≠ z := ne_of_none h.ht hz
  have em : me ≠ e := fun q => by have := h.hme; rw [q, h.he] at this; cases this
  have hz0 : H z = none := h.fr.free hz h.hme
  have k : KT H' (upd (upd H' z (.lst [])) e (.dK (putK (kvE L ks) (Sum.inr nm) (.ref z)))) := fun b xs q => by
    rw [upd_ne (fun y => by rw [y, h.he] at q; cases q), upd_ne (ne_of_none q hz)]
    exact q
  refine ⟨fun c u hc hcm => ?_, ?_, ?_, ?_, fun x hx => ?_, fun x hx => ?_, fun x hx y hy hxy => ?_⟩
  · rw [upd_ne (fun q => by rw [q, h0] at hc; cases hc), upd_ne (fun q => by rw [q, hz0] at hc; cases hc)]
    exact h.fr c u hc hcm
  · rw [upd_ne em, upd_ne zm]; exact h.hme
  · rw [upd_same, putK_new _ (kvE_none hn)]
    congr 2
    unfold kvE
    rw [List.map_append]
    congr 1
    · exact List.map_congr_left fun x hx => by dsimp only; rw [if_neg (show ¬ x = nm from fun q => hn (q ▸ hx))]
    · show _ = [(Sum.inr nm, V.ref (if nm = nm then z else L nm))]
      rw [if_pos rfl]
  · rw [upd_ne net.symm, upd_ne zt]; exact h.ht
  · show H (if x = nm then z else L x) = none
    split
    · exact hz0
    · next q => exact h.new x ((List.mem_append.mp hx).resolve_right fun y => q (List.mem_singleton.mp y))
  · show ∃ ts, (upd (upd H' z (.lst [])) e _) (if x = nm then z else L x) = some (.lst ts) ∧ _
    split
    · next q => exact ⟨[], by rw [upd_ne ze.symm, upd_same], by rw [q, hed]; exact .nil⟩
    · next q =>
      obtain ⟨ts, h1, h2⟩ := h.ls x ((List.mem_append.mp hx).resolve_right fun y => q (List.mem_singleton.mp y))
      exact ⟨ts, by rw [upd_ne (fun y => by rw [y, h.he] at h1; cases h1), upd_ne (ne_of_none h1 hz)]; exact h1, Paired.mono PrA.mn k h2⟩
  · have lz : ∀ x ∈ ks, L x ≠ z := fun x hx q => by
      obtain ⟨ts, h1, h2⟩ := h.ls x hx
      rw [q, hz] at h1
      cases h1
    have hxy : (if x = nm then z else L x) = if y = nm then z else L y := hxy
    by_cases q1 : x = nm <;> by_cases q2 : y = nm
    · rw [q1, q2]
    · rw [if_pos q1, if_neg q2] at hxy
      exact absurd hxy.symm (lz y ((List.mem_append.mp hy).resolve_right fun y => q2 (List.mem_singleton.mp y)))
    · rw [if_neg q1, if_pos q2] at hxy
      exact absurd hxy (lz x ((List.mem_append.mp hx).resolve_right fun y => q1 (List.mem_singleton.mp y)))
    · rw [if_neg q1, if_neg q2] at hxy
      exact h.inj x ((List.mem_append.mp hx).resolve_right fun y => q1 (List.mem_singleton.mp y)) y ((List.mem_append.mp hy).resolve_right fun y => q2 (List.mem_singleton.mp y)) hxy
theorem InitS.app {C dx : Addr} {H : Hp} {me : Addr} {vw : V} {e t : Addr} {H' : Hp} {L : Str → Addr} {ks : List Str} {ed ed' : Str → List (Str × Nat)} {nm : Str} {T : Addr} {ts : List V} {p : Str} {n : Nat} (h : InitS C dx H me vw e t H' L ks ed) (hn : nm ∈ ks) (hT : H' T = none)
    (hts : H' (L nm) = some (.lst ts)) (hed : ∀ x, ed' x = ed x ++ if nm = x then [(p, n)] else []) :
    InitS C dx H me vw e t (upd (upd H' T (.tup [.str p, .int (n : Nat)])) (L nm) (.lst (ts ++ [.ref T]))) L ks ed' := by
  have Tm : me ≠ T := ne_of_none h.hme hT
  have Te : e ≠ T := ne_of_none h.he hT
  have Tt : t ≠ T := ne_of_none h.ht hT
  have lT : L nm ≠ T := ne_of_none hts hT
  have lm : me ≠ L nm := fun q => by have := h.hme; rw [q, hts] at this; cases this
  have le : e ≠ L nm := fun q => by have := h.he; rw [q, hts] at this; cases this
  have lt : t ≠ L nm := fun q => by have := h.ht; rw [q, hts] at this; cases this
  have hT0 : H T = none := h.fr.free hT h.hme
  have k : KT H' (upd (upd H' T (.tup [.str p, .int (n : Nat)])) (L nm) (.lst (ts ++ [.ref T]))) := fun b xs q => by
    rw [upd_ne (fun y => by rw [y, hts] at q; cases q), upd_ne (ne_of_none q hT)]
    exact q
  refine ⟨fun c u hc hcm => ?_, ?_, ?_, ?_, h.new, fun x hx => ?_, h.inj⟩
  · rw [upd_ne (fun q => by rw [q, h.new nm hn] at hc; cases hc), upd_ne (fun q => by rw [q, hT0] at hc; cases hc)]
    exact h.fr c u hc hcm
  · rw [upd_ne lm, upd_ne Tm]; exact h.hme
  · rw [upd_ne le, upd_ne Te]; exact h.he
  · rw [upd_ne lt, upd_ne Tt]; exact h.ht
  · obtain ⟨ts', h1, h2⟩ := h.ls x hx
    by_cases q : nm = x
    · subst q
      rw [hts] at h1
      cases h1
      refine ⟨_, upd_same, ?_⟩
      rw [hed, if_pos rfl]
      exact Paired.app (Paired.mono PrA.mn k h2) (.cons ⟨T, rfl, by rw [upd_ne lT.symm, upd_same]⟩ .nil)
    · refine ⟨ts', ?_, ?_⟩
      · rw [upd_ne fun y => q (h.inj nm hn x hx y.symm), upd_ne (ne_of_none h1 hT)]
        exact h1
      · rw [hed, if_neg q, List.append_nil]
        exact Paired.mono PrA.mn k h2
theorem app_pair {K : PySem.W.Frag} {σ : L2.St} {H4 : Hp} {Q' : VK} {l : Addr} {ts : List V} {p : Str} {n : Nat} (hl : H4 l = some (.lst ts)) (hz : ts.length < 1000) (h7 : σ[7]? = some (some (.str p))) (h3 : σ[3]? = some (some (.int (n : Nat))))
    (k : ∀ T, H4 T = none → Q' .non (upd (upd H4 T (.tup [.str p, .int (n : Nat)])) l (.lst (ts ++ [.ref T])))) :
    tyV K "list" (.ref l) H4 ∧ tCons (tTup (tCons (tVar 7) (tCons (tVar 3) tNil))) tNil σ H4 (fun xs H2 => rAppend (.ref l) xs H2 Q') := by
  refine ⟨.inl ⟨rfl, _, SqL.of hl⟩, _, h7, _, h3, by show 2 ≤ sizeLine; decide, fun T hT => ?_⟩
  refine ⟨l, ts, .ref T, rfl, rfl, ?_, small1000 (by omega), k T hT⟩
  rw [upd_ne (ne_of_none hl hT)]
  exact hl
structure InP (C : Addr) (ws : List Opt) (nums : List Nat) (H : Hp) (me dx : Addr) (vw : V) (ln : Addr) : Prop where
  hme : H me = some (.ins C dx [])
  hw : OptsA H vw ws
  hl : H ln = some (.lst (natsV nums))
  low : ∀ n ∈ nums, n < ws.length
  few : nums.length ≤ 16
  ws16 : ws.length ≤ 17
structure PairD (C : Addr) (ws : List Opt) (nums : List Nat) (H : Hp) (me : Addr) : Prop where
  ex : ∃ e t L, PairI C ws H me e t L (keysW ws nums) (edW ws nums) ∧ H e = some (.dK (kvE L (keysW ws nums))) ∧ H t = some (.dK (kvT (tkW ws nums)))
def spInit (C : Addr) : Sp := fun vs H Q _ => ∃ (me dx : Addr) (vw : V) (ln : Addr) (ws : List Opt) (nums : List Nat), vs = [.ref me, vw, .ref ln] ∧ InP C ws nums H me dx vw ln ∧ ∀ H', FrM H H' me → PairD C ws nums H' me → Q .non H'
theorem own_short : ∀ n, n < 17 → ("own " : Str).length + ((toString ((n : Nat) : Int) : String) : Str).length ≤ 1000 := by decide +kernel
theorem log_short : ∀ n : Nat, n < 17 → ((n : Nat) : Int).natAbs.log2 < 1920 := by decide +kernel
section
variable {P : Program} {w : World} {K : PySem.W.Frag} {mg : Str → Option Value} {base : Heap} {C aK aA : Addr}
abbrev s_init : Stmt := inClass (top 35) 0
abbrev N_init : List Str := ["self", "wishes", "numbers", "number", "name", "letter", "kind", "partner"]
theorem sc_init : FnScope N_init ["self", "wishes", "numbers"] (defScope s_init) := ⟨rfl, rfl, rfl, by decide +kernel, rfl, by decide +kernel, by decide +kernel⟩
theorem ok_init {fI fF : Addr} {fdI fdF : FuncData} (F : Fun K "__init__" "Pairing.__init__" s_init fI fdI) (GF : FnOk P w K mg base CX0 17 fF fdF ["self", "name", "seen"] (spFind C 17)) (bF : Binds K fdF ["self", "name", "seen"] []) (mFind : Meth K C "find" fF) (T : Txt K mg C aK aA) :
    FnOk P w K mg base CX0 18 fI fdI ["self", "wishes", "numbers"] (spInit C) := by
  refine F.ok sc_init (fun vs H Q E h => ?_) (fun cdv A outer s H vs Q E hr h => ?_)
  · obtain ⟨me, dx, vw, ln, ws, nums, rfl, _⟩ := h
    rfl
  obtain ⟨me, dx, vw, ln, ws, nums, rfl, hp, q⟩ := h
  have nd := sc_init.nd
  have hu := hu_of hr
  have hrF := hr
  have few := hp.few
  have lm : ln ≠ me := fun z => by have := hp.hl; rw [z, hp.hme] at this; cases this
  refine ⟨_, (pss_cons (ps_fld (pv 0) (pv 1) rfl)
    (pss_cons (ps_fld (pv 0) pe_dnewK rfl)
    (pss_cons (ps_fld (pv 0) pe_dnewK rfl)
    (pss_cons (ps_for PassesOwn.never rfl (pi_listK K rfl (pv 2)) (pg_name (i := 3) nd rfl (Or.inl rfl))
    (pss_cons (ps_asg (pe_ix (ix_tupK K rfl) (pv 1) (pv 3) (fun _ _ => rfl)) (pg_tupK (n := 3) K rfl rfl (pgs_cons (pg_name (i := 4) nd rfl (Or.inl rfl)) (pgs_cons (pg_name (i := 5) nd rfl (Or.inl rfl)) (pgs_cons (pg_name (i := 6) nd rfl (Or.inl rfl)) pgs_nil)))))
    (pss_cons (ps_set (i := 7) nd rfl (Or.inl rfl) (pe_ifExp (pt_cmpR op_ne (pv 5) pe_str (nomark _)) (pv 5) (pe_op op_add_str pe_str (pe_callTy call_str_int (by rfl) T.n_str W31.boot_str (pa_cons (pv 3) pa_nil)))))
    (pss_one (ps_expr (pe_bm PySem.F.plainAttrs_list PySem.F.slot_list_append PySem.F.type_list_append mt_append (pe_dsetd (pe_fldK K rfl (pv 0) rfl) (pv 4) (pe_lst pa_nil) ⟨rfl, rfl, rfl, rfl⟩) (pa_cons (pe_tup (pa_cons (pv 7) (pa_cons (pv 3) pa_nil))) pa_nil)))))))
    (pss_one (ps_lock (ps_for PassesOwn.never rfl (pi_keys (pe_fldK K rfl (pv 0) rfl)) (pg_name (i := 4) nd rfl (Or.inl rfl))
    (pss_one (ps_expr (pe_meth (pv 0) T.cl mFind GF hrF bF .nil pass0 (pa_cons (pv 4) (pa_cons (pe_lst pa_nil) pa_nil)))))))))))), ?_⟩
  refine ⟨_, rfl, _, rfl, me, C, dx, _, rfl, hp.hme, T.cl, T.nW, by decide, ?_⟩
  intro e he
  have em : me ≠ e := fun z => by rw [← z, upd_same] at he; cases he
  have he0 : H e = none := by rw [upd_ne em.symm] at he; exact he
  refine ⟨_, rfl, me, C, dx, _, rfl, by rw [upd_ne em, upd_same], T.cl, T.nE, by show 1 < 1000; decide, ?_⟩
  intro t ht
  have tm : me ≠ t := fun z => by rw [← z, upd_same] at ht; cases ht
  have te : e ≠ t := fun z => by rw [← z, upd_ne em.symm, upd_same] at ht; cases ht
  have ht0 : H t = none := by rw [upd_ne tm.symm, upd_ne te.symm, upd_ne tm.symm] at ht; exact ht
  refine ⟨_, rfl, me, C, dx, _, rfl, by rw [upd_ne tm, upd_same], T.cl, T.nT, by show 2 < 1000; decide, ?_⟩
  have S0 : InitS C dx H me vw e t (upd (upd (upd (upd (upd H me (.ins C dx (putF "wishes" vw []))) e (.dK [])) me (.ins C dx (putF "edges" (.ref e) (putF "wishes" vw [])))) t (.dK [])) me (.ins C dx (putF "taken" (.ref t) (putF "edges" (.ref e) (putF "wishes" vw []))))) (fun _ => e) [] (edW ws []) := by
    refine ⟨fun c u hc hcm => ?_, ?_, ?_, ?_, (fun x hx => by cases hx), (fun x hx => by cases hx), (fun x hx => by cases hx)⟩
    · rw [upd_ne hcm, upd_ne (fun q => by rw [q, ht0] at hc; cases hc), upd_ne hcm, upd_ne (fun q => by rw [q, he0] at hc; cases hc), upd_ne hcm]
      exact hc
    · rw [upd_same]; rfl
    · rw [upd_ne em.symm, upd_ne te, upd_ne em.symm, upd_same]; rfl
    · rw [upd_ne tm.symm, upd_same]
  refine ⟨_, rfl, ln, rfl, ⟨_, SqL.of (S0.fr _ _ hp.hl lm)⟩, ?_⟩
  refine for_it (walk_list (xs := natsV nums)) (fun i σ H' => ∃ (o3 o4 o5 o6 o7 : Option V) (L : Str → Addr), σ = [some (.ref me), some vw, some (.ref ln), o3, o4, o5, o6, o7] ∧ InitS C dx H me vw e t H' L (keysW ws (nums.take i)) (edW ws (nums.take i)))
    ⟨none, none, none, none, none, _, rfl, S0⟩ (fun i σ H' hi ⟨_, _, _, _, _, _, _, S⟩ => SqL.of (S.fr _ _ hp.hl lm)) ?_ ?_
  · rintro i v σ H2 H1 hi ⟨o3, o4, o5, o6, o7, L, rfl, S⟩ ⟨rfl, hv⟩
    unfold natsV at hv
    rw [List.getElem?_map] at hv
    obtain ⟨n, hn, rfl⟩ := Option.map_eq_some_iff.mp hv
    have nin : n ∈ nums := List.mem_of_getElem? hn
    have nlt := hp.low n nin
    have k1 : KT H H1 := fun b xs z => S.fr _ _ z fun y => by rw [y, hp.hme] at z; cases z
    obtain ⟨wa, wvs, wb, hvw, hwa, hat, hwb⟩ := wishes_at (OptsA.mn.mono _ _ _ _ k1 hp.hw) nlt
    refine ⟨_, rfl, _, rfl, wa, _, _, _, hvw, rfl, SqT.of hwa, hat, wb, _, rfl, SqT.of hwb, rfl, _, _, rfl, _, _, rfl, _, _, rfl, rfl, ?_⟩
    dsimp only
    refine asg_ev (v := .str (prt ws n)) (fun Q q => ?_) (fun H3 s3 => ?_)
    · refine ⟨_, rfl, rfl, _, rfl, ?_⟩
      rw [str_ne]
      have q0 := q H1 (Same.refl _)
      unfold prt at q0
      refine ite2 (fun c => ?_) (fun c => ?_)
      · rw [if_neg fun z => by rw [decide_eq_true z] at c; cases c] at q0
        exact ⟨_, rfl, q0⟩
      · rw [if_pos (Classical.byContradiction fun z => c (by rw [decide_eq_false z]; rfl))] at q0
        have n17 : n < 17 := Nat.lt_of_lt_of_le nlt hp.ws16
        exact ⟨_, rfl, n, rfl, log_short n n17, _, _, rfl, rfl, Nat.le_of_lt (small1000 (own_short n n17)), q0⟩
    have S3 : InitS C dx H me vw e t H3 L (keysW ws (nums.take i)) (edW ws (nums.take i)) := ⟨fun c u hc hcm => s3 _ _ (S.fr c u hc hcm), s3 _ _ S.hme, s3 _ _ S.he, s3 _ _ S.ht, S.new, fun x hx => by
      obtain ⟨ts, h1, h2⟩ := S.ls x hx
      exact ⟨ts, s3 _ _ h1, Paired.mono PrA.mn (Same.kt s3) h2⟩, S.inj⟩
    have tk1 : nums.take (i + 1) = nums.take i ++ [n] := by rw [List.take_add_one, hn]; rfl
    have edl : ∀ x, (edW ws (nums.take i) x).length ≤ 16 := fun x => by
      unfold edW
      rw [List.length_map]
      have := List.length_filter_le (fun n => decide (nmW ws n = x)) (nums.take i)
      have := (List.take_sublist i nums).length_le
      omega
    have kl : (keysW ws (nums.take i)).length ≤ 16 := by
      have := keysW_len ws (nums.take i)
      have := (List.take_sublist i nums).length_le
      omega
    have fin : ∀ (H4 : Hp) (L4 : Str → Addr) (ts : List V) (T : Addr), InitS C dx H me vw e t H4 L4 (keysW ws (nums.take (i + 1))) (edW ws (nums.take i)) → H4 (L4 (nmW ws n)) = some (.lst ts) → H4 T = none →
        ∃ (p3 p4 p5 p6 p7 : Option V) (L : Str → Addr), ([some (.ref me), some vw, some (.ref ln), some (.int (n : Nat)), some (.str (wn ws n).1), some (.str (wn ws n).2.1), some (.str (wn ws n).2.2), some (.str (prt ws n))] : L2.St) = [some (.ref me), some vw, some (.ref ln), p3, p4, p5, p6, p7] ∧
          InitS C dx H me vw e t (upd (upd H4 T (.tup [.str (prt ws n), .int (n : Nat)])) (L4 (nmW ws n)) (.lst (ts ++ [.ref T]))) L (keysW ws (nums.take (i + 1))) (edW ws (nums.take (i + 1))) := fun H4 L4 ts T S4 hts hT =>
      ⟨_, _, _, _, _, L4, rfl, S4.app (by rw [tk1]; exact (mem_keysW _ _ _).mpr ⟨n, by simp, rfl⟩) hT hts fun x => by rw [tk1, edW_snoc]⟩
    refine ⟨_, rfl, me, C, _, _, _, rfl, S3.hme, T.cl, T.nE, fl_e, e, rfl, .inl ⟨_, .inl S3.he⟩, _, rfl, Nat.zero_le _, fun z hz => ?_⟩
    have ze : e ≠ z := ne_of_none S3.he hz
    refine ⟨_, Sum.inr (nmW ws n), by rw [upd_ne ze]; exact S3.he, rfl, small1000 (by unfold kvE; rw [List.length_map]; omega), fun v hv => ?_, fun hv => ?_⟩
    · have hin : nmW ws n ∈ keysW ws (nums.take i) := Classical.byContradiction fun y => by rw [kvE_none y] at hv; cases hv
      rw [kvE_val hin] at hv
      cases hv
      have ek : keysW ws (nums.take (i + 1)) = keysW ws (nums.take i) := by
        rw [tk1, keysW_snoc]
        unfold addK
        rw [if_pos hin]
      have S4 : InitS C dx H me vw e t (upd H3 z (.lst [])) L (keysW ws (nums.take (i + 1))) (edW ws (nums.take i)) := by
        rw [ek]
        have sz := same_new hz (.lst [])
        exact ⟨fun c u hc hcm => sz _ _ (S3.fr c u hc hcm), sz _ _ S3.hme, sz _ _ S3.he, sz _ _ S3.ht, S3.new, fun x hx => by
          obtain ⟨ts, h1, h2⟩ := S3.ls x hx
          exact ⟨ts, sz _ _ h1, Paired.mono PrA.mn (Same.kt sz) h2⟩, S3.inj⟩
      obtain ⟨ts, h1, h2⟩ := S4.ls _ (by rw [ek]; exact hin)
      refine app_pair h1 ?_ rfl rfl fun T hT => fin _ L ts T S4 h1 hT
      have := Paired.len h2
      have := edl (nmW ws n)
      omega
    · have hin : nmW ws n ∉ keysW ws (nums.take i) := fun y => by rw [kvE_val y] at hv; cases hv
      have ek : keysW ws (nums.take (i + 1)) = keysW ws (nums.take i) ++ [nmW ws n] := by
        rw [tk1, keysW_snoc]
        unfold addK
        rw [if_neg hin]
      have S4 := S3.more he0 te hin (edW_none hin) hz
      rw [← ek] at S4
      have hz4 : (upd (upd H3 z (.lst [])) e (.dK (putK (kvE L (keysW ws (nums.take i))) (Sum.inr (nmW ws n)) (.ref z)))) z = some (.lst []) := by rw [upd_ne ze.symm, upd_same]
      refine app_pair hz4 (by decide) rfl rfl fun T hT => ?_
      have f := fin _ _ [] T S4 (by rw [if_pos rfl]; exact hz4) hT
      rw [if_pos rfl] at f
      exact f
  · rintro σ H1 ⟨o3, o4, o5, o6, o7, L, rfl, S⟩
    have nl : (natsV nums).length = nums.length := by unfold natsV; rw [List.length_map]
    rw [nl, List.take_length] at S
    refine ⟨e, _, S.he, trivial, fun od => ?_⟩
    have xe : ∀ {c : Addr} {u : HO}, H1 c = some u → c ≠ e → (upd H1 e (.frz od (.dK (kvE L (keysW ws nums))))) c = some u := fun h1 h2 => by rw [upd_ne h2]; exact h1
    have hmeF := xe S.hme em
    refine ⟨_, rfl, me, C, _, _, _, rfl, hmeF, T.cl, T.nE, fl_e, e, od, rfl, .inl ⟨_, upd_same, ?_⟩⟩
    have k1 : KT H H1 := fun b xs z => S.fr _ _ z fun y => by rw [y, hp.hme] at z; cases z
    have PF : PairI C ws (upd H1 e (.frz od (.dK (kvE L (keysW ws nums))))) me e t L (keysW ws nums) (edW ws nums) := by
      have kF : KT H1 (upd H1 e (.frz od (.dK (kvE L (keysW ws nums))))) := kt_upd fun xs z => by rw [S.he] at z; cases z
      refine ⟨⟨dx, vw, hmeF, OptsA.mn.mono _ _ _ _ (k1.trans kF) hp.hw⟩, .inr ⟨od, upd_same⟩, fun x hx => ?_⟩
      obtain ⟨ts, h1, h2⟩ := S.ls x hx
      exact ⟨ts, xe h1 (fun y => by rw [y, S.he] at h1; cases h1), Paired.mono PrA.mn kF h2⟩
    have htF := xe S.ht te.symm
    refine for_it (walk_keys (d := e) (o := od) (kvs := kvE L (keysW ws nums))) (fun i σ H' => ∃ (o4 : Option V), σ = [some (.ref me), some vw, some (.ref ln), o3, o4, o5, o6, o7] ∧ (∀ c u, (upd H1 e (.frz od (.dK (kvE L (keysW ws nums))))) c = some u → c ≠ t → H' c = some u) ∧ H' t = some (.dK (kvT (wholeT ws nums ((keysW ws nums).take i) []))))
      ⟨o4, rfl, fun c u h _ => h, htF⟩ (fun i σ H' hi ⟨_, _, f, _⟩ => f _ _ upd_same te) ?_ ?_
    · rintro i v σ H3 H2 hi ⟨p4, rfl, f, h2⟩ ⟨rfl, k, vv, hk, rfl⟩
      unfold kvE at hk
      rw [List.getElem?_map] at hk
      obtain ⟨x, hx, ek⟩ := Option.map_eq_some_iff.mp hk
      cases ek
      have xin : x ∈ keysW ws nums := List.mem_of_getElem? hx
      have fr2 : Fr2 (upd H1 e (.frz od (.dK (kvE L (keysW ws nums))))) H2 t t := fun c u h h1 _ => f c u h h1
      have nlt : ∀ y ∈ keysW ws nums, L y ≠ t := fun y hy z => by
        obtain ⟨ts, h1, _⟩ := PF.ed.lists y hy
        rw [z, htF] at h1
        cases h1
      have P2 : PairI C ws H2 me e t L (keysW ws nums) (edW ws nums) := by
        have kf : KT (upd H1 e (.frz od (.dK (kvE L (keysW ws nums))))) H2 := fun b xs z => f _ _ z fun y => by rw [y, htF] at z; cases z
        refine ⟨⟨dx, vw, f _ _ hmeF tm, OptsA.mn.mono _ _ _ _ kf (OptsA.mn.mono _ _ _ _ (k1.trans (kt_upd fun xs z => by rw [S.he] at z; cases z)) hp.hw)⟩, .inr ⟨od, f _ _ upd_same te⟩, fun y hy => ?_⟩
        · obtain ⟨ts, h1, h2⟩ := PF.ed.lists y hy
          exact ⟨ts, f _ _ h1 (nlt y hy), Paired.mono PrA.mn (fun b xs z => f _ _ z fun y => by rw [y, htF] at z; cases z) h2⟩
      have hme2 := f _ _ hmeF tm
      refine ⟨_, rfl, me, _, _, rfl, hme2, fl_f, _, rfl, Nat.zero_le _, fun sl hsl => ?_⟩
      have ss := same_new hsl (.lst [])
      have P3 : PairI C ws (upd H2 sl (.lst [])) me e t L (keysW ws nums) (edW ws nums) := by
        obtain ⟨dx2, vw2, i1, i2⟩ := P2.ins
        refine ⟨⟨dx2, vw2, ss _ _ i1, OptsA.mn.mono _ _ _ _ (Same.kt ss) i2⟩, ?_, fun y hy => ?_⟩
        · exact .inr ⟨od, ss _ _ (f _ _ upd_same te)⟩
        · obtain ⟨ts, h1, h2⟩ := P2.ed.lists y hy
          exact ⟨ts, ss _ _ h1, Paired.mono PrA.mn (Same.kt ss) h2⟩
      have nls : ∀ y ∈ keysW ws nums, L y ≠ sl := fun y hy z => by
        obtain ⟨ts, h1, _⟩ := P2.ed.lists y hy
        rw [z, hsl] at h1
        cases h1
      refine ⟨me, x, sl, e, t, L, ws, nums, [], _, rfl, ⟨P3, te, nls, xin, upd_same, ss _ _ h2, ⟨List.nodup_nil, (fun p hp => by cases hp), by rw [List.length_map]; show nums.length < 0 + 17; omega⟩, tkW_ok ws nums _, hp.low, hp.few⟩, fun H4 f4 h14 h24 => ?_⟩
      refine ⟨_, rfl, fun c u hc hct => ?_, ?_⟩
      · have hc2 := f c u hc hct
        exact f4 _ _ (ss _ _ hc2) (ne_of_none hc2 hsl) hct
      · rw [h24, List.take_add_one, hx]
        show _ = some (HO.dK (kvT (wholeT ws nums ((keysW ws nums).take i ++ [x]) [])))
        rw [wholeT_snoc]
    · rintro σ H2 ⟨p4, rfl, f, h2⟩
      rw [show (kvE L (keysW ws nums)).length = (keysW ws nums).length by unfold kvE; rw [List.length_map], List.take_length] at h2
      refine ⟨f _ _ upd_same te, ?_⟩
      have he2 := f _ _ (upd_same (o := HO.frz od (.dK (kvE L (keysW ws nums))))) te
      have up : ∀ {c : Addr} {u : HO}, H1 c = some u → c ≠ e → c ≠ t → (upd H2 e (.dK (kvE L (keysW ws nums)))) c = some u := fun h1 n1 n2 => by rw [upd_ne n1]; exact f _ _ (xe h1 n1) n2
      have kf : KT H1 (upd H2 e (.dK (kvE L (keysW ws nums)))) := fun b xs z => up z (fun y => by rw [y, S.he] at z; cases z) (fun y => by rw [y, S.ht] at z; cases z)
      refine q _ (fun c u hc hcm => ?_) ⟨e, t, L, ⟨⟨dx, vw, up S.hme em tm, OptsA.mn.mono _ _ _ _ (k1.trans kf) hp.hw⟩, .inl upd_same, fun x hx => ?_⟩, upd_same, by rw [upd_ne te.symm]; exact h2⟩
      · exact up (S.fr c u hc hcm) (fun y => by rw [y, he0] at hc; cases hc) (fun y => by rw [y, ht0] at hc; cases hc)
      · obtain ⟨ts, h1, h2⟩ := S.ls x hx
        exact ⟨ts, up h1 (fun y => by rw [y, S.he] at h1; cases h1) (fun y => by rw [y, S.ht] at h1; cases h1), Paired.mono PrA.mn kf h2⟩
end
end W31

set_option maxHeartbeats 4000000
/-! Pairing.reached. -/
namespace W31
open PySem PySem.Spec PyProof.Rows L2
/-- on the way -/
structure RI (ws : List Opt) (nums : List Nat) (tk : Tk Str) (n0 : Nat) (names partners : List Str) : Prop where
  init : ∀ x ∈ keysW ws nums, Free ws tk x → x ∈ names
  keys : ∀ x ∈ names, x ∈ keysW ws nums
  least : ∀ S : Str → Prop, (∀ x ∈ keysW ws nums, Free ws tk x → S x) → (∀ x p n m, S x → (p, n) ∈ edW ws nums x → look tk p = some m → S (nmW ws m)) → ∀ x ∈ names, S x
  nd : partners.Nodup
  back : ∀ p ∈ partners, (∃ x ∈ names, ∃ n, (p, n) ∈ edW ws nums x) ∧ ∃ m, look tk p = some m ∧ nmW ws m ∈ names
  len : names.length = n0 + partners.length
section
variable {ws : List Opt} {nums : List Nat} {tk : Tk Str} {n0 : Nat} {names partners : List Str}
theorem RI.step (h : RI ws nums tk n0 names partners) (t : TkOk ws nums tk) {x p : Str} {n m : Nat} (hx : x ∈ names) (hp : (p, n) ∈ edW ws nums x) (hn : p ∉ partners) (hm : look tk p = some m) : RI ws nums tk n0 (names ++ [nmW ws m]) (partners ++ [p]) where
  init := fun y hy f => List.mem_append_left _ (h.init y hy f)
  keys := fun y hy => (List.mem_append.mp hy).elim (h.keys y) fun z => by
    rw [List.mem_singleton.mp z]
    exact (mem_keysW _ _ _).mpr ⟨m, (t.all _ (look_mem hm)).1, rfl⟩
  least := fun S h1 h2 y hy => (List.mem_append.mp hy).elim (h.least S h1 h2 y) fun z => by
    rw [List.mem_singleton.mp z]
    exact h2 x p n m (h.least S h1 h2 x hx) hp hm
  nd := nd_snoc1 h.nd hn
  back := fun q hq => by
    rcases List.mem_append.mp hq with hq | hq
    · obtain ⟨⟨y, hy, n', e⟩, m', e1, e2⟩ := h.back q hq
      exact ⟨⟨y, List.mem_append_left _ hy, n', e⟩, m', e1, List.mem_append_left _ e2⟩
    · obtain rfl := List.mem_singleton.mp hq
      exact ⟨⟨x, List.mem_append_left _ hx, n, hp⟩, m, hm, by simp⟩
  len := by rw [List.length_append, List.length_append, h.len]; rfl
theorem RI.dead (h : RI ws nums tk n0 names partners) (i : WInv ws nums (keysW ws nums) tk) {x p : Str} {n : Nat} (hx : x ∈ names) (hp : (p, n) ∈ edW ws nums x) : ∃ m, look tk p = some m := by
  have d : ∀ y ∈ names, Dead (nmW ws) (edW ws nums) tk y := h.least _ (fun y hy f => (i.dead y hy).resolve_left fun ⟨p, m, e1, e2⟩ => f p m e1 e2) fun y q n' m hy hq hm => by
    obtain ⟨m', e1, e2⟩ := dead_closed tk y hy q n' hq
    rw [hm] at e1
    cases e1
    exact e2
  obtain ⟨m, e, _⟩ := dead_closed tk x (d x hx) p n hp
  exact ⟨m, e⟩
theorem RI.plen (h : RI ws nums tk n0 names partners) : partners.length ≤ nums.length := by
  have : partners.length ≤ (nums.map (prt ws)).length := nd_sub_len h.nd fun p hp => by
    obtain ⟨⟨x, hx, n, hn⟩, _⟩ := h.back p hp
    exact ed_ap x p n hn
  rwa [List.length_map] at this
end
def spReached (C : Addr) : Sp := fun vs H Q _ => ∃ (me : Addr) (ws : List Opt) (nums : List Nat), vs = [.ref me] ∧ PairD C ws nums H me ∧ LOk ws nums ∧
  ∀ (H' : Hp) (r a b : Addr) (names partners : List Str), Same H H' → H' r = some (.tup [.ref a, .ref b]) → H' a = some (.lst (names.map V.str)) → H' b = some (.lst (partners.map V.str)) → Reach ws nums (tkW ws nums) names partners → names.length ≤ 32 → partners.length ≤ 16 → Q (.ref r) H'
theorem same_lock {H H' : Hp} {d : Addr} {u : HO} {o : Obj} (hd : H d = some u) (s : Same (upd H d (.frz o u)) H') : Same H (upd H' d u) := fun b v hb => by
  by_cases e : b = d
  · subst e
    rw [hd] at hb
    cases hb
    exact upd_same
  · rw [upd_ne e]
    exact s _ _ (by rw [upd_ne e]; exact hb)
theorem PairI.same {C : Addr} {ws : List Opt} {H H' : Hp} {me e t : Addr} {L : Str → Addr} {ks : List Str} {ed : Str → List (Str × Nat)} (h : PairI C ws H me e t L ks ed) (s : Same H H') : PairI C ws H' me e t L ks ed := by
  obtain ⟨dx, vw, h1, h2⟩ := h.ins
  refine ⟨⟨dx, vw, s _ _ h1, OptsA.mn.mono _ _ _ _ (Same.kt s) h2⟩, ?_, fun x hx => ?_⟩
  · rcases h.ed.dict with q | ⟨o, q⟩
    · exact .inl (s _ _ q)
    · exact .inr ⟨o, s _ _ q⟩
  · obtain ⟨ts, h3, h4⟩ := h.ed.lists x hx
    exact ⟨ts, s _ _ h3, Paired.mono PrA.mn (Same.kt s) h4⟩
section
variable {P : Program} {w : World} {K : PySem.W.Frag} {mg : Str → Option Value} {base : Heap} {C aK aA : Addr}
abbrev s_reached : Stmt := inClass (top 35) 2
abbrev N_reached : List Str := ["self", "paired", "names", "partners", "at", "partner", "number", "name"]
theorem sc_reached : FnScope N_reached ["self"] (defScope s_reached) := ⟨rfl, rfl, rfl, by decide +kernel, rfl, by decide +kernel, by decide +kernel⟩
theorem ok_reached {fR : Addr} {fdR : FuncData} (F : Fun K "reached" "Pairing.reached" s_reached fR fdR) (T : Txt K mg C aK aA) : FnOk P w K mg base CX0 1 fR fdR ["self"] (spReached C) := by
  refine F.ok sc_reached (fun vs H Q E h => ?_) (fun cdv A outer s H vs Q E hr h => ?_)
  · obtain ⟨me, ws, nums, rfl, _⟩ := h
    rfl
  obtain ⟨me, ws, nums, rfl, ⟨e, t, L, pi, he, ht⟩, lok, q⟩ := h
  have nd := sc_reached.nd
  have hu := hu_of hr
  have few := lok.few
  have inv := tkW_inv ws nums few
  have tko : TkOk ws nums (tkW ws nums) := tkW_ok ws nums (keysW ws nums)
  have tkl := tko.len
  have kl := keysW_len ws nums
  obtain ⟨dx, vw, hme, hww⟩ := pi.ins
  have tm : me ≠ t := fun z => by rw [z, ht] at hme; cases hme
  have em : me ≠ e := fun z => by rw [z, he] at hme; cases hme
  refine ⟨_, (pss_cons (ps_set (i := 1) nd rfl (Or.inr rfl) (pe_lock (pe_lc (own := [("number", 6)]) (g := gName 6) (tt := tYes) rfl nd (pi_values (pe_fldK K rfl (pv 0) rfl)) (blkOk_by (N := N_reached) (sc := defScope s_reached) (by decide +kernel)) (fun _ _ _ _ _ => (pg_name (i := 6) nd rfl (Or.inl rfl))) (fun _ _ _ _ _ => pts_nil) (fun _ _ _ _ _ => (pe_ix (ix_tupK K rfl) (pe_ix (ix_tupK K rfl) (pe_fldK K rfl (pv 0) rfl) (pv 6) (fun _ _ => rfl)) pe_int (fun _ _ => rfl))))))
    (pss_cons (ps_lock (ps_setLc (i := 2) (own := [("name", 7)]) (g := gName 7) rfl nd rfl rfl (sw_true rfl rfl rfl (by decide +kernel)) (pi_keys (pe_fldK K rfl (pv 0) rfl)) (blkOk_by (N := N_reached) (sc := defScope s_reached) (by decide +kernel)) (fun _ _ _ _ _ => (pg_name (i := 7) nd rfl (Or.inl rfl))) (fun _ _ _ _ _ => (pts_one (pt_cmpR (op_notInK K rfl) (pv 7) (pv 1) (by rfl)))) (fun _ _ _ _ _ => (pv 7))))
    (pss_cons (ps_par (i := 3) (j := 4) rfl nd rfl rfl (by decide) rfl rfl (pa_cons (pe_lst pa_nil) (pa_cons pe_int pa_nil)) (by rfl))
    (pss_cons (ps_while PassesOwn.never (pt_cmpR op_lt (pv 4) (pe_callB (call_lenK K rfl) (by rfl) T.n_len W31.boot_len (pa_cons (pv 2) pa_nil)) (nomark _)) (pss_cons (ps_for PassesOwn.never rfl (pi_listK K rfl (pe_dget hu (pe_fldK K rfl (pv 0) rfl) (pe_ix (ix_listK K rfl) (pv 2) (pv 4) (fun _ _ => rfl)) (fun _ _ => rfl))) (pg_tupK (n := 2) K rfl rfl (pgs_cons (pg_name (i := 5) nd rfl (Or.inl rfl)) (pgs_cons (pg_name (i := 6) nd rfl (Or.inl rfl)) pgs_nil)))
    (pss_one (ps_if (pt_cmpR (op_notInK K rfl) (pv 5) (pv 3) (by rfl))
    (pss_cons (ps_expr (pe_bm PySem.F.plainAttrs_list PySem.F.slot_list_append PySem.F.type_list_append mt_append (pv 3) (pa_cons (pv 5) pa_nil)))
    (pss_one (ps_expr (pe_bm PySem.F.plainAttrs_list PySem.F.slot_list_append PySem.F.type_list_append mt_append (pv 2) (pa_cons (pe_ix (ix_tupK K rfl) (pe_ix (ix_tupK K rfl) (pe_fldK K rfl (pv 0) rfl) (pe_dget hu (pe_fldK K rfl (pv 0) rfl) (pv 5) (fun _ _ => rfl)) (fun _ _ => rfl)) pe_int (fun _ _ => rfl)) pa_nil)))))
    pss_nil)))
    (pss_one (ps_aug (i := 4) nd rfl (Or.inl rfl) pe_int ip_add))))
    (pss_one (ps_ret (pe_tup (pa_cons (pv 2) (pa_cons (pv 3) pa_nil))))))))), ?_⟩
  refine ⟨t, _, ht, trivial, fun od => ?_⟩
  have kF : KT H (upd H t (.frz od (.dK (kvT (tkW ws nums))))) := kt_upd fun xs z => by rw [ht] at z; cases z
  have hmeF : (upd H t (.frz od (.dK (kvT (tkW ws nums))))) me = some (.ins C dx (flds vw e t)) := by rw [upd_ne tm]; exact hme
  refine ⟨_, rfl, me, C, _, _, _, rfl, hmeF, T.cl, T.nT, fl_t, t, od, _, rfl, upd_same, ?_⟩
  refine lcV (R := StrA) (ds := tkW ws nums) (f := fun e => some (nmW ws e.2)) StrA.mn upd_same (by unfold kvT; rw [List.length_map]) (by omega) ?_ ?_
  · intro i x pn H' hx hpn s' Q1 Q0 k1 k0
    unfold kvT at hx
    rw [List.map_map, List.getElem?_map, hpn] at hx
    obtain rfl : V.int (pn.2 : Nat) = x := Option.some.inj hx
    have mt := tko.all pn (List.mem_of_getElem? hpn)
    obtain ⟨wa, wvs, wb, hvw, hwa, hat, hwb⟩ := wishes_at (OptsA.mn.mono _ _ _ _ (kF.trans (Same.kt s')) hww) (lok.low _ mt.1)
    refine ⟨rfl, ?_⟩
    exact ⟨_, rfl, me, C, _, _, _, rfl, s' _ _ hmeF, T.cl, T.nW, fl_w, _, rfl, wa, _, _, _, hvw, rfl, SqT.of hwa, hat, wb, _, 0, _, rfl, rfl, SqT.of hwb, atI_nat (j := 0) rfl, k1 _ (nmW ws pn.2) _ rfl rfl (Same.refl _)⟩
  intro Pd H2 ys hPd s2 hys pr
  rw [strs_map pr, filterMap_some (g := fun e : Str × Nat => nmW ws e.2) _ fun _ _ => rfl] at hys
  have htP : t ≠ Pd := fun z => by rw [← z, upd_same] at hPd; cases hPd
  refine ⟨s2 _ _ upd_same, ?_⟩
  have s3 := same_lock ht s2
  have hys3 : (upd H2 t (.dK (kvT (tkW ws nums)))) Pd = some (.lst (((tkW ws nums).map fun e => nmW ws e.2).map V.str)) := by rw [upd_ne htP.symm]; exact hys
  obtain ⟨H3, eH3⟩ : ∃ H3, H3 = upd H2 t (.dK (kvT (tkW ws nums))) := ⟨_, rfl⟩
  rw [← eH3] at s3 hys3 ⊢
  have he3 := s3 _ _ he
  refine ⟨e, _, he3, trivial, fun od2 => ?_⟩
  have hmeF3 : (upd H3 e (.frz od2 (.dK (kvE L (keysW ws nums))))) me = some (.ins C dx (flds vw e t)) := by rw [upd_ne em]; exact s3 _ _ hme
  have ePd : Pd ≠ e := fun z => by rw [z, he3] at hys3; cases hys3
  have hysF : (upd H3 e (.frz od2 (.dK (kvE L (keysW ws nums))))) Pd = some (.lst (((tkW ws nums).map fun e => nmW ws e.2).map V.str)) := by rw [upd_ne ePd]; exact hys3
  refine ⟨_, rfl, me, C, _, _, _, rfl, hmeF3, T.cl, T.nE, fl_e, e, od2, rfl, .inl ⟨_, upd_same, ?_⟩⟩
  refine lcK (R := StrA) (ds := keysW ws nums) (f := fun x => if (!memS x ((tkW ws nums).map fun e => nmW ws e.2)) = true then some x else none) StrA.mn upd_same (by unfold kvE; rw [List.length_map]) (by omega) ?_ ?_
  · intro i v x H' hv hx s' Q1 Q0 k1 k0
    unfold kvE at hv
    rw [List.map_map, List.getElem?_map, hx] at hv
    obtain rfl : V.str x = v := Option.some.inj hv
    refine ⟨rfl, ?_⟩
    refine ⟨_, rfl, _, rfl, Pd, _, rfl, .inl (SqL.of (s' _ _ hysF)), rfl, flat_strs _, _, rfl, ?_⟩
    show if (!inV (V.str x) (((tkW ws nums).map fun e => nmW ws e.2).map V.str)) = true then _ else _
    rw [inV_memS]
    refine ite2 (fun c => ?_) (fun c => ?_)
    · exact ⟨_, rfl, k1 _ x _ (if_pos c) rfl (Same.refl _)⟩
    · exact k0 (if_neg c) _ (Same.refl _)
  intro na H4 zs hna s4 hzs pr4
  rw [fm_guard] at pr4
  rw [strs_map pr4] at hzs
  have ena : e ≠ na := fun z => by rw [← z, upd_same] at hna; cases hna
  refine ⟨s4 _ _ upd_same, ?_⟩
  have s5 := s3.trans (same_lock he3 s4)
  have hzs5 : (upd H4 e (.dK (kvE L (keysW ws nums)))) na = some (.lst (((keysW ws nums).filter fun x => !memS x ((tkW ws nums).map fun e => nmW ws e.2)).map V.str)) := by rw [upd_ne ena.symm]; exact hzs
  have hna0 : H na = none := s3.free (by rw [upd_ne ena.symm] at hna; exact hna)
  obtain ⟨H5, eH5⟩ : ∃ H5, H5 = upd H4 e (.dK (kvE L (keysW ws nums))) := ⟨_, rfl⟩
  rw [← eH5] at s5 hzs5 ⊢
  refine ⟨Nat.zero_le _, fun ra hra => ⟨_, _, rfl, ?_⟩⟩
  have nra : na ≠ ra := ne_of_none hzs5 hra
  have hra0 : H ra = none := s5.free hra
  have s6 := s5.trans (same_new hra (.lst []))
  have RI0 : RI ws nums (tkW ws nums) ((keysW ws nums).filter fun x => !memS x ((tkW ws nums).map fun e => nmW ws e.2)).length ((keysW ws nums).filter fun x => !memS x ((tkW ws nums).map fun e => nmW ws e.2)) [] := by
    refine ⟨fun x hx f => List.mem_filter.mpr ⟨hx, ?_⟩, fun x hx => (List.mem_filter.mp hx).1, fun S h1 h2 x hx => ?_, List.nodup_nil, (fun p hp => by cases hp), rfl⟩
    · rw [memS_false.mpr]
      · rfl
      · intro z
        obtain ⟨⟨p, m⟩, h1, h2⟩ := List.mem_map.mp z
        exact f p m (mem_look tko.nd h1) h2
    · obtain ⟨h3, h4⟩ := List.mem_filter.mp hx
      refine h1 x h3 fun p m h5 h6 => ?_
      rw [memS_iff.mpr (List.mem_map.mpr ⟨(p, m), look_mem h5, h6⟩)] at h4
      cases h4
  have n016 : ((keysW ws nums).filter fun x => !memS x ((tkW ws nums).map fun e => nmW ws e.2)).length ≤ 16 := by
    have := List.length_filter_le (fun x => !memS x ((tkW ws nums).map fun e => nmW ws e.2)) (keysW ws nums)
    omega
  refine ⟨fun m σ H' => ∃ (names partners : List Str) (at_ : Nat) (o5 o6 o7 : Option V), m = 64 - at_ ∧ at_ ≤ names.length ∧ σ = [some (.ref me), some (.ref Pd), some (.ref na), some (.ref ra), some (.int (at_ : Nat)), o5, o6, o7] ∧ Same H H' ∧ H' na = some (.lst (names.map V.str)) ∧ H' ra = some (.lst (partners.map V.str)) ∧
      RI ws nums (tkW ws nums) ((keysW ws nums).filter fun x => !memS x ((tkW ws nums).map fun e => nmW ws e.2)).length names partners ∧ ∀ j, j < at_ → ∀ x, names[j]? = some x → ∀ pn ∈ edW ws nums x, pn.1 ∈ partners,
    ⟨_, _, [], 0, none, none, none, rfl, Nat.zero_le _, rfl, s6, by rw [upd_ne nra]; exact hzs5, upd_same, RI0, fun j hj => absurd hj (Nat.not_lt_zero _)⟩, ?_⟩
  rintro m σ H7 ⟨names, partners, at_, o5, o6, o7, rfl, hat, rfl, s7, hn7, hr7, ri, done⟩
  have nl32 : names.length ≤ 32 := by have := ri.len; have := ri.plen; omega
  refine ⟨_, rfl, _, rfl, na, _, rfl, .inl (SqL.of hn7), _, _, rfl, rfl, _, rfl, ?_⟩
  rw [List.length_map]
  refine ite2 (fun c => ?_) (fun c => ?_)
  · have lt : at_ < names.length := by have := of_decide_eq_true c; omega
    have hx : names[at_]? = some names[at_] := List.getElem?_eq_getElem lt
    have xin : names[at_] ∈ names := List.getElem_mem lt
    have xk := ri.keys _ xin
    have p7 := pi.same s7
    obtain ⟨ts, hts, prs⟩ := p7.ed.lists _ xk
    refine ⟨_, fun σ' H' z => z, ?_⟩
    refine ⟨_, rfl, me, C, _, _, _, rfl, s7 _ _ hme, T.cl, T.nE, fl_e, _, rfl, _, rfl, na, _, _, _, rfl, rfl, SqL.of hn7, atI_nat (j := at_) (by rw [List.getElem?_map, hx]; rfl), e, _, rfl, .inl ⟨_, Sum.inr names[at_], p7.ed.dict, rfl, (kvE_val xk).symm⟩, L names[at_], rfl, ⟨_, SqL.of hts⟩, ?_⟩
    refine for_it (walk_list (xs := ts)) (fun i σ H' => ∃ (names1 partners1 : List Str) (o5 o6 : Option V), at_ < names1.length ∧ σ = [some (.ref me), some (.ref Pd), some (.ref na), some (.ref ra), some (.int (at_ : Nat)), o5, o6, o7] ∧ Same H H' ∧ H' na = some (.lst (names1.map V.str)) ∧ H' ra = some (.lst (partners1.map V.str)) ∧ H' (L names[at_]) = some (.lst ts) ∧
        RI ws nums (tkW ws nums) ((keysW ws nums).filter fun x => !memS x ((tkW ws nums).map fun e => nmW ws e.2)).length names1 partners1 ∧ (∀ j, j < at_ → ∀ x, names1[j]? = some x → ∀ pn ∈ edW ws nums x, pn.1 ∈ partners1) ∧ names1[at_]? = some names[at_] ∧ ∀ pn ∈ (edW ws nums names[at_]).take i, pn.1 ∈ partners1)
      ⟨names, partners, o5, o6, lt, rfl, s7, hn7, hr7, hts, ri, done, hx, (fun pn h => by cases h)⟩ (fun i σ H' hi ⟨_, _, _, _, _, _, _, _, _, h, _⟩ => SqL.of h) ?_ ?_
    · rintro i v σ H9 H8 hi ⟨names1, partners1, p5, p6, lt1, rfl, s8, hn8, hr8, hts8, ri1, done1, hx1, dn1⟩ ⟨rfl, hv⟩
      obtain ⟨⟨p, n⟩, hpn, ⟨a, rfl, ha⟩⟩ := Paired.snd prs hv
      have hin : (p, n) ∈ edW ws nums names[at_] := List.mem_of_getElem? hpn
      have tk1 : (edW ws nums names[at_]).take (i + 1) = (edW ws nums names[at_]).take i ++ [(p, n)] := by rw [List.take_add_one, hpn]; rfl
      have xin1 : names[at_] ∈ names1 := List.mem_of_getElem? hx1
      have nl1 : names1.length ≤ 32 := by have := ri1.len; have := ri1.plen; omega
      have pl1 := ri1.plen
      have ha8 : H8 a = some (.tup [.str p, .int (n : Nat)]) := by
        obtain ⟨ts2, h1, h2⟩ := (pi.same s8).ed.lists _ xk
        rw [hts8] at h1
        cases h1
        obtain ⟨a', e1, h3⟩ := Paired.at' h2 hv hpn
        cases e1
        exact h3
      refine ⟨a, _, rfl, SqT.of ha8, rfl, _, _, rfl, _, _, rfl, rfl, ?_⟩
      refine ⟨_, rfl, _, rfl, ra, _, rfl, .inl (SqL.of hr8), rfl, flat_strs _, _, rfl, ?_⟩
      show if (!inV (V.str p) (partners1.map V.str)) = true then _ else _
      rw [inV_memS]
      refine ite2 (fun c1 => ?_) (fun c1 => ?_)
      · have np : p ∉ partners1 := fun z => by rw [memS_iff.mpr z] at c1; cases c1
        obtain ⟨mm, hm⟩ := ri1.dead inv xin1 hin
        have mt := tko.all _ (look_mem hm)
        refine ⟨_, rfl, .inl ⟨rfl, _, SqL.of hr8⟩, _, rfl, ra, _, _, rfl, rfl, hr8, small1000 (by rw [List.length_map]; omega), ?_⟩
        have s9 : Same H (upd H8 ra (.lst (partners1.map V.str ++ [V.str p]))) := same_own s8 hra0
        have hn9 : (upd H8 ra (.lst (partners1.map V.str ++ [V.str p]))) na = some (.lst (names1.map V.str)) := by rw [upd_ne nra]; exact hn8
        have lra : L names[at_] ≠ ra := fun z => by
          obtain ⟨ts2, h1, h2⟩ := pi.ed.lists _ xk
          rw [z, hra0] at h1
          cases h1
        have lna : L names[at_] ≠ na := fun z => by
          obtain ⟨ts2, h1, h2⟩ := pi.ed.lists _ xk
          rw [z, hna0] at h1
          cases h1
        obtain ⟨wa, wvs, wb, hvw, hwa, hat', hwb⟩ := wishes_at (OptsA.mn.mono _ _ _ _ (Same.kt s9) hww) (lok.low _ mt.1)
        have hme9 := s9 _ _ hme
        refine ⟨_, rfl, .inl ⟨rfl, _, SqL.of hn9⟩, _, rfl, me, C, _, _, _, rfl, hme9, T.cl, T.nW, fl_w, _, rfl, me, C, _, _, _, rfl, hme9, T.cl, T.nT, fl_t, _, rfl, t, V.int (mm : Nat), rfl, .inl ⟨_, Sum.inr p, .inl (s9 _ _ ht), rfl, by rw [kvT_val, hm]; rfl⟩,
          wa, _, _, _, hvw, rfl, SqT.of hwa, hat', wb, _, 0, _, rfl, rfl, SqT.of hwb, atI_nat (j := 0) rfl, na, _, _, rfl, rfl, hn9, small1000 (by rw [List.length_map]; omega), ?_⟩
        refine ⟨names1 ++ [nmW ws mm], partners1 ++ [p], _, _, by rw [List.length_append]; omega, rfl, same_own s9 hna0, by rw [upd_same, List.map_append]; rfl, by rw [upd_ne nra.symm, upd_same, List.map_append]; rfl, by rw [upd_ne lna, upd_ne lra]; exact hts8, ri1.step tko xin1 hin np hm, fun j hj y hy pn hpn => ?_, by rw [List.getElem?_append_left lt1]; exact hx1, fun pn hpn => ?_⟩
        · rw [List.getElem?_append_left (by omega)] at hy
          exact List.mem_append_left _ (done1 j hj y hy pn hpn)
        · rw [tk1] at hpn
          rcases List.mem_append.mp hpn with z | z
          · exact List.mem_append_left _ (dn1 pn z)
          · rw [List.mem_singleton.mp z]
            simp
      · have hp : p ∈ partners1 := memS_iff.mp (by simpa using c1)
        refine ⟨names1, partners1, _, _, lt1, rfl, s8, hn8, hr8, hts8, ri1, done1, hx1, fun pn hpn => ?_⟩
        rw [tk1] at hpn
        rcases List.mem_append.mp hpn with z | z
        · exact dn1 pn z
        · rw [List.mem_singleton.mp z]
          exact hp
    · rintro σ H8 ⟨names1, partners1, p5, p6, lt1, rfl, s8, hn8, hr8, hts8, ri1, done1, hx1, dn1⟩
      rw [Paired.len prs, List.take_length] at dn1
      refine ⟨_, rfl, _, _, rfl, rfl, 64 - (at_ + 1), ?_, names1, partners1, at_ + 1, _, _, _, rfl, lt1, rfl, s8, hn8, hr8, ri1, fun j hj y hy => ?_⟩
      · omega
      · by_cases z : j = at_
        · subst z
          rw [hx1] at hy
          cases hy
          exact dn1
        · exact done1 j (by omega) y hy
  · have eq : at_ = names.length := by
      have : ¬ at_ < names.length := fun z => c (decide_eq_true (by omega))
      omega
    refine ⟨_, rfl, _, rfl, by show 2 ≤ sizeLine; decide, fun Tp hT => ?_⟩
    have sT := same_new hT (.tup [.ref na, .ref ra])
    refine q _ Tp na ra names partners (s7.trans sT) upd_same (sT _ _ hn7) (sT _ _ hr7) ⟨ri.init, ri.keys, ri.least, fun x hx p n hpn => ?_, ri.nd, ri.back⟩ nl32 (by have := ri.plen; omega)
    obtain ⟨j, hj, ej⟩ := List.mem_iff_getElem.mp hx
    exact done j (by omega) x (by rw [List.getElem?_eq_getElem hj, ej]) (p, n) hpn
end
end W31

set_option maxHeartbeats 4000000
/-! choice, cover. -/
namespace W31
open PySem PySem.Spec PyProof.Rows L2
theorem fitP_low {g : Gr} {ws : List Opt} : ∀ n ∈ fitP g ws, n < ws.length := fun n hn => List.mem_range.mp (List.mem_filter.mp hn).1
theorem fitP_len (g : Gr) (ws : List Opt) : (fitP g ws).length ≤ ws.length := fitT_len g ws ws.length
theorem fitP_lok {g : Gr} {ws : List Opt} (h : WsOk ws) : LOk ws (fitP g ws) := ⟨fitP_low, Nat.le_trans (fitP_len g ws) h.few, Nat.le_succ_of_le h.few, fun w hw => (h.ok w hw).letter⟩
structure ChOk (ws : List Opt) (nums : List Nat) (c : List Int) : Prop where
  perm : c.Perm ((tkW ws nums).map fun e => (e.2 : Int))
  inc : c.Pairwise (· ≤ ·)
structure CovOk (ws : List Opt) (nums : List Nat) (a b : List Str) : Prop where
  ex : ∃ names partners, Reach ws nums (tkW ws nums) names partners ∧ a.Perm (covN ws nums names) ∧ b.Perm partners
  incA : sortedS a = true
  incB : sortedS b = true
def spChoice : Sp := fun vs H Q _ => ∃ (v u : V) (g : Gr) (ws : List Opt), vs = [v, u] ∧ GrA H v g ∧ GrGd g ∧ OptsA H u ws ∧ WsOk ws ∧ ∀ (r : Addr) (H' : Hp) (c : List Int), Same H H' → H' r = some (.tup (c.map V.int)) → ChOk ws (fitP g ws) c → Q (.ref r) H'
def spCover : Sp := fun vs H Q _ => ∃ (v u : V) (g : Gr) (ws : List Opt), vs = [v, u] ∧ GrA H v g ∧ GrGd g ∧ OptsA H u ws ∧ WsOk ws ∧ ∀ (r A B : Addr) (H' : Hp) (a b : List Str), Same H H' → H' r = some (.tup [.ref A, .ref B]) → H' A = some (.tup (a.map V.str)) → H' B = some (.tup (b.map V.str)) → CovOk ws (fitP g ws) a b → Q (.ref r) H'
theorem made_same {H H' : Hp} {x dx : Addr} {o o2 : HO} (hx : H x = none) (hdx : H dx = none) (f : FrM (upd (upd H dx o) x o2) H' x) : Same H H' := fun b u hb => by
  have h1 := ne_of_none hb hx
  have h2 := ne_of_none hb hdx
  exact f _ _ (by rw [upd_ne h1, upd_ne h2]; exact hb) h1
section
variable {P : Program} {w : World} {K : PySem.W.Frag} {mg : Str → Option Value} {base : Heap} {C aK aA : Addr}
abbrev s_choice : Stmt := top 36
abbrev N_choice : List Str := ["grammar", "wishes"]
theorem sc_choice : FnScope N_choice ["grammar", "wishes"] (defScope s_choice) := ⟨rfl, rfl, rfl, by decide +kernel, rfl, by decide +kernel, by decide +kernel⟩
theorem ok_choice {f : Addr} {fd : FuncData} (F : Fun K "choice" "choice" s_choice f fd) (b : Binds K fd ["grammar", "wishes"] []) (m : mg "choice" = some (.ref f)) (T : Txt K mg C aK aA)
    (Dfitting : DefAt P w K mg base "fitting" 8 ["grammar", "wishes"] spFitting)
    (Dneed_wishes : DefAt P w K mg base "need_wishes" 7 ["grammar", "wishes"] spNeedWishes)
    {fI : Addr} {fdI : FuncData} (MP : Mk K C fI) (GI : FnOk P w K mg base CX0 18 fI fdI ["self", "wishes", "numbers"] (spInit C)) (bI : Binds K fdI ["self", "wishes", "numbers"] []) :
    DefAt P w K mg base "choice" 20 ["grammar", "wishes"] spChoice := by
  refine ⟨f, fd, F.ok sc_choice (fun vs H Q E h => ?_) (fun cdv A outer s H vs Q E hr h => ?_), b, F.kp, m⟩
  · obtain ⟨v, u, g, ws, rfl, _⟩ := h
    rfl
  obtain ⟨v, u, g, ws, rfl, hg, gd, hw, wok, q⟩ := h
  have nd := sc_choice.nd
  refine ⟨_, (pss_cons (ps_expr (pe_callD Dneed_wishes (hr.mono (by decide)) rfl (pa_cons (pv 0) (pa_cons (pv 1) pa_nil))))
    (pss_one (ps_ret (pe_callTy (call_tupK K rfl) (by rfl) T.n_tuple W31.boot_tuple (pa_cons (pe_callB (cr_sortV rfl) (by rfl) T.n_sorted W31.boot_sorted (pa_cons (pe_vals (pe_fldK K rfl (pe_make MP GI (hr.mono (by decide)) rfl T.mgC bI .nil pass0 (pa_cons (pv 1) (pa_cons (pe_callD Dfitting (hr.mono (by decide)) rfl (pa_cons (pv 0) (pa_cons (pv 1) pa_nil))) pa_nil))) rfl)) pa_nil)) pa_nil))))), ?_⟩
  refine ⟨_, rfl, _, rfl, v, u, g, ws, rfl, hg, gd, hw, wok, fun H1 s1 => ?_⟩
  refine ⟨_, rfl, _, rfl, _, rfl, v, u, g, ws, rfl, GrA.mn.mono _ _ _ _ (Same.kt s1) hg, gd, OptsA.mn.mono _ _ _ _ (Same.kt s1) hw, wok, fun l H2 s2 hl0 hl => fun x dx hx hdx hne => ?_⟩
  have s12 := s1.trans s2
  have sx : Same H2 (upd (upd H2 dx (.own x)) x (.ins C dx [])) := (same_new hdx _).trans (same_new (by rw [upd_ne hne.symm]; exact hx) _)
  refine ⟨x, dx, u, l, ws, fitP g ws, rfl, ⟨upd_same, OptsA.mn.mono _ _ _ _ (Same.kt (s12.trans sx)) hw, sx _ _ hl, fitP_low, Nat.le_trans (fitP_len g ws) wok.few, Nat.le_succ_of_le wok.few⟩, fun H3 f3 PD => ⟨rfl, ?_⟩⟩
  have s3 : Same H H3 := s12.trans (made_same hx hdx f3)
  obtain ⟨e, t, L, pi, he, ht⟩ := PD
  obtain ⟨dx', vw, hme, _⟩ := pi.ins
  have tl : (tkW ws (fitP g ws)).length ≤ 16 := Nat.le_trans (tkW_ok ws (fitP g ws) (keysW ws (fitP g ws))).len (Nat.le_trans (fitP_len g ws) wok.few)
  refine ⟨x, C, _, _, _, rfl, hme, T.cl, T.nT, fl_t, t, _, rfl, .inl ht, fun vv hvv => ?_⟩
  have sv := same_new hvv (viewO vv t)
  refine ⟨vv, t, _, (tkW ws (fitP g ws)).map fun e => (e.2 : Int), rfl, upd_same, .inl (sv _ _ ht), by unfold kvT; rw [List.map_map, List.map_map]; rfl, by rw [List.length_map]; omega, fun ms p hperm hinc hp => ?_⟩
  have sp := same_new hp (.lst (ms.map V.int))
  refine ⟨p, _, rfl, .inl ⟨SqL.of upd_same, fun r hr => ?_⟩⟩
  exact q r _ ms (((s3.trans sv).trans sp).trans (same_new hr _)) upd_same ⟨hperm, hinc⟩

abbrev s_cover : Stmt := top 37
abbrev N_cover : List Str := ["grammar", "wishes", "pairing", "names", "partners", "name"]
theorem sc_cover : FnScope N_cover ["grammar", "wishes"] (defScope s_cover) := ⟨rfl, rfl, rfl, by decide +kernel, rfl, by decide +kernel, by decide +kernel⟩
theorem ok_cover {f : Addr} {fd : FuncData} (F : Fun K "cover" "cover" s_cover f fd) (b : Binds K fd ["grammar", "wishes"] []) (m : mg "cover" = some (.ref f)) (T : Txt K mg C aK aA)
    (Dfitting : DefAt P w K mg base "fitting" 8 ["grammar", "wishes"] spFitting)
    (Dneed_wishes : DefAt P w K mg base "need_wishes" 7 ["grammar", "wishes"] spNeedWishes)
    {fI : Addr} {fdI : FuncData} (MP : Mk K C fI) (GI : FnOk P w K mg base CX0 18 fI fdI ["self", "wishes", "numbers"] (spInit C)) (bI : Binds K fdI ["self", "wishes", "numbers"] [])
    {fR : Addr} {fdR : FuncData} (mReached : Meth K C "reached" fR) (GR : FnOk P w K mg base CX0 1 fR fdR ["self"] (spReached C)) (bR : Binds K fdR ["self"] []) :
    DefAt P w K mg base "cover" 20 ["grammar", "wishes"] spCover := by
  refine ⟨f, fd, F.ok sc_cover (fun vs H Q E h => ?_) (fun cdv A outer s H vs Q E hr h => ?_), b, F.kp, m⟩
  · obtain ⟨v, u, g, ws, rfl, _⟩ := h
    rfl
  obtain ⟨v, u, g, ws, rfl, hg, gd, hw, wok, q⟩ := h
  have nd := sc_cover.nd
  refine ⟨_, (pss_cons (ps_expr (pe_callD Dneed_wishes (hr.mono (by decide)) rfl (pa_cons (pv 0) (pa_cons (pv 1) pa_nil))))
    (pss_cons (ps_set (i := 2) nd rfl (Or.inl rfl) (pe_make MP GI (hr.mono (by decide)) rfl T.mgC bI .nil pass0 (pa_cons (pv 1) (pa_cons (pe_callD Dfitting (hr.mono (by decide)) rfl (pa_cons (pv 0) (pa_cons (pv 1) pa_nil))) pa_nil))))
    (pss_cons (ps_asg (pe_meth0 (pv 2) T.cl mReached GR (hr.mono (by decide)) bR .nil pass0) (pg_tupK (n := 2) K rfl rfl (pgs_cons (pg_name (i := 3) nd rfl (Or.inr rfl)) (pgs_cons (pg_name (i := 4) nd rfl (Or.inl rfl)) pgs_nil))))
    (pss_one (ps_ret (pe_tup (pa_cons (pe_callTy (call_tupK K rfl) (by rfl) T.n_tuple W31.boot_tuple (pa_cons (pe_callB cr_sortedS (by rfl) T.n_sorted W31.boot_sorted (pa_cons (pe_lock (pe_lc (own := [("name", 5)]) (g := gName 5) rfl nd (pi_keys (pe_fldK K rfl (pv 2) rfl)) (blkOk_by (N := N_cover) (sc := defScope s_cover) (by decide +kernel)) (fun _ _ _ _ _ => (pg_name (i := 5) nd rfl (Or.inl rfl))) (fun _ _ _ _ _ => (pts_one (pt_cmpR (op_notInK K rfl) (pv 5) (pv 3) (by rfl)))) (fun _ _ _ _ _ => (pv 5)))) pa_nil)) pa_nil)) (pa_cons (pe_callTy (call_tupK K rfl) (by rfl) T.n_tuple W31.boot_tuple (pa_cons (pe_callB cr_sortedS (by rfl) T.n_sorted W31.boot_sorted (pa_cons (pv 4) pa_nil)) pa_nil)) pa_nil)))))))), ?_⟩
  refine ⟨_, rfl, _, rfl, v, u, g, ws, rfl, hg, gd, hw, wok, fun H1 s1 => ?_⟩
  refine ⟨_, rfl, _, rfl, _, rfl, v, u, g, ws, rfl, GrA.mn.mono _ _ _ _ (Same.kt s1) hg, gd, OptsA.mn.mono _ _ _ _ (Same.kt s1) hw, wok, fun l H2 s2 hl0 hl => fun x dx hx hdx hne => ?_⟩
  have s12 := s1.trans s2
  have sx : Same H2 (upd (upd H2 dx (.own x)) x (.ins C dx [])) := (same_new hdx _).trans (same_new (by rw [upd_ne hne.symm]; exact hx) _)
  refine ⟨x, dx, u, l, ws, fitP g ws, rfl, ⟨upd_same, OptsA.mn.mono _ _ _ _ (Same.kt (s12.trans sx)) hw, sx _ _ hl, fitP_low, Nat.le_trans (fitP_len g ws) wok.few, Nat.le_succ_of_le wok.few⟩, fun H3 f3 PD => ⟨rfl, ?_⟩⟩
  have s3 : Same H H3 := s12.trans (made_same hx hdx f3)
  have PD0 := PD
  obtain ⟨e, t, L, pi, he, ht⟩ := PD
  obtain ⟨dx', vw, hme, _⟩ := pi.ins
  have kl : (keysW ws (fitP g ws)).length ≤ 16 := Nat.le_trans (keysW_len ws (fitP g ws)) (Nat.le_trans (fitP_len g ws) wok.few)
  refine ⟨_, rfl, x, _, _, rfl, hme, fl_r, x, ws, fitP g ws, rfl, PD0, fitP_lok wok, fun H4 r ra rb names partners s4 hr4 ha4 hb4 rc nl pl => ?_⟩
  refine ⟨r, _, rfl, SqT.of hr4, rfl, _, _, rfl, _, _, rfl, rfl, ?_⟩
  have hme4 := s4 _ _ hme
  have he4 := s4 _ _ he
  have ex : e ≠ x := fun z => by rw [z, hme] at he; cases he
  refine ⟨e, _, he4, trivial, fun od => ?_⟩
  have fz : ∀ {c : Addr} {o : HO}, H4 c = some o → c ≠ e → (upd H4 e (.frz od (.dK (kvE L (keysW ws (fitP g ws)))))) c = some o := fun h n => by rw [upd_ne n]; exact h
  have era : ra ≠ e := fun z => by rw [z, he4] at ha4; cases ha4
  refine ⟨_, rfl, x, C, _, _, _, rfl, fz hme4 ex.symm, T.cl, T.nE, fl_e, e, od, rfl, .inl ⟨_, upd_same, ?_⟩⟩
  refine lcK (R := StrA) (ds := keysW ws (fitP g ws)) (f := fun y => if (!memS y names) = true then some y else none) StrA.mn upd_same (by unfold kvE; rw [List.length_map]) (by omega) ?_ ?_
  · intro i vv y H' hv hy s' Q1 Q0 k1 k0
    unfold kvE at hv
    rw [List.map_map, List.getElem?_map, hy] at hv
    obtain rfl : V.str y = vv := Option.some.inj hv
    refine ⟨rfl, ?_⟩
    refine ⟨_, rfl, _, rfl, ra, _, rfl, .inl (SqL.of (s' _ _ (fz ha4 era))), rfl, flat_strs _, _, rfl, ?_⟩
    show if (!inV (V.str y) (names.map V.str)) = true then _ else _
    rw [inV_memS]
    refine ite2 (fun c => ?_) (fun c => ?_)
    · exact ⟨_, rfl, k1 _ y _ (if_pos c) rfl (Same.refl _)⟩
    · exact k0 (if_neg c) _ (Same.refl _)
  intro D H5 zs hD s5 hzs pr5
  rw [fm_guard] at pr5
  rw [strs_map pr5] at hzs
  have eD : e ≠ D := fun z => by rw [← z, upd_same] at hD; cases hD
  have s6 := same_lock he4 s5
  obtain ⟨H6, eH6⟩ : ∃ H6, H6 = upd H5 e (.dK (kvE L (keysW ws (fitP g ws)))) := ⟨_, rfl⟩
  have hz6 : H6 D = some (.lst (((keysW ws (fitP g ws)).filter fun y => !memS y names).map V.str)) := by rw [eH6, upd_ne eD.symm]; exact hzs
  refine ⟨s5 _ _ upd_same, ?_⟩
  rw [← eH6] at s6 ⊢
  have cov : ((keysW ws (fitP g ws)).filter fun y => !memS y names) = covN ws (fitP g ws) names := by
    unfold covN
    congr 1
    funext y
    congr 1
    rw [Bool.eq_iff_iff, memS_iff, decide_eq_true_iff]
  rw [cov] at hz6
  refine ⟨D, _, rfl, SqL.of hz6, ?_, fun as p hpa hia hp => ?_⟩
  · unfold covN
    have := List.length_filter_le (fun x => !decide (x ∈ names)) (keysW ws (fitP g ws))
    omega
  have sp := same_new hp (.lst (as.map V.str))
  refine ⟨p, _, rfl, .inl ⟨SqL.of upd_same, fun A hA => ?_⟩⟩
  have sA := same_new hA (.tup (as.map V.str))
  have sB := (s6.trans sp).trans sA
  refine ⟨_, rfl, rb, partners, rfl, SqL.of (sB _ _ hb4), by omega, fun bs p2 hpb hib hp2 => ?_⟩
  have sp2 := same_new hp2 (.lst (bs.map V.str))
  refine ⟨p2, _, rfl, .inl ⟨SqL.of upd_same, fun B hB => ?_⟩⟩
  have sB2 := same_new hB (.tup (bs.map V.str))
  refine ⟨by show 2 ≤ sizeLine; decide, fun Tp hT => ?_⟩
  have sT := same_new hT (.tup [.ref A, .ref B])
  refine q Tp A B _ as bs (((((s3.trans s4).trans sB).trans sp2).trans sB2).trans sT) upd_same ?_ (sT _ _ upd_same) ⟨⟨names, partners, rc, hpa, hpb⟩, hia, hib⟩
  exact sT _ _ (sB2 _ _ (sp2 _ _ upd_same))
end
end W31

set_option maxHeartbeats 4000000
/-! What the law says, in plain Lean. -/
namespace W31
open PySem PySem.Spec PyProof.Rows L2

/-! ### sorted, once -/
theorem lt_trans : ∀ a b c : List Nat, ltCps b a = false → ltCps c b = false → ltCps c a = false
  | a, b, [], h1, h2 => by
    cases a with
    | nil => rfl
    | cons x r =>
      cases b with
      | nil => simp [ltCps] at h1
      | cons y s => simp [ltCps] at h2
  | [], _, _ :: _, _, _ => by simp [ltCps]
  | x :: a, b, z :: c, h1, h2 => by
    cases b with
    | nil => simp [ltCps] at h1
    | cons y b =>
      simp only [ltCps, Bool.or_eq_false_iff, Bool.and_eq_false_iff, decide_eq_false_iff_not, beq_eq_false_iff_ne] at h1 h2 ⊢
      refine ⟨by omega, ?_⟩
      rcases h1.2 with g1 | g1
      · exact .inl (by omega)
      · rcases h2.2 with g2 | g2
        · exact .inl (by omega)
        · exact .inr (lt_trans a b c g1 g2)
theorem lt_anti : ∀ a b : List Nat, ltCps b a = false → ltCps a b = false → a = b
  | [], [], _, _ => rfl
  | [], _ :: _, _, h => by simp [ltCps] at h
  | _ :: _, [], h, _ => by simp [ltCps] at h
  | x :: a, y :: b, h1, h2 => by
    simp only [ltCps, Bool.or_eq_false_iff, Bool.and_eq_false_iff, decide_eq_false_iff_not, beq_eq_false_iff_ne] at h1 h2
    have e : x = y := by omega
    subst e
    rw [lt_anti a b (h1.2.resolve_left fun z => z rfl) (h2.2.resolve_left fun z => z rfl)]
def leS (a b : Str) : Prop := ltCps b.cps.toList a.cps.toList = false
theorem rising_pw : ∀ (l : List Str) (p : Str), risingS p l = true → (p :: l).Pairwise leS
  | [], p, _ => by simp
  | x :: r, p, h => by
    unfold risingS at h
    rw [Bool.and_eq_true, Bool.not_eq_true'] at h
    have ih := rising_pw r x h.2
    rw [List.pairwise_cons]
    refine ⟨fun y hy => ?_, ih⟩
    rcases List.mem_cons.mp hy with rfl | hy
    · exact h.1
    · exact lt_trans _ _ _ h.1 ((List.pairwise_cons.mp ih).1 y hy)
theorem sorted_pw {l : List Str} (h : sortedS l = true) : l.Pairwise leS := by
  cases l with
  | nil => exact .nil
  | cons x r => exact rising_pw r x h
theorem strs_unique {a b : List Str} (ha : sortedS a = true) (hb : sortedS b = true) (na : a.Nodup) (nb : b.Nodup) (m : ∀ x, x ∈ a ↔ x ∈ b) : a = b :=
  List.Perm.eq_of_pairwise (fun x y _ _ h1 h2 => str_ext (lt_anti _ _ h1 h2)) (sorted_pw ha) (sorted_pw hb) ((List.perm_ext_iff_of_nodup na nb).mpr m)
theorem ints_unique {a b : List Int} (ha : a.Pairwise (· ≤ ·)) (hb : b.Pairwise (· ≤ ·)) (na : a.Nodup) (nb : b.Nodup) (m : ∀ x, x ∈ a ↔ x ∈ b) : a = b :=
  List.Perm.eq_of_pairwise (fun x y _ _ h1 h2 => Int.le_antisymm h1 h2) ha hb ((List.perm_ext_iff_of_nodup na nb).mpr m)

/-! ### apart -/
def clo (w o : Opt) : Bool := decide (w.1 = o.1) || (decide (w.2.1 = o.2.1) && !decide (o.2.1 = ""))
def apartB (os : List Opt) : Bool := decide (os.Pairwise fun o w => clo w o = false)
theorem far_clo {ws : List Opt} {n m : Nat} : clo (wn ws n) (wn ws m) = false ↔ Far ws n m := by
  unfold clo Far nmW
  rw [Bool.or_eq_false_iff, Bool.and_eq_false_iff, decide_eq_false_iff_not, decide_eq_false_iff_not, Bool.not_eq_false', decide_eq_true_iff]
  constructor
  · rintro ⟨h1, h2⟩
    exact ⟨h1, fun ⟨z1, z2⟩ => h2.elim (fun y => y z1) z2⟩
  · rintro ⟨h1, h2⟩
    refine ⟨h1, ?_⟩
    by_cases e : (wn ws n).2.1 = (wn ws m).2.1
    · exact .inr (Classical.byContradiction fun z => h2 ⟨e, z⟩)
    · exact .inl e
theorem far_symm {ws : List Opt} {n m : Nat} (h : Far ws n m) : Far ws m n := ⟨fun e => h.1 e.symm, fun ⟨z1, z2⟩ => h.2 ⟨z1.symm, fun y => z2 (z1 ▸ y)⟩⟩
theorem pw_all {ws : List Opt} : ∀ {S : List Nat}, (S.Pairwise fun n m => Far ws m n) → ∀ n ∈ S, ∀ m ∈ S, n ≠ m → Far ws n m
  | [], _, n, hn, _, _, _ => by cases hn
  | x :: r, h, n, hn, m, hm, ne => by
    rw [List.pairwise_cons] at h
    rcases List.mem_cons.mp hn with e1 | hn <;> rcases List.mem_cons.mp hm with e2 | hm
    · exact absurd (e1.trans e2.symm) ne
    · rw [e1]; exact far_symm (h.1 m hm)
    · rw [e2]; exact h.1 n hn
    · exact pw_all h.2 n hn m hm ne
theorem apart_far {ws : List Opt} {S : List Nat} (h : apartB (S.map (wn ws)) = true) : ∀ n ∈ S, ∀ m ∈ S, n ≠ m → Far ws n m := by
  refine pw_all ?_
  have := of_decide_eq_true h
  rw [List.pairwise_map] at this
  exact this.imp fun z => far_clo.mp z
theorem far_apart {ws : List Opt} {S : List Nat} (nd : S.Nodup) (h : ∀ n ∈ S, ∀ m ∈ S, n ≠ m → Far ws n m) : apartB (S.map (wn ws)) = true := by
  refine decide_eq_true ?_
  rw [List.pairwise_map]
  induction S with
  | nil => exact .nil
  | cons x r ih =>
    rw [List.nodup_cons] at nd
    rw [List.pairwise_cons]
    exact ⟨fun y hy => far_clo.mpr (h y (List.mem_cons_of_mem _ hy) x List.mem_cons_self fun e => nd.1 (e ▸ hy)), ih nd.2 fun n hn m hm => h n (List.mem_cons_of_mem _ hn) m (List.mem_cons_of_mem _ hm)⟩
/-- nobody chooses more -/
def Dual (ws : List Opt) (nums : List Nat) : Prop := ∀ S : List Nat, S.Nodup → (∀ n ∈ S, n ∈ nums) → (∀ n ∈ S, ∀ m ∈ S, n ≠ m → Far ws n m) → S.length ≤ (tkW ws nums).length
section
variable {ws : List Opt} {nums : List Nat}
theorem tk_ok (few : nums.length ≤ 16) : TkOk ws nums (tkW ws nums) ∧ ∀ p q m m', look (tkW ws nums) p = some m → look (tkW ws nums) q = some m' → nmW ws m = nmW ws m' → p = q := ⟨tkW_ok ws nums _, (tkW_inv ws nums few).inj⟩
/-- the chosen, as numbers -/
theorem ChOk.nat {c : List Int} (h : ChOk ws nums c) : ∃ cn : List Nat, c = cn.map (fun n : Nat => (n : Int)) ∧ cn.Perm ((tkW ws nums).map (·.2)) := by
  refine ⟨c.map Int.toNat, ?_, ?_⟩
  · rw [List.map_map]
    conv => lhs; rw [← List.map_id c]
    refine List.map_congr_left fun x hx => ?_
    have := h.perm.mem_iff.mp hx
    obtain ⟨e, he, rfl⟩ := List.mem_map.mp this
    rfl
  · have := h.perm.map Int.toNat
    rw [List.map_map] at this
    exact this
theorem ChOk.uniq {c d : List Int} (k : LOk ws nums) (h : ChOk ws nums c) (g : ChOk ws nums d) : c = d :=
  List.Perm.eq_of_pairwise (fun x y _ _ h1 h2 => Int.le_antisymm h1 h2) h.inc g.inc (h.perm.trans g.perm.symm)
theorem CovOk.uniq {a b a2 b2 : List Str} (h : CovOk ws nums a b) (g : CovOk ws nums a2 b2) : a = a2 ∧ b = b2 := by
  obtain ⟨n1, p1, r1, h1, h2⟩ := h.ex
  obtain ⟨n2, p2, r2, g1, g2⟩ := g.ex
  have e1 : ∀ x, x ∈ n1 ↔ x ∈ n2 := fun x => ⟨r1.sub r2 x, r2.sub r1 x⟩
  have e2 : ∀ x, x ∈ p1 ↔ x ∈ p2 := fun x => ⟨r1.subP r2 x, r2.subP r1 x⟩
  have nd : ∀ names, (covN ws nums names).Nodup := fun names => List.Nodup.sublist List.filter_sublist (keysW_nd ws nums)
  refine ⟨strs_unique h.incA g.incA (h1.nodup_iff.mpr (nd _)) (g1.nodup_iff.mpr (nd _)) fun x => ?_, strs_unique h.incB g.incB (h2.nodup_iff.mpr r1.nd) (g2.nodup_iff.mpr r2.nd) fun x => ?_⟩
  · rw [h1.mem_iff, g1.mem_iff, mem_covN, mem_covN, e1]
  · rw [h2.mem_iff, g2.mem_iff, e2]
structure CovGood (ws : List Opt) (nums : List Nat) (a b : List Str) : Prop where
  ndA : a.Nodup
  ndB : b.Nodup
  incA : sortedS a = true
  incB : sortedS b = true
  inA : ∀ x ∈ a, ∃ n ∈ nums, nmW ws n = x
  inB : ∀ x ∈ b, ∃ n ∈ nums, (wn ws n).2.1 ≠ "" ∧ x = (wn ws n).2.1
  cov : ∀ n ∈ nums, nmW ws n ∈ a ∨ (wn ws n).2.1 ∈ b
  count : a.length + b.length = (tkW ws nums).length
  dual : Dual ws nums
theorem CovOk.good {a b : List Str} (k : LOk ws nums) (h : CovOk ws nums a b) : CovGood ws nums a b := by
  obtain ⟨t, i⟩ := tk_ok (ws := ws) k.few
  obtain ⟨n1, p1, r1, h1, h2⟩ := h.ex
  refine ⟨h1.nodup_iff.mpr (List.Nodup.sublist List.filter_sublist (keysW_nd ws nums)), h2.nodup_iff.mpr r1.nd, h.incA, h.incB, fun x hx => ?_, fun x hx => r1.cov k t i (h2.mem_iff.mp hx), fun n hn => ?_, ?_, fun S nd hs far => r1.dual k t i nd hs far⟩
  · exact (mem_keysW _ _ _).mp (mem_covN.mp (h1.mem_iff.mp hx)).1
  · by_cases z : nmW ws n ∈ n1
    · exact .inr (h2.mem_iff.mpr (r1.all k t i hn z).2)
    · exact .inl (h1.mem_iff.mpr (mem_covN.mpr ⟨(mem_keysW _ _ _).mpr ⟨n, hn, rfl⟩, z⟩))
  · rw [h1.length_eq, h2.length_eq]
    exact r1.count t i

/-! ### the greatest -/
def rowsP (nums : List Nat) : List (List Nat) := nums.foldl (fun rows n => rows ++ rows.map (· ++ [n])) [[]]
theorem rowsP_snoc (l : List Nat) (n : Nat) : rowsP (l ++ [n]) = rowsP l ++ (rowsP l).map (· ++ [n]) := by
  unfold rowsP
  rw [List.foldl_append]
  rfl
theorem snoc_ind {α : Type} {P : List α → Prop} (l : List α) (h0 : P []) (hs : ∀ l a, P l → P (l ++ [a])) : P l := by
  have : ∀ r : List α, P r.reverse := by
    intro r
    induction r with
    | nil => exact h0
    | cons a r ih => rw [List.reverse_cons]; exact hs _ _ ih
  rw [← List.reverse_reverse l]
  exact this _
theorem rowsP_sub (l : List Nat) : ∀ r ∈ rowsP l, List.Sublist r l := by
  refine snoc_ind (P := fun l => ∀ r ∈ rowsP l, List.Sublist r l) l (fun r hr => ?_) fun l n ih r hr => ?_
  · rw [List.mem_singleton.mp hr]; exact .slnil
  · rw [rowsP_snoc] at hr
    rcases List.mem_append.mp hr with h | h
    · exact (ih r h).trans (List.sublist_append_left _ _)
    · obtain ⟨s, hs, rfl⟩ := List.mem_map.mp h
      exact List.Sublist.append (ih s hs) (List.Sublist.refl _)
theorem rowsP_filter (p : Nat → Bool) (l : List Nat) : l.filter p ∈ rowsP l := by
  refine snoc_ind (P := fun l => l.filter p ∈ rowsP l) l (List.mem_singleton.mpr rfl) fun l n ih => ?_
  rw [rowsP_snoc, List.filter_append, List.filter_cons]
  by_cases h : p n = true
  · rw [if_pos h]
    exact List.mem_append_right _ (List.mem_map.mpr ⟨_, ih, rfl⟩)
  · rw [if_neg h]
    show l.filter p ++ [] ∈ _
    rw [List.append_nil]
    exact List.mem_append_left _ ih
theorem rowsP_len (l : List Nat) : (rowsP l).length = 2 ^ l.length := by
  refine snoc_ind (P := fun l => (rowsP l).length = 2 ^ l.length) l rfl fun l n ih => ?_
  rw [rowsP_snoc, List.length_append, List.length_map, ih, List.length_append]
  show 2 ^ l.length + 2 ^ l.length = 2 ^ (l.length + 1)
  rw [Nat.pow_succ]
  omega
def bestF (ws : List Opt) (m : Nat) (r : List Nat) : Nat := if m < r.length ∧ apartB (r.map (wn ws)) = true then r.length else m
def bestP (ws : List Opt) (rows : List (List Nat)) : Nat := rows.foldl (bestF ws) 0
theorem best_ge (ws : List Opt) : ∀ (rows : List (List Nat)) (m : Nat), m ≤ rows.foldl (bestF ws) m
  | [], _ => Nat.le_refl _
  | r :: rs, m => Nat.le_trans (by unfold bestF; split <;> omega) (best_ge ws rs (bestF ws m r))
theorem best_row (ws : List Opt) : ∀ (rows : List (List Nat)) (m : Nat) (r : List Nat), r ∈ rows → apartB (r.map (wn ws)) = true → r.length ≤ rows.foldl (bestF ws) m
  | [], _, _, h, _ => by cases h
  | x :: rs, m, r, h, a => by
    rw [List.foldl_cons]
    rcases List.mem_cons.mp h with rfl | h
    · refine Nat.le_trans ?_ (best_ge ws rs _)
      unfold bestF
      by_cases c : m < r.length
      · rw [if_pos ⟨c, a⟩]; exact Nat.le_refl _
      · rw [if_neg fun z => c z.1]; omega
    · exact best_row ws rs _ r h a
theorem best_le (ws : List Opt) (N : Nat) : ∀ (rows : List (List Nat)) (m : Nat), m ≤ N → (∀ r ∈ rows, apartB (r.map (wn ws)) = true → r.length ≤ N) → rows.foldl (bestF ws) m ≤ N
  | [], _, h, _ => h
  | r :: rs, m, h, a => by
    rw [List.foldl_cons]
    refine best_le ws N rs _ ?_ fun s hs => a s (List.mem_cons_of_mem _ hs)
    unfold bestF
    split
    · next c => exact a r List.mem_cons_self c.2
    · exact h
theorem best_is (few : nums.length ≤ 16) (nd : nums.Nodup) (d : Dual ws nums) : bestP ws (rowsP nums) = (tkW ws nums).length := by
  obtain ⟨t, i⟩ := tk_ok (ws := ws) few
  refine Nat.le_antisymm (best_le ws _ _ 0 (Nat.zero_le _) fun r hr a => d r ((rowsP_sub nums r hr).nodup nd) (fun n hn => (rowsP_sub nums r hr).subset hn) (apart_far a)) ?_
  have e : (nums.filter fun n => decide (n ∈ (tkW ws nums).map (·.2))).length = (tkW ws nums).length := by
    rw [nd_same_len (l' := (tkW ws nums).map (·.2)) (List.Nodup.sublist List.filter_sublist nd) (vals_nd t i) fun n => ?_, List.length_map]
    rw [List.mem_filter, decide_eq_true_iff]
    refine ⟨fun h => h.2, fun h => ⟨?_, h⟩⟩
    obtain ⟨x, hx, rfl⟩ := List.mem_map.mp h
    exact (t.all x hx).1
  rw [← e]
  refine best_row ws _ 0 _ (rowsP_filter _ nums) (far_apart (List.Nodup.sublist List.filter_sublist nd) fun n hn m hm ne => ?_)
  exact vals_far t i n (of_decide_eq_true (List.mem_filter.mp hn).2) m (of_decide_eq_true (List.mem_filter.mp hm).2) ne
end
theorem fitP_nd (g : Gr) (ws : List Opt) : (fitP g ws).Nodup := List.Nodup.sublist List.filter_sublist List.nodup_range
theorem mem_fitP {g : Gr} {ws : List Opt} {n : Nat} : n ∈ fitP g ws ↔ n < ws.length ∧ fit1 g (wn ws n) = true := by
  unfold fitP
  rw [List.mem_filter, List.mem_range]
  constructor
  · rintro ⟨h1, h2⟩
    rw [wn_at h1] at h2
    exact ⟨h1, h2⟩
  · rintro ⟨h1, h2⟩
    exact ⟨h1, by rw [wn_at h1]; exact h2⟩
/-- the same wishes, another row: as many -/
theorem size_le {g : Gr} {ws ws' : List Opt} (few : ws.length ≤ 16) (h : ∀ w ∈ ws, w ∈ ws') (d : Dual ws' (fitP g ws')) : (tkW ws (fitP g ws)).length ≤ (tkW ws' (fitP g ws')).length := by
  have f16 : (fitP g ws).length ≤ 16 := Nat.le_trans (fitP_len g ws) few
  obtain ⟨t, i⟩ := tk_ok (ws := ws) f16
  have key : ∀ n, ∃ j, n ∈ (tkW ws (fitP g ws)).map (·.2) → j ∈ fitP g ws' ∧ wn ws' j = wn ws n := fun n => by
    by_cases hn : n ∈ (tkW ws (fitP g ws)).map (·.2)
    · obtain ⟨x, hx, rfl⟩ := List.mem_map.mp hn
      obtain ⟨h1, h2⟩ := mem_fitP.mp (t.all x hx).1
      obtain ⟨j, hj, e⟩ := List.mem_iff_getElem.mp (h _ (wn_mem h1))
      have e2 : wn ws' j = wn ws x.2 := by unfold wn at e ⊢; rw [List.getElem?_eq_getElem hj]; exact e
      exact ⟨j, fun _ => ⟨mem_fitP.mpr ⟨hj, by rw [e2]; exact h2⟩, e2⟩⟩
    · exact ⟨0, fun z => absurd z hn⟩
  have e := d (((tkW ws (fitP g ws)).map (·.2)).map fun n => Classical.choose (key n)) ?_ ?_ ?_
  · rw [List.length_map, List.length_map] at e
    exact e
  · refine nd_map (vals_nd t i) fun n hn m hm e => Classical.byContradiction fun ne => ?_
    have h1 := (Classical.choose_spec (key n) hn).2
    have h2 := (Classical.choose_spec (key m) hm).2
    have e : Classical.choose (key n) = Classical.choose (key m) := e
    rw [e, h2] at h1
    exact (vals_far t i n hn m hm ne).1 (congrArg Prod.fst h1.symm)
  · intro j hj
    obtain ⟨n, hn, rfl⟩ := List.mem_map.mp hj
    exact (Classical.choose_spec (key n) hn).1
  · intro j hj k hk ne
    obtain ⟨n, hn, rfl⟩ := List.mem_map.mp hj
    obtain ⟨m, hm, rfl⟩ := List.mem_map.mp hk
    have f := vals_far t i n hn m hm fun z => ne (by rw [z])
    unfold Far nmW at f ⊢
    rw [(Classical.choose_spec (key n) hn).2, (Classical.choose_spec (key m) hm).2]
    exact f
end W31

set_option maxHeartbeats 4000000
/-! What may be shown. -/
namespace W31
open PySem PySem.Spec PyProof.Rows L2
theorem wt_ints : ∀ l : List Int, (∀ i ∈ l, 0 ≤ i ∧ i < 17) → PyData.weightAll (intsD l) ≤ 6 * l.length ∧ PyData.intsShortAll 13 (intsD l) = true ∧ PyData.showableAll (intsD l) = true
  | [], _ => ⟨by simp [intsD, PyData.weightAll], by simp [intsD, PyData.intsShortAll], by simp [intsD, PyData.showableAll]⟩
  | i :: r, h => by
    obtain ⟨h1, h2, h3⟩ := wt_ints r fun j hj => h j (List.mem_cons_of_mem _ hj)
    obtain ⟨h4, h5⟩ := h i List.mem_cons_self
    have key : ∀ n : Nat, n < 17 → PyData.weight (.int (n : Int)) ≤ 5 ∧ PyData.intsShort 13 (.int (n : Int)) = true ∧ PyData.showable (.int (n : Int)) = true := by
      decide +kernel
    have := key i.toNat (by omega)
    rw [Int.toNat_of_nonneg h4] at this
    unfold intsD at h1 h2 h3 ⊢
    rw [List.map_cons, List.length_cons]
    simp only [PyData.weightAll, PyData.intsShortAll, PyData.showableAll, h2, h3, this.2.1, this.2.2, Bool.and_self, and_true]
    omega
theorem wt_strs : ∀ l : List Str, (∀ x ∈ l, x.length ≤ 12) → PyData.weightAll (strsD l) ≤ 13 * l.length ∧ PyData.intsShortAll 13 (strsD l) = true ∧ PyData.showableAll (strsD l) = true
  | [], _ => ⟨by simp [strsD, PyData.weightAll], by simp [strsD, PyData.intsShortAll], by simp [strsD, PyData.showableAll]⟩
  | x :: r, h => by
    obtain ⟨h1, h2, h3⟩ := wt_strs r fun j hj => h j (List.mem_cons_of_mem _ hj)
    have h4 := h x List.mem_cons_self
    have h5 : x.cps.size ≤ 12 := h4
    unfold strsD at h1 h2 h3 ⊢
    rw [List.map_cons, List.length_cons]
    simp only [PyData.weightAll, PyData.intsShortAll, PyData.showableAll, PyData.weight, PyData.intsShort, PyData.showable, h2, h3, Bool.and_self, and_true]
    omega
def bothD (c : List Int) (a b : List Str) : PyData := .list [.tuple (intsD c), .tuple [.tuple (strsD a), .tuple (strsD b)]]
theorem both_ok {c : List Int} {a b : List Str} (hc : ∀ i ∈ c, 0 ≤ i ∧ i < 17) (ha : ∀ x ∈ a, Asc x ∧ x.length ≤ 12) (hb : ∀ x ∈ b, Asc x ∧ x.length ≤ 12) (lc : c.length ≤ 16) (la : a.length ≤ 16) (lb : b.length ≤ 16) :
    (bothD c a b).showable = true ∧ (bothD c a b).hasDict = false ∧ (bothD c a b).depth ≤ 100 ∧ (bothD c a b).shown.length ≤ sizeLine := by
  obtain ⟨c1, c2, c3⟩ := wt_ints c hc
  obtain ⟨a1, a2, a3⟩ := wt_strs a fun x hx => (ha x hx).2
  obtain ⟨b1, b2, b3⟩ := wt_strs b fun x hx => (hb x hx).2
  have lay : Lay (bothD c a b) 3 := lay_list fun d hd => by
    rcases List.mem_cons.mp hd with rfl | hd
    · exact ⟨(lay_tuple lay_ints).lay, Nat.le_trans (lay_tuple lay_ints).depth (by decide)⟩
    · rw [List.mem_singleton.mp hd]
      refine lay_tuple fun d hd => ?_
      rcases List.mem_cons.mp hd with rfl | hd
      · exact lay_tuple (lay_strs fun x hx => (ha x hx).1)
      · rw [List.mem_singleton.mp hd]
        exact lay_tuple (lay_strs fun x hx => (hb x hx).1)
  refine ⟨?_, PyData.hasDict_of_canLay _ lay.lay, Nat.le_trans lay.depth (by decide), ?_⟩
  · unfold bothD
    simp only [PyData.showable, PyData.showableAll, c3, a3, b3, Bool.and_self]
  · have w : (bothD c a b).weight ≤ 2 ^ 20 := by
      unfold bothD
      simp only [PyData.weight, PyData.weightAll]
      omega
    have l0 : PyData.layable0 (bothD c a b) = true := by
      unfold PyData.layable0
      rw [lay.lay, decide_eq_true (Nat.le_trans lay.depth (show 3 ≤ 64 by decide)), decide_eq_true w]
      rfl
    have is : (bothD c a b).intsShort 13 = true := by
      unfold bothD
      simp only [PyData.intsShort, PyData.intsShortAll, c2, a2, b2, Bool.and_self]
    refine Nat.le_trans (shown_le13 l0 is) ?_
    rw [sizeLine_eq]
    decide
end W31

set_option maxHeartbeats 4000000
/-! _law_mixed, _law_begin, _law_draw, _law_of. -/
namespace W31
open PySem PySem.Spec PyProof.Rows L2
/-- the state of the drawing after a draws -/
structure StA (H : Hp) (st la ca : Addr) (a : Nat) : Prop where
  ex : ∃ (kvs : List (Key × V)) (cells lefts : List Int), H st = some (.dK kvs) ∧ valV kvs (Sum.inr "cells") = some (.ref ca) ∧ valV kvs (Sum.inr "lefts") = some (.ref la) ∧ valV kvs (Sum.inr "at") = some (.int (a : Nat)) ∧ kvs.length ≤ a + 4 ∧
    H ca = some (.lst (cells.map V.int)) ∧ H la = some (.lst (lefts.map V.int)) ∧ ca ≠ la ∧ cells.length = lefts.length ∧ 0 < cells.length ∧ cells.length ≤ 100
theorem StA.same {H H' : Hp} {st la ca : Addr} {a : Nat} (h : StA H st la ca a) (s : Same H H') : StA H' st la ca a := by
  obtain ⟨kvs, cells, lefts, h1, h2, h3, h4, h5, h6, h7, h8⟩ := h
  exact ⟨kvs, cells, lefts, s _ _ h1, h2, h3, h4, h5, s _ _ h6, s _ _ h7, h8⟩
theorem StA.own {H : Hp} {st la ca : Addr} {a : Nat} (h : StA H st la ca a) {p : Addr} {xs : List V} (o : HO) (hp : H p = some (.lst xs)) (nl : p ≠ la) (nc : p ≠ ca) : StA (upd H p o) st la ca a := by
  obtain ⟨kvs, cells, lefts, h1, h2, h3, h4, h5, h6, h7, h8⟩ := h
  exact ⟨kvs, cells, lefts, by rw [upd_ne fun z => by rw [← z, h1] at hp; cases hp]; exact h1, h2, h3, h4, h5, by rw [upd_ne nc.symm]; exact h6, by rw [upd_ne nl.symm]; exact h7, h8⟩
theorem StA.new {H : Hp} {st la ca : Addr} {a : Nat} (h : StA H st la ca a) {p : Addr} (hp : H p = none) : p ≠ st ∧ p ≠ la ∧ p ≠ ca := by
  obtain ⟨kvs, cells, lefts, h1, h2, h3, h4, h5, h6, h7, h8⟩ := h
  exact ⟨(ne_of_none h1 hp).symm, (ne_of_none h7 hp).symm, (ne_of_none h6 hp).symm⟩
theorem StA.st {H : Hp} {st la ca : Addr} {a : Nat} (h : StA H st la ca a) : ∃ kvs, H st = some (.dK kvs) := by obtain ⟨kvs, cells, lefts, h1, _⟩ := h; exact ⟨kvs, h1⟩
theorem StA.la {H : Hp} {st la ca : Addr} {a : Nat} (h : StA H st la ca a) : ∃ xs, H la = some (.lst xs) := by obtain ⟨kvs, cells, lefts, h1, h2, h3, h4, h5, h6, h7, h8⟩ := h; exact ⟨_, h7⟩
theorem Fr2.ktS {H H' : Hp} {st la ca : Addr} {a : Nat} (f : Fr2 H H' st la) (h : StA H st la ca a) : KT H H' := by
  obtain ⟨kvs, h1⟩ := h.st
  obtain ⟨xs, h2⟩ := h.la
  exact f.kt (fun xs z => by rw [h1] at z; cases z) (fun xs z => by rw [h2] at z; cases z)
def spMixed : Sp := fun vs H Q _ => ∃ (c k : Int), vs = [.int c, .int k] ∧ 0 ≤ k ∧ k < 2 ^ 40 ∧ ∀ z : Int, 0 ≤ z → z < 2147483647 → Q (.int z) H
def spBegin (K : PySem.W.Frag) : Sp := fun vs H Q _ => ∃ (l : Addr) (ns : List Int), vs = [.ref l] ∧ SqL K H l (ns.map V.int) ∧ ns.length ≤ 63 ∧ ∀ (st la ca : Addr) (H' : Hp), Same H H' → H st = none → H la = none → H ca = none → StA H' st la ca 0 → Q (.ref st) H'
def spDraw : Sp := fun vs H Q _ => ∃ (st la ca : Addr) (a many : Nat), vs = [.ref st, .int (many : Nat)] ∧ StA H st la ca a ∧ a < 10000 ∧ 0 < many ∧ many ≤ 1000 ∧ ∀ (H' : Hp) (v : Nat), v < many → Fr2 H H' st la → StA H' st la ca (a + 1) → Q (.int (v : Nat)) H'
def spOf : Sp := fun vs H Q _ => ∃ (st la ca l : Addr) (a : Nat) (xs : List V), vs = [.ref st, .ref l] ∧ StA H st la ca a ∧ a < 10000 ∧ H l = some (.lst xs) ∧ l ≠ la ∧ 0 < xs.length ∧ xs.length ≤ 1000 ∧ ∀ (H' : Hp) (v : V), v ∈ xs → Fr2 H H' st la → StA H' st la ca (a + 1) → Q v H'
theorem n_ca : ¬ (Sum.inr ("cells" : Str) : Key) = Sum.inr ("at" : Str) := by decide +kernel
theorem n_la : ¬ (Sum.inr ("lefts" : Str) : Key) = Sum.inr ("at" : Str) := by decide +kernel
theorem ixNn {n j : Nat} (h : j < n) : ixN n (j : Int) = some j := by
  unfold ixN
  rw [if_pos (Int.natCast_nonneg j), if_pos (Int.ofNat_lt.mpr h), Int.toNat_natCast]
section
variable {P : Program} {w : World} {K : PySem.W.Frag} {mg : Str → Option Value} {base : Heap} {C aK aA : Addr}
abbrev s_law_mixed : Stmt := top 39
abbrev N_law_mixed : List Str := ["cell", "k"]
theorem sc_law_mixed : FnScope N_law_mixed ["cell", "k"] (defScope s_law_mixed) := ⟨rfl, rfl, rfl, by decide +kernel, rfl, by decide +kernel, by decide +kernel⟩
theorem ok_law_mixed {f : Addr} {fd : FuncData} (F : Fun K "_law_mixed" "_law_mixed" s_law_mixed f fd) (b : Binds K fd ["cell", "k"] []) (m : mg "_law_mixed" = some (.ref f)) (T : Txt K mg C aK aA) :
    DefAt P w K mg base "_law_mixed" 1 ["cell", "k"] spMixed := by
  refine ⟨f, fd, F.ok sc_law_mixed (fun vs H Q E h => ?_) (fun cdv A outer s H vs Q E hr h => ?_), b, F.kp, m⟩
  · obtain ⟨c, k, rfl, _⟩ := h
    rfl
  obtain ⟨c, k, rfl, k0, k1, q⟩ := h
  have nd := sc_law_mixed.nd
  refine ⟨_, (pss_cons (ps_set (i := 0) nd rfl (Or.inl rfl) (pe_op op_mod (pe_callTy call_int1 (by rfl) T.n_int W31.boot_int (pa_cons (pv 0) pa_nil)) pe_int))
    (pss_one (ps_ret (pe_op op_mod (pe_op op_mul (pe_op op_mod (pe_op op_add (pe_op op_add (pe_op op_mul (pv 0) (pe_op op_add pe_int (pe_op op_mul (pe_op op_mul pe_int (pv 1)) (pv 1)))) (pe_op op_mul pe_int (pv 1))) pe_int) pe_int) pe_int) pe_int)))), ?_⟩
  have c1 := Int.emod_nonneg c (show (2147483647 : Int) ≠ 0 by decide)
  have c2 := Int.emod_lt_of_pos c (show (0 : Int) < 2147483647 by decide)
  refine ⟨_, rfl, .inl ⟨c, rfl, _, _, rfl, rfl, (by show (0 : Int) < 2147483647; decide), ?_⟩⟩
  refine ⟨_, rfl, _, rfl, _, _, rfl, rfl, .inl ⟨by decide, by decide⟩, _, rfl, _, _, rfl, rfl, .inr ⟨by omega, by omega⟩, _, _, rfl, rfl, _, _, rfl, rfl, .inl ⟨by omega, by omega⟩, _, rfl, _, _, rfl, rfl, .inl ⟨by decide, by decide⟩, _, _, rfl, rfl, _, _, rfl, rfl, _, _, rfl, rfl, (by show (0 : Int) < 2147483647; decide), _, _, rfl, rfl, .inr ⟨by decide, by decide⟩, _, _, rfl, rfl, (by show (0 : Int) < 2147483629; decide), ?_⟩
  refine q _ (Int.emod_nonneg _ (by decide)) ?_
  exact Int.lt_trans (Int.emod_lt_of_pos _ (show (0 : Int) < 2147483629 by decide)) (by decide)

abbrev s_law_begin : Stmt := top 40
abbrev N_law_begin : List Str := ["script", "cells", "cell"]
theorem sc_law_begin : FnScope N_law_begin ["script"] (defScope s_law_begin) := ⟨rfl, rfl, rfl, by decide +kernel, rfl, by decide +kernel, by decide +kernel⟩
theorem ok_law_begin {f : Addr} {fd : FuncData} (F : Fun K "_law_begin" "_law_begin" s_law_begin f fd) (b : Binds K fd ["script"] []) (m : mg "_law_begin" = some (.ref f)) (T : Txt K mg C aK aA) :
    DefAt P w K mg base "_law_begin" 1 ["script"] (spBegin K) := by
  refine ⟨f, fd, F.ok sc_law_begin (fun vs H Q E h => ?_) (fun cdv A outer s H vs Q E hr h => ?_), b, F.kp, m⟩
  · obtain ⟨l, ns, rfl, _⟩ := h
    rfl
  obtain ⟨l, ns, rfl, hl, few, q⟩ := h
  have nd := sc_law_begin.nd
  refine ⟨_, (pss_cons (ps_set (i := 1) nd rfl (Or.inl rfl) (pe_ifExp (pt_cmpR (op_neDK K rfl hr.units) (pv 0) (pe_lst pa_nil) (nomark _)) (pe_callTy (call_listK K rfl) (by rfl) T.n_list W31.boot_list (pa_cons (pv 0) pa_nil)) (pe_lst (pa_cons pe_int pa_nil))))
    (pss_one (ps_ret (pe_disp (pps_cons pe_str (pv 1) (pps_cons pe_str (pe_lc (own := [("cell", 2)]) (g := gName 2) (tt := tYes) rfl nd (pi_listK K rfl (pv 1)) (blkOk_by (N := N_law_begin) (sc := defScope s_law_begin) (by decide +kernel)) (fun _ _ _ _ _ => (pg_name (i := 2) nd rfl (Or.inl rfl))) (fun _ _ _ _ _ => pts_nil) (fun _ _ _ _ _ => (pe_ifExp (pt_cmpR op_ge (pv 2) (pe_op op_pow pe_int pe_int) (nomark _)) (pv 2) pe_int))) (pps_cons pe_str pe_int (pps_cons pe_str pe_int pps_nil)))) (by rfl) (by rfl) (fun z => by cases z) (by decide))))), ?_⟩
  refine ⟨_, rfl, Nat.zero_le _, fun e he => ?_⟩
  have se := same_new he (.lst [])
  refine neE_to (se.seq hl) (dp_ints ns) upd_same lay_ints (by decide) ?_
  refine ⟨_, rfl, ?_⟩
  have rest : ∀ (ca : Addr) (H1 : Hp) (cs : List Int), Same H H1 → H ca = none → H1 ca = some (.lst (cs.map V.int)) → 0 < cs.length → cs.length ≤ 63 → tRet (tDisp [(tC (.str "cells"), tVar 1), (tC (.str "lefts"), tLc (iList K (tVar 1)) (gName 2) tYes (tIf (tTest (tOp (rI0 fun i j => V.bl (decide (j ≤ i))) (tVar 2) (tOp (rI CPow fun i j => V.int (i ^ j.toNat)) (tC (.int 10)) (tC (.int 18))))) (tVar 2) (tC (.int 0))) [2]), (tC (.str "at"), tC (.int 0)), (tC (.str "room"), tC (.int 0))])
      { nx := fun _ H' => Q .non H', rt := Q } [some (.ref l), some (.ref ca), none] H1 := fun ca H1 cs s1 hca0 hca cpos cfew => by
    intro d hd
    have nd : ca ≠ d := ne_of_none hca hd
    have sd := same_new hd (.dK [])
    refine ⟨_, rfl, _, rfl, ca, rfl, ⟨_, SqL.of (sd _ _ hca)⟩, ?_⟩
    refine lcL (R := IntA) (ds := cs) (f := fun c => some (if (10 : Int) ^ 18 ≤ c then c else 0)) IntA.mn (SqL.of (sd _ _ hca)) (List.length_map _) (by omega) ?_ ?_
    · intro i v c H' hv hc s' Q1 Q0 k1 k0
      rw [List.getElem?_map, hc] at hv
      obtain rfl : V.int c = v := Option.some.inj hv
      refine ⟨rfl, ?_⟩
      refine ⟨_, rfl, _, _, rfl, rfl, ⟨by decide, by decide, by decide⟩, _, _, rfl, rfl, _, rfl, ?_⟩
      refine ite2 (fun z => ?_) (fun z => ?_)
      · refine ⟨_, rfl, k1 _ _ _ rfl ?_ (Same.refl _)⟩
        have z : (10 : Int) ^ 18 ≤ c := of_decide_eq_true z
        rw [if_pos z]
        rfl
      · refine k1 _ _ _ rfl ?_ (Same.refl _)
        have z : ¬ (10 : Int) ^ 18 ≤ c := fun y => z (decide_eq_true y)
        rw [if_neg z]
        rfl
    · intro la H3 ys hla s3 hys pr
      rw [ints_map pr] at hys
      have hd3 : H3 d = some (.dK []) := s3 _ _ upd_same
      refine ⟨hd3, [(Sum.inr "cells", .ref ca), (Sum.inr "lefts", .ref la), (Sum.inr "at", .int 0), (Sum.inr "room", .int 0)], rfl, (by show 4 ≤ 15; decide), ?_⟩
      have hla1 : H1 la = none := sd.free hla
      have hd0 : H d = none := s1.free hd
      have hla0 : H la = none := s1.free hla1
      have nla : d ≠ la := fun z => by rw [← z, upd_same] at hla; cases hla
      have lenf : (cs.filterMap fun c => some (if (10 : Int) ^ 18 ≤ c then c else 0)).length = cs.length := by rw [filterMap_some (g := fun c : Int => if (10 : Int) ^ 18 ≤ c then c else 0) _ fun _ _ => rfl, List.length_map]
      refine q d la ca _ (same_own (s1.trans (sd.trans s3)) hd0) hd0 hla0 hca0 ⟨_, cs, _, upd_same, ?_, ?_, ?_, ?_, by rw [upd_ne nd]; exact s3 _ _ (sd _ _ hca), by rw [upd_ne nla.symm]; exact hys, (fun z => by rw [← z, hca] at hla1; cases hla1), lenf.symm, cpos, by omega⟩
      · simp only [mergeK, List.foldl]
        rw [valV_put, if_neg (by decide +kernel), valV_put, if_neg (by decide +kernel), valV_put, if_neg (by decide +kernel), valV_put, if_pos rfl]
      · simp only [mergeK, List.foldl]
        rw [valV_put, if_neg (by decide +kernel), valV_put, if_neg (by decide +kernel), valV_put, if_pos rfl]
      · simp only [mergeK, List.foldl]
        rw [valV_put, if_neg (by decide +kernel), valV_put, if_pos rfl]
        rfl
      · simp only [mergeK, List.foldl]
        refine Nat.le_trans (length_putK _ _ _) (Nat.succ_le_succ (Nat.le_trans (length_putK _ _ _) (Nat.succ_le_succ (Nat.le_trans (length_putK _ _ _) (Nat.succ_le_succ (length_putK _ _ _))))))
  refine ite2 (fun c => ?_) (fun c => ?_)
  · refine ⟨_, rfl, l, _, rfl, .inl (se.seq hl), fun ca hca => ?_⟩
    refine rest ca _ ns (se.trans (same_new hca _)) (se.free hca) upd_same ?_ few
    cases ns with
    | nil => cases c
    | cons a r => exact Nat.succ_pos _
  · refine ⟨by show 1 ≤ sizeLine; decide, fun ca hca => ?_⟩
    exact rest ca _ [0] (se.trans (same_new hca _)) (se.free hca) upd_same (by decide) (by decide)

abbrev s_law_draw : Stmt := top 41
abbrev N_law_draw : List Str := ["state", "many", "at", "place", "left", "number"]
theorem sc_law_draw : FnScope N_law_draw ["state", "many"] (defScope s_law_draw) := ⟨rfl, rfl, rfl, by decide +kernel, rfl, by decide +kernel, by decide +kernel⟩
theorem ok_law_draw {f : Addr} {fd : FuncData} (F : Fun K "_law_draw" "_law_draw" s_law_draw f fd) (b : Binds K fd ["state", "many"] []) (m : mg "_law_draw" = some (.ref f)) (T : Txt K mg C aK aA)
    (Dlaw_mixed : DefAt P w K mg base "_law_mixed" 1 ["cell", "k"] spMixed) :
    DefAt P w K mg base "_law_draw" 2 ["state", "many"] spDraw := by
  refine ⟨f, fd, F.ok sc_law_draw (fun vs H Q E h => ?_) (fun cdv A outer s H vs Q E hr h => ?_), b, F.kp, m⟩
  · obtain ⟨st, la, ca, a, many, rfl, _⟩ := h
    rfl
  obtain ⟨st, la, ca, a, many, rfl, hs, ha, m0, m1, q⟩ := h
  have nd := sc_law_draw.nd
  have hu := hu_of hr
  obtain ⟨kvs, cells, lefts, h1, h2, h3, h4, h5, h6, h7, h8, h9, h10, h11⟩ := hs
  refine ⟨_, (pss_cons (ps_set (i := 2) nd rfl (Or.inl rfl) (pe_dget hu (pv 0) pe_str (fun _ _ => rfl)))
    (pss_cons (ps_dput hu (pv 0) pe_str (pe_op op_add (pv 2) pe_int) rfl)
    (pss_cons (ps_set (i := 3) nd rfl (Or.inl rfl) (pe_op op_mod (pe_callTy call_int1 (by rfl) T.n_int W31.boot_int (pa_cons (pv 2) pa_nil)) (pe_callB (call_lenK K rfl) (by rfl) T.n_len W31.boot_len (pa_cons (pe_dget hu (pv 0) pe_str (fun _ _ => rfl)) pa_nil))))
    (pss_cons (ps_set (i := 4) nd rfl (Or.inl rfl) (pe_ix (ix_listK K rfl) (pe_dget hu (pv 0) pe_str (fun _ _ => rfl)) (pv 3) (fun _ _ => rfl)))
    (pss_cons (ps_if (pt_cmpR op_gt (pv 4) pe_int (nomark _))
    (pss_cons (ps_asg (pe_op op_fdiv (pv 4) (pv 1)) (pg_sub (pe_dget hu (pv 0) pe_str (fun _ _ => rfl)) (pv 3) set_list))
    (pss_one (ps_ret (pe_op op_mod (pe_callTy call_int1 (by rfl) T.n_int W31.boot_int (pa_cons (pv 4) pa_nil)) (pv 1)))))
    pss_nil)
    (pss_cons (ps_set (i := 5) nd rfl (Or.inl rfl) (pe_callD Dlaw_mixed (hr.mono (by decide)) rfl (pa_cons (pe_callD Dlaw_mixed (hr.mono (by decide)) rfl (pa_cons (pe_ix (ix_listK K rfl) (pe_dget hu (pv 0) pe_str (fun _ _ => rfl)) (pv 3) (fun _ _ => rfl)) (pa_cons (pv 2) pa_nil))) (pa_cons (pe_op op_add pe_int (pv 2)) pa_nil))))
    (pss_one (ps_ret (pe_op op_mod (pe_op op_fdiv (pe_callTy call_int1 (by rfl) T.n_int W31.boot_int (pa_cons (pe_op op_add (pe_op op_mul (pv 5) pe_int) (pe_callD Dlaw_mixed (hr.mono (by decide)) rfl (pa_cons (pv 5) (pa_cons (pe_op op_add pe_int (pv 2)) pa_nil)))) pa_nil)) pe_int) (pv 1)))))))))), ?_⟩
  have nsl : st ≠ la := fun z => by rw [z, h7] at h1; cases h1
  have nsc : st ≠ ca := fun z => by rw [z, h6] at h1; cases h1
  refine ⟨_, rfl, _, _, rfl, .inl ⟨_, Sum.inr "at", .inl h1, rfl, h4.symm⟩, ?_⟩
  refine ⟨_, rfl, _, _, rfl, rfl, _, rfl, st, _, rfl, DPut.k (k := Sum.inr "at") h1 (by rw [sizeLine_eq]; omega), ?_⟩
  obtain ⟨kvs2, ek⟩ : ∃ kvs2, kvs2 = putK kvs (Sum.inr "at" : Key) (V.int ((a : Nat) + 1)) := ⟨_, rfl⟩
  rw [← ek]
  have g2 : valV kvs2 (Sum.inr "cells") = some (.ref ca) := by rw [ek, valV_put, if_neg n_ca]; exact h2
  have g3 : valV kvs2 (Sum.inr "lefts") = some (.ref la) := by rw [ek, valV_put, if_neg n_la]; exact h3
  have g4 : valV kvs2 (Sum.inr "at") = some (.int ((a + 1 : Nat) : Int)) := by rw [ek, valV_put, if_pos rfl]; rfl
  have g5 : kvs2.length ≤ (a + 1) + 4 := by rw [ek]; have := length_putK kvs (Sum.inr "at" : Key) (V.int ((a : Nat) + 1)); omega
  obtain ⟨H2, eH⟩ : ∃ H2, H2 = upd H st (.dK kvs2) := ⟨_, rfl⟩
  rw [← eH]
  have k1 : H2 st = some (.dK kvs2) := by rw [eH, upd_same]
  have k6 : H2 ca = some (.lst (cells.map V.int)) := by rw [eH, upd_ne nsc.symm]; exact h6
  have k7 : H2 la = some (.lst (lefts.map V.int)) := by rw [eH, upd_ne nsl.symm]; exact h7
  have f2 : Fr2 H H2 st la := by rw [eH]; exact fr2_a H st la _
  refine ⟨_, rfl, .inl ⟨_, rfl, _, rfl, st, _, rfl, .inl ⟨_, Sum.inr "cells", .inl k1, rfl, g2.symm⟩, ca, _, rfl, .inl (SqL.of k6), _, _, rfl, rfl, (by show (0 : Int) < ((cells.map V.int).length : Int); rw [List.length_map]; omega), ?_⟩⟩
  have epl : ((a : Int) % ((cells.map V.int).length : Int)) = ((a % cells.length : Nat) : Int) := by rw [List.length_map]; rfl
  dsimp only
  rw [epl]
  have plt : a % cells.length < cells.length := Nat.mod_lt _ h10
  have plt2 : a % cells.length < lefts.length := by rw [← h9]; exact plt
  obtain ⟨left, hleft⟩ : ∃ left, lefts[a % cells.length]? = some left := ⟨_, List.getElem?_eq_getElem plt2⟩
  obtain ⟨cell, hcell⟩ : ∃ cell, cells[a % cells.length]? = some cell := ⟨_, List.getElem?_eq_getElem plt⟩
  refine ⟨_, rfl, st, _, rfl, .inl ⟨_, Sum.inr "lefts", .inl k1, rfl, g3.symm⟩, _, rfl, la, _, _, .int left, rfl, rfl, SqL.of k7, atI_nat (by rw [List.getElem?_map, hleft]; rfl), ?_⟩
  refine ⟨_, rfl, _, _, rfl, rfl, _, rfl, ?_⟩
  have mpos : (0 : Int) < (many : Int) := by omega
  refine ite2 (fun c => ?_) (fun c => ?_)
  · refine ⟨_, rfl, _, rfl, _, _, rfl, rfl, ⟨mpos, by omega⟩, _, rfl, st, _, rfl, .inl ⟨_, Sum.inr "lefts", .inl k1, rfl, g3.symm⟩, _, rfl, la, _, _, a % cells.length, rfl, rfl, k7, ixNn (by rw [List.length_map]; exact plt2), ?_⟩
    refine ⟨_, rfl, .inl ⟨_, rfl, _, rfl, _, _, rfl, rfl, mpos, ?_⟩⟩
    have e1 : left % (many : Int) = (((left % (many : Int)).toNat : Nat) : Int) := (Int.toNat_of_nonneg (Int.emod_nonneg _ (by omega))).symm
    show Q (V.int (left % (many : Int))) _
    rw [e1]
    refine q _ _ ?_ (f2.trans (fr2_b _ _ _ _)) ⟨kvs2, cells, lefts.set (a % cells.length) (left / (many : Int)), by rw [upd_ne nsl]; exact k1, g2, g3, g4, g5, by rw [upd_ne h8]; exact k6, by rw [upd_same, List.map_set], h8, by rw [List.length_set]; exact h9, h10, h11⟩
    have := Int.emod_lt_of_pos left mpos
    omega
  · have S2 : StA H2 st la ca (a + 1) := ⟨kvs2, cells, lefts, k1, g2, g3, g4, g5, k6, k7, h8, h9, h10, h11⟩
    refine ⟨_, rfl, st, _, rfl, .inl ⟨_, Sum.inr "cells", .inl k1, rfl, g2.symm⟩, _, rfl, ca, _, _, .int cell, rfl, rfl, SqL.of k6, atI_nat (by rw [List.getElem?_map, hcell]; rfl), _, rfl, cell, (a : Int), rfl, by omega, by omega, fun z z0 z1 => ?_⟩
    refine ⟨_, rfl, _, _, rfl, rfl, z, 40 + (a : Int), rfl, by omega, by omega, fun y y0 y1 => ?_⟩
    refine ⟨_, rfl, _, _, rfl, rfl, .inr ⟨by decide, by decide⟩, _, rfl, _, rfl, _, _, rfl, rfl, y, 7 + (a : Int), rfl, by omega, by omega, fun x x0 x1 => ?_⟩
    refine ⟨_, _, rfl, rfl, .inl ⟨_, rfl, _, _, rfl, rfl, ⟨by decide, by decide⟩, _, rfl, _, _, rfl, rfl, mpos, ?_⟩⟩
    have e1 : ∀ u : Int, u % (many : Int) = (((u % (many : Int)).toNat : Nat) : Int) := fun u => (Int.toNat_of_nonneg (Int.emod_nonneg _ (by omega))).symm
    show Q (V.int ((y * 2147483647 + x) / 64 % (many : Int))) _
    rw [e1]
    refine q _ _ ?_ f2 S2
    have := Int.emod_lt_of_pos ((y * 2147483647 + x) / 64) mpos
    have := Int.emod_nonneg ((y * 2147483647 + x) / 64) (show (many : Int) ≠ 0 by omega)
    omega

abbrev s_law_of : Stmt := top 42
abbrev N_law_of : List Str := ["state", "some"]
theorem sc_law_of : FnScope N_law_of ["state", "some"] (defScope s_law_of) := ⟨rfl, rfl, rfl, by decide +kernel, rfl, by decide +kernel, by decide +kernel⟩
theorem ok_law_of {f : Addr} {fd : FuncData} (F : Fun K "_law_of" "_law_of" s_law_of f fd) (b : Binds K fd ["state", "some"] []) (m : mg "_law_of" = some (.ref f)) (T : Txt K mg C aK aA)
    (Dlaw_draw : DefAt P w K mg base "_law_draw" 2 ["state", "many"] spDraw) :
    DefAt P w K mg base "_law_of" 3 ["state", "some"] spOf := by
  refine ⟨f, fd, F.ok sc_law_of (fun vs H Q E h => ?_) (fun cdv A outer s H vs Q E hr h => ?_), b, F.kp, m⟩
  · obtain ⟨st, la, ca, l, a, xs, rfl, _⟩ := h
    rfl
  obtain ⟨st, la, ca, l, a, xs, rfl, hs, ha, hl, nl, x0, x1, q⟩ := h
  have nd := sc_law_of.nd
  refine ⟨_, (pss_one (ps_ret (pe_ix (ix_listK K rfl) (pv 1) (pe_callD Dlaw_draw (hr.mono (by decide)) rfl (pa_cons (pv 0) (pa_cons (pe_callB (call_lenK K rfl) (by rfl) T.n_len W31.boot_len (pa_cons (pv 1) pa_nil)) pa_nil))) (fun _ _ => rfl)))), ?_⟩
  refine ⟨_, rfl, _, rfl, _, rfl, l, _, rfl, .inl (SqL.of hl), st, la, ca, a, xs.length, rfl, hs, ha, x0, x1, fun H1 v hv f1 s1 => ?_⟩
  have nls : l ≠ st := fun z => by obtain ⟨kvs, h1⟩ := hs.st; rw [z, h1] at hl; cases hl
  have hx : xs[v]? = some xs[v] := List.getElem?_eq_getElem hv
  refine ⟨l, _, _, _, rfl, rfl, SqL.of (f1 _ _ hl nls nl), atI_nat hx, ?_⟩
  exact q H1 _ (List.getElem_mem hv) f1 s1
end
end W31

set_option maxHeartbeats 4000000
/-! _law_option_name, _law_letter, _law_clashing. -/
namespace W31
open PySem PySem.Spec PyProof.Rows L2
def spName : Sp := fun vs H Q _ => ∃ (st la ca : Addr) (a : Nat), vs = [.ref st] ∧ StA H st la ca a ∧ a < 9000 ∧ ∀ (H' : Hp) (x : Str) (a' : Nat), NameOk x → Fr2 H H' st la → StA H' st la ca a' → a' ≤ a + 15 → Q (.str x) H'
def spLetter : Sp := fun vs H Q _ => ∃ (st la ca : Addr) (a : Nat), vs = [.ref st] ∧ StA H st la ca a ∧ a < 9000 ∧ ∀ (H' : Hp) (x : Str) (a' : Nat), LetterOk x → Fr2 H H' st la → StA H' st la ca a' → a' ≤ a + 2 → Q (.str x) H'
def spClash : Sp := fun vs H Q _ => ∃ (st la ca : Addr) (a many : Nat), vs = [.ref st, .int (many : Nat)] ∧ StA H st la ca a ∧ a < 9000 ∧ many ≤ 16 ∧ ∀ (H' : Hp) (r : V) (ws : List Opt) (a' : Nat), Fr2 H H' st la → StA H' st la ca a' → a' ≤ a + 48 → OptsA H' r ws → WsOk ws → ws.length = many → Q r H'
def nameB (x : Str) : Bool := decide (2 ≤ x.length) && decide (x.length ≤ 12) && (x.cps.toList.all fun c => decide (c ∈ (LETTERS ++ "-").cps.toList)) && (x.cps.toList.head?.any fun c => decide (c ≠ 45)) && (x.cps.toList.getLast?.any fun c => decide (c ≠ 45))
theorem nameB_ok {x : Str} (h : nameB x = true) : NameOk x := by
  unfold nameB at h
  simp only [Bool.and_eq_true, decide_eq_true_iff, List.all_eq_true, Option.any_eq_true] at h
  obtain ⟨⟨⟨⟨h1, h2⟩, h3⟩, c, h4, h4'⟩, d, h5, h5'⟩ := h
  exact ⟨h1, h2, fun c hc => h3 c hc, ⟨c, h4, h4'⟩, ⟨d, h5, h5'⟩⟩
def letterB (x : Str) : Bool := match x.cps.toList with
  | [] => true
  | [c] => decide (c ∈ (LETTERS ++ FIGURES).cps.toList)
  | _ => false
theorem letterB_ok {x : Str} (h : letterB x = true) : LetterOk x := by
  unfold letterB at h
  split at h
  · next e => exact .inl (str_ext e)
  · next c e => exact .inr ⟨c, str_ext e, of_decide_eq_true h⟩
  · cases h
def nameL : List Str := ["ab", "abc", "abd", "abcd", "a-b", "ba", "bab", "xy"]
theorem nameL_ok {x : Str} (h : x ∈ nameL) : NameOk x := nameB_ok (List.all_eq_true.mp (show (nameL.all nameB) = true by decide +kernel) x h)
def wishL : List Str := ["qa", "qb", "qc", "qd", "qe", "ab", "xy"]
theorem wishL_ok {x : Str} (h : x ∈ wishL) : NameOk x := nameB_ok (List.all_eq_true.mp (show (wishL.all nameB) = true by decide +kernel) x h)
def lettL : List Str := ["", "q", "r", "s", "t", "a", "5", "u"]
theorem lettL_ok {x : Str} (h : x ∈ lettL) : LetterOk x := letterB_ok (List.all_eq_true.mp (show (lettL.all letterB) = true by decide +kernel) x h)
def kindL3 : List Str := ["flag", "last", "maybe"]
theorem kindL3_ok {x : Str} (h : x ∈ kindL3) : x ∈ kindsL := List.elem_iff.mp (List.all_eq_true.mp (show (kindL3.all fun x => kindsL.elem x) = true by decide +kernel) x h)
theorem app_l (a y : Str) : (a ++ y).cps.toList = a.cps.toList ++ y.cps.toList := by rw [PySem.Str.cps_append, Array.toList_append]
theorem abc_ok : ∀ c ∈ ("abcx0" : Str).cps.toList, c ∈ (LETTERS ++ FIGURES).cps.toList := by decide +kernel
theorem all_ok : ∀ c ∈ ("abcdefghijklmnopqrstuvwxyz0123456789" : Str).cps.toList, c ∈ (LETTERS ++ FIGURES).cps.toList := by decide +kernel
theorem let_ok : ∀ c ∈ LETTERS.cps.toList, c ∈ (LETTERS ++ "-").cps.toList ∧ c ≠ 45 := by decide +kernel
theorem join_signs : ∀ xs : List Str, (∀ x ∈ xs, ∃ c, x = ⟨#[c]⟩ ∧ c ∈ (LETTERS ++ "-").cps.toList) → (Txt.join "" xs).length = xs.length ∧ SignsOf (Txt.join "" xs) (LETTERS ++ "-") := by
  intro xs h
  have e : (Txt.join "" xs).cps.toList = (xs.map fun x => x.cps.toList).flatten := by
    show (Builtin.Str.glued "" xs).cps.toList = _
    cases xs with
    | nil => rfl
    | cons x r =>
      show ((r.foldl (fun acc (p : Str) => acc ++ ("" : Str).cps ++ p.cps) x.cps)).toList = _
      have g : ∀ (r : List Str) (acc : Array Nat), (r.foldl (fun acc (p : Str) => acc ++ ("" : Str).cps ++ p.cps) acc).toList = acc.toList ++ (r.map fun x => x.cps.toList).flatten := by
        intro r
        induction r with
        | nil => intro acc; simp
        | cons y r ih =>
          intro acc
          rw [List.foldl_cons, ih]
          have : ("" : Str).cps = #[] := rfl
          rw [this]
          simp
      rw [g]
      simp
  have f : ∀ xs : List Str, (∀ x ∈ xs, ∃ c, x = ⟨#[c]⟩ ∧ c ∈ (LETTERS ++ "-").cps.toList) → (xs.map fun x => x.cps.toList).flatten.length = xs.length ∧ ∀ c ∈ (xs.map fun x => x.cps.toList).flatten, c ∈ (LETTERS ++ "-").cps.toList := by
    intro xs
    induction xs with
    | nil => intro _; exact ⟨rfl, fun c hc => by cases hc⟩
    | cons x r ih =>
      intro h
      obtain ⟨c, rfl, hc⟩ := h x List.mem_cons_self
      obtain ⟨h1, h2⟩ := ih fun y hy => h y (List.mem_cons_of_mem _ hy)
      rw [List.map_cons, List.flatten_cons]
      refine ⟨by rw [List.length_append, h1]; show 1 + r.length = r.length + 1; omega, fun d hd => ?_⟩
      rcases List.mem_append.mp hd with hd | hd
      · have : d = c := List.mem_singleton.mp hd
        rw [this]; exact hc
      · exact h2 d hd
  obtain ⟨h1, h2⟩ := f xs h
  refine ⟨?_, fun c hc => h2 c (by rw [← e]; exact hc)⟩
  rw [str_len, e, h1]
theorem drawn_name {c d : Nat} {x : Str} (hc : c ∈ LETTERS.cps.toList) (hd : d ∈ LETTERS.cps.toList) (hx : x.length ≤ 10) (sx : SignsOf x (LETTERS ++ "-")) : NameOk ((⟨#[c]⟩ : Str) ++ x ++ (⟨#[d]⟩ : Str)) := by
  have e : ((⟨#[c]⟩ : Str) ++ x ++ (⟨#[d]⟩ : Str)).cps.toList = c :: (x.cps.toList ++ [d]) := by
    rw [app_l, app_l]
    rfl
  have lx : x.cps.toList.length = x.length := Array.length_toList
  have l : ((⟨#[c]⟩ : Str) ++ x ++ (⟨#[d]⟩ : Str)).length = x.length + 2 := by
    rw [str_len, e, List.length_cons, List.length_append, lx]
    rfl
  refine ⟨by omega, by omega, fun y hy => ?_, ⟨c, by rw [e]; rfl, (let_ok c hc).2⟩, ⟨d, ?_, (let_ok d hd).2⟩⟩
  · rw [e] at hy
    rcases List.mem_cons.mp hy with rfl | hy
    · exact (let_ok _ hc).1
    · rcases List.mem_append.mp hy with hy | hy
      · exact sx y hy
      · rw [List.mem_singleton.mp hy]; exact (let_ok d hd).1
  · rw [e, ← List.cons_append, List.getLast?_concat]
section
variable {P : Program} {w : World} {K : PySem.W.Frag} {mg : Str → Option Value} {base : Heap} {C aK aA : Addr}
abbrev s_law_option_name : Stmt := top 50
abbrev N_law_option_name : List Str := ["state", "letters", "inner", "k"]
theorem sc_law_option_name : FnScope N_law_option_name ["state"] (defScope s_law_option_name) := ⟨rfl, rfl, rfl, by decide +kernel, rfl, by decide +kernel, by decide +kernel⟩
theorem ok_law_option_name {f : Addr} {fd : FuncData} (F : Fun K "_law_option_name" "_law_option_name" s_law_option_name f fd) (b : Binds K fd ["state"] []) (m : mg "_law_option_name" = some (.ref f)) (T : Txt K mg C aK aA)
    (Dlaw_draw : DefAt P w K mg base "_law_draw" 2 ["state", "many"] spDraw) :
    DefAt P w K mg base "_law_option_name" 3 ["state"] spName := by
  refine ⟨f, fd, F.ok sc_law_option_name (fun vs H Q E h => ?_) (fun cdv A outer s H vs Q E hr h => ?_), b, F.kp, m⟩
  · obtain ⟨st, la, ca, a, rfl, _⟩ := h
    rfl
  obtain ⟨st, la, ca, a, rfl, hs, ha, q⟩ := h
  have nd := sc_law_option_name.nd
  refine ⟨_, (pss_cons (ps_if (pt_cmpR op_gt (pe_callD Dlaw_draw (hr.mono (by decide)) rfl (pa_cons (pv 0) (pa_cons pe_int pa_nil))) pe_int (nomark _))
    (pss_one (ps_ret (pe_ix (ix_listK K rfl) (pe_lst (pa_cons pe_str (pa_cons pe_str (pa_cons pe_str (pa_cons pe_str (pa_cons pe_str (pa_cons pe_str (pa_cons pe_str (pa_cons pe_str pa_nil))))))))) (pe_callD Dlaw_draw (hr.mono (by decide)) rfl (pa_cons (pv 0) (pa_cons pe_int pa_nil))) (fun _ _ => rfl))))
    pss_nil)
    (pss_cons (ps_set (i := 1) nd rfl (Or.inr rfl) pe_str)
    (pss_cons (ps_set (i := 2) nd rfl (Or.inl rfl) (pe_join pe_str (pe_lc (own := [("k", 3)]) (g := gName 3) (tt := tYes) rfl nd (pi_range1 (by rfl) T.n_range (pa_cons (pe_callD Dlaw_draw (hr.mono (by decide)) rfl (pa_cons (pv 0) (pa_cons pe_int pa_nil))) pa_nil)) (blkOk_by (N := N_law_option_name) (sc := defScope s_law_option_name) (by decide +kernel)) (fun _ _ _ _ _ => (pg_name (i := 3) nd rfl (Or.inl rfl))) (fun _ _ _ _ _ => pts_nil) (fun _ _ _ _ _ => (pe_ix ix_str (pe_op op_add_str (pv 1) pe_str) (pe_callD Dlaw_draw (hr.mono (by decide)) rfl (pa_cons (pv 0) (pa_cons pe_int pa_nil))) (fun _ _ => rfl))))))
    (pss_one (ps_ret (pe_op op_add_str (pe_op op_add_str (pe_ix ix_str (pv 1) (pe_callD Dlaw_draw (hr.mono (by decide)) rfl (pa_cons (pv 0) (pa_cons pe_int pa_nil))) (fun _ _ => rfl)) (pv 2)) (pe_ix ix_str (pv 1) (pe_callD Dlaw_draw (hr.mono (by decide)) rfl (pa_cons (pv 0) (pa_cons pe_int pa_nil))) (fun _ _ => rfl)))))))), ?_⟩
  refine ⟨_, rfl, st, la, ca, a, 4, rfl, hs, by omega, by decide, by decide, fun H1 v1 hv1 f1 s1 => ?_⟩
  refine ⟨_, _, rfl, rfl, _, rfl, ?_⟩
  refine ite2 (fun c => ?_) (fun c => ?_)
  · refine ⟨by show 8 ≤ sizeLine; decide, fun l hl => ?_⟩
    have sl := same_new hl (.lst (nameL.map V.str))
    have s2 := s1.same sl
    refine ⟨_, rfl, st, la, ca, a + 1, 8, rfl, s2, by omega, by decide, by decide, fun H3 v3 hv3 f3 s3 => ?_⟩
    obtain ⟨kv, hst⟩ := s1.st
    obtain ⟨xl, hla⟩ := s1.la
    have h3 : H3 l = some (.lst (nameL.map V.str)) := f3 _ _ upd_same (ne_of_none hst hl).symm (ne_of_none hla hl).symm
    have hx : nameL[v3]? = some nameL[v3] := List.getElem?_eq_getElem (show v3 < nameL.length from hv3)
    refine ⟨l, _, _, _, rfl, rfl, SqL.of h3, atI_nat (by rw [List.getElem?_map, hx]; rfl), ?_⟩
    exact q H3 _ _ (nameL_ok (List.getElem_mem _)) (f1.trans ((Same.fr2 sl _ _).trans f3)) s3 (by omega)
  · refine ⟨⟨_, rfl⟩, _, rfl, st, la, ca, a + 1, 11, rfl, s1, by omega, by decide, by decide, fun H2 v2 hv2 f2 s2 => ⟨_, rfl, by omega, by omega, ?_⟩⟩
    intro D hD
    obtain ⟨kv, hst⟩ := s2.st
    obtain ⟨xl, hla⟩ := s2.la
    have nDs := ne_of_none hst hD
    have nDl := ne_of_none hla hD
    refine lc_it walk_range (fun i H' => ∃ (xs : List Str) (ai : Nat), Fr2 H2 H' st la ∧ StA H' st la ca ai ∧ ai ≤ a + 2 + i ∧ H' D = some (.lst (xs.map V.str)) ∧ xs.length = i ∧ ∀ x ∈ xs, ∃ c, x = ⟨#[c]⟩ ∧ c ∈ (LETTERS ++ "-").cps.toList)
      ⟨[], a + 1 + 1, Same.fr2 (same_new hD _) _ _, s2.same (same_new hD _), by omega, upd_same, rfl, fun x hx => by cases hx⟩ (fun i H' _ _ => trivial) ?_ ?_
    · rintro i x H4 H3 hi ⟨xs, ai, f3, s3, l3, h3, n3, ok3⟩ ⟨rfl, rfl⟩
      have hi : i < v2 := by omega
      refine ⟨rfl, ?_⟩
      refine ⟨_, rfl, _, _, rfl, rfl, (by decide +kernel), _, rfl, st, la, ca, ai, 27, rfl, s3, by omega, by decide, by decide, fun H4 v4 hv4 f4 s4 => ?_⟩
      have hl27 : (LETTERS ++ "-").cps.toList.length = 27 := by decide +kernel
      have hx : (LETTERS ++ "-").cps.toList[v4]? = some (LETTERS ++ "-").cps.toList[v4] := List.getElem?_eq_getElem (by rw [hl27]; exact hv4)
      have h4 : H4 D = some (.lst (xs.map V.str)) := f4 _ _ h3 nDs.symm nDl.symm
      have sN : StA (upd H4 D (.lst (xs.map V.str ++ [V.str ⟨#[(LETTERS ++ "-").cps.toList[v4]]⟩]))) st la ca (ai + 1) := by
        exact s4.own _ h4 nDl.symm (s2.new hD).2.2
      refine ⟨LETTERS ++ "-", _, _, rfl, rfl, (by decide +kernel), atI_nat hx, _, h4, small1000 (by rw [List.length_map]; omega), xs ++ [⟨#[(LETTERS ++ "-").cps.toList[v4]]⟩], ai + 1, ?_, sN, by omega, by rw [upd_same, List.map_append]; rfl, by rw [List.length_append, n3]; rfl, fun y hy => ?_⟩
      · intro c u hc n1 n2
        rw [upd_ne (ne_of_none hc hD)]
        exact f4 _ _ (f3 _ _ hc n1 n2) n1 n2
      · rcases List.mem_append.mp hy with hy | hy
        · exact ok3 y hy
        · exact ⟨_, List.mem_singleton.mp hy, List.getElem_mem _⟩
    · rintro H3 ⟨xs, ai, f3, s3, l3, h3, n3, ok3⟩
      obtain ⟨j1, j2⟩ := join_signs xs ok3
      have xl : xs.length ≤ 10 := by omega
      refine ⟨"", D, xs, rfl, rfl, .inl (SqL.of h3), ?_, ?_⟩
      · have : (xs.map (·.length)).sum = xs.length := by
          clear j1 j2 h3 n3 xl
          induction xs with
          | nil => rfl
          | cons x r ih =>
            obtain ⟨c, rfl, _⟩ := ok3 x List.mem_cons_self
            rw [List.map_cons, List.sum_cons, ih fun y hy => ok3 y (List.mem_cons_of_mem _ hy), List.length_cons]
            show 1 + r.length = _
            omega
        rw [this]
        show xs.length + xs.length * 0 ≤ 16777216
        omega
      · have hl26 : LETTERS.cps.toList.length = 26 := by decide +kernel
        refine ⟨_, rfl, _, rfl, st, la, ca, ai, 26, rfl, s3, by omega, by decide, by decide, fun H5 v5 hv5 f5 s5 => ?_⟩
        have hx5 : LETTERS.cps.toList[v5]? = some LETTERS.cps.toList[v5] := List.getElem?_eq_getElem (by rw [hl26]; exact hv5)
        refine ⟨LETTERS, _, _, rfl, rfl, (by decide +kernel), atI_nat hx5, _, rfl, _, _, rfl, rfl, ?_, _, rfl, _, rfl, st, la, ca, ai + 1, 26, rfl, s5, by omega, by decide, by decide, fun H6 v6 hv6 f6 s6 => ?_⟩
        · have h1 : (⟨#[LETTERS.cps.toList[v5]]⟩ : Str).length = 1 := rfl
          rw [h1, j1, sizeLine_eq]
          omega
        have hx6 : LETTERS.cps.toList[v6]? = some LETTERS.cps.toList[v6] := List.getElem?_eq_getElem (by rw [hl26]; exact hv6)
        refine ⟨LETTERS, _, _, rfl, rfl, (by decide +kernel), atI_nat hx6, _, _, rfl, rfl, ?_, ?_⟩
        · have h1 : (⟨#[LETTERS.cps.toList[v6]]⟩ : Str).length = 1 := rfl
          have h2 : ((⟨#[LETTERS.cps.toList[v5]]⟩ : Str) ++ Txt.join "" xs).length = 1 + xs.length := by rw [PySem.Str.length_append, j1]; rfl
          rw [h1, h2, sizeLine_eq]
          omega
        · exact q H6 _ _ (drawn_name (List.getElem_mem _) (List.getElem_mem _) (by rw [j1]; exact xl) j2) (f1.trans (f2.trans (f3.trans (f5.trans f6)))) s6 (by omega)

abbrev s_law_letter : Stmt := top 51
abbrev N_law_letter : List Str := ["state", "way"]
theorem sc_law_letter : FnScope N_law_letter ["state"] (defScope s_law_letter) := ⟨rfl, rfl, rfl, by decide +kernel, rfl, by decide +kernel, by decide +kernel⟩
theorem ok_law_letter {f : Addr} {fd : FuncData} (F : Fun K "_law_letter" "_law_letter" s_law_letter f fd) (b : Binds K fd ["state"] []) (m : mg "_law_letter" = some (.ref f)) (T : Txt K mg C aK aA)
    (Dlaw_draw : DefAt P w K mg base "_law_draw" 2 ["state", "many"] spDraw) :
    DefAt P w K mg base "_law_letter" 3 ["state"] spLetter := by
  refine ⟨f, fd, F.ok sc_law_letter (fun vs H Q E h => ?_) (fun cdv A outer s H vs Q E hr h => ?_), b, F.kp, m⟩
  · obtain ⟨st, la, ca, a, rfl, _⟩ := h
    rfl
  obtain ⟨st, la, ca, a, rfl, hs, ha, q⟩ := h
  have nd := sc_law_letter.nd
  refine ⟨_, (pss_cons (ps_set (i := 1) nd rfl (Or.inl rfl) (pe_callD Dlaw_draw (hr.mono (by decide)) rfl (pa_cons (pv 0) (pa_cons pe_int pa_nil))))
    (pss_cons (ps_if (pt_cmpR op_lt (pv 1) pe_int (nomark _))
    (pss_one (ps_ret pe_str))
    pss_nil)
    (pss_cons (ps_if (pt_cmpR op_lt (pv 1) pe_int (nomark _))
    (pss_one (ps_ret (pe_ix ix_str pe_str (pe_callD Dlaw_draw (hr.mono (by decide)) rfl (pa_cons (pv 0) (pa_cons pe_int pa_nil))) (fun _ _ => rfl))))
    pss_nil)
    (pss_one (ps_ret (pe_ix ix_str pe_str (pe_callD Dlaw_draw (hr.mono (by decide)) rfl (pa_cons (pv 0) (pa_cons pe_int pa_nil))) (fun _ _ => rfl))))))), ?_⟩
  refine ⟨_, rfl, st, la, ca, a, 6, rfl, hs, by omega, by decide, by decide, fun H1 v1 hv1 f1 s1 => ?_⟩
  refine ⟨_, rfl, _, _, rfl, rfl, _, rfl, ?_⟩
  refine ite2 (fun c => ?_) (fun c => ?_)
  · exact q H1 _ _ (.inl rfl) f1 s1 (by omega)
  refine ⟨_, rfl, _, _, rfl, rfl, _, rfl, ?_⟩
  refine ite2 (fun c => ?_) (fun c => ?_)
  · refine ⟨_, rfl, st, la, ca, a + 1, 5, rfl, s1, by omega, by decide, by decide, fun H2 v2 hv2 f2 s2 => ?_⟩
    have hl : ("abcx0" : Str).cps.toList.length = 5 := by decide +kernel
    have hx : ("abcx0" : Str).cps.toList[v2]? = some ("abcx0" : Str).cps.toList[v2] := List.getElem?_eq_getElem (by rw [hl]; exact hv2)
    refine ⟨_, _, _, rfl, rfl, (by decide +kernel), atI_nat hx, ?_⟩
    exact q H2 _ _ (.inr ⟨_, rfl, abc_ok _ (List.getElem_mem _)⟩) (f1.trans f2) s2 (by omega)
  · refine ⟨_, rfl, st, la, ca, a + 1, 36, rfl, s1, by omega, by decide, by decide, fun H2 v2 hv2 f2 s2 => ?_⟩
    have hl : ("abcdefghijklmnopqrstuvwxyz0123456789" : Str).cps.toList.length = 36 := by decide +kernel
    have hx : ("abcdefghijklmnopqrstuvwxyz0123456789" : Str).cps.toList[v2]? = some ("abcdefghijklmnopqrstuvwxyz0123456789" : Str).cps.toList[v2] := List.getElem?_eq_getElem (by rw [hl]; exact hv2)
    refine ⟨_, _, _, rfl, rfl, (by decide +kernel), atI_nat hx, ?_⟩
    exact q H2 _ _ (.inr ⟨_, rfl, all_ok _ (List.getElem_mem _)⟩) (f1.trans f2) s2 (by omega)
end
end W31

set_option maxHeartbeats 4000000
/-! _law_clashing, _law_more. -/
namespace W31
open PySem PySem.Spec PyProof.Rows L2
theorem wsok_snoc {ws : List Opt} {o : Opt} (h : ∀ w ∈ ws, OptOk w) (ho : OptOk o) : ∀ w ∈ ws ++ [o], OptOk w := fun w hw => by
  rcases List.mem_append.mp hw with hw | hw
  · exact h w hw
  · rw [List.mem_singleton.mp hw]; exact ho
theorem Fr2.back {H H' : Hp} {st la ca : Addr} {a : Nat} (f : Fr2 H H' st la) (h : StA H st la ca a) {p : Addr} (hp : H' p = none) (s : StA H' st la ca a') : H p = none := by
  cases e : H p with
  | none => rfl
  | some u =>
    have n := s.new hp
    rw [f p u e n.1 n.2.1] at hp
    cases hp
theorem str_of {xs : List Str} {v : V} (h : v ∈ xs.map V.str) : ∃ x ∈ xs, v = .str x := by
  obtain ⟨x, hx, e⟩ := List.mem_map.mp h
  exact ⟨x, hx, e.symm⟩
def kindL6 : List Str := ["flag", "count", "once", "last", "all", "maybe"]
def spMore : Sp := fun vs H Q _ => ∃ (st la ca l0 : Addr) (a many : Nat), vs = [.ref st, .ref l0, .int (many : Nat)] ∧ StA H st la ca a ∧ H l0 = some (.lst []) ∧ a < 8000 ∧ many ≤ 3 ∧
  ∀ (H' : Hp) (l : Addr) (us : List V) (os : List Opt) (a' : Nat), Fr2 H H' st la → StA H' st la ca a' → a' ≤ a + 60 → H l = none → H' l = some (.lst us) → Paired (OptA H') us os → (∀ o ∈ os, OptOk o) → okOpts os = true → os.length ≤ many → Q (.ref l) H'
theorem okOpts_snoc {os : List Opt} {o : Opt} (h : okOpts os = true) (n : (os.any fun p => decide (p.1 = o.1)) = false) (l : o.2.1 ≠ "" → (os.any fun p => decide (p.2.1 = o.2.1)) = false) : okOpts (os ++ [o]) = true := by
  rw [clash_of os o h]
  unfold clash
  rw [Bool.not_eq_true', ← Bool.not_eq_true, List.any_eq_true]
  rintro ⟨p, hp, e⟩
  rw [Bool.or_eq_true, Bool.and_eq_true] at e
  rcases e with e | ⟨e1, e2⟩
  · have : (os.any fun p => decide (p.1 = o.1)) = true := List.any_eq_true.mpr ⟨p, hp, e⟩
    rw [n] at this
    cases this
  · have ne : o.2.1 ≠ "" := fun z => by rw [decide_eq_true z] at e2; cases e2
    have : (os.any fun p => decide (p.2.1 = o.2.1)) = true := List.any_eq_true.mpr ⟨p, hp, e1⟩
    rw [l ne] at this
    cases this
theorem filter_none {α : Type} {p : α → Bool} {l : List α} : (l.filter p).isEmpty = !l.any p := by
  rw [Bool.eq_iff_iff, List.isEmpty_iff, List.filter_eq_nil_iff, Bool.not_eq_true', ← Bool.not_eq_true, List.any_eq_true]
  exact ⟨fun h ⟨a, h1, h2⟩ => h a h1 h2, fun h a h1 h2 => h ⟨a, h1, h2⟩⟩
section
variable {P : Program} {w : World} {K : PySem.W.Frag} {mg : Str → Option Value} {base : Heap} {C aK aA : Addr}
abbrev s_law_clashing : Stmt := top 58
abbrev N_law_clashing : List Str := ["state", "many", "found", "k", "name", "letter"]
theorem sc_law_clashing : FnScope N_law_clashing ["state", "many"] (defScope s_law_clashing) := ⟨rfl, rfl, rfl, by decide +kernel, rfl, by decide +kernel, by decide +kernel⟩
theorem ok_law_clashing {f : Addr} {fd : FuncData} (F : Fun K "_law_clashing" "_law_clashing" s_law_clashing f fd) (b : Binds K fd ["state", "many"] []) (m : mg "_law_clashing" = some (.ref f)) (T : Txt K mg C aK aA)
    (Dlaw_of : DefAt P w K mg base "_law_of" 3 ["state", "some"] spOf) :
    DefAt P w K mg base "_law_clashing" 4 ["state", "many"] spClash := by
  refine ⟨f, fd, F.ok sc_law_clashing (fun vs H Q E h => ?_) (fun cdv A outer s H vs Q E hr h => ?_), b, F.kp, m⟩
  · obtain ⟨st, la, ca, a, many, rfl, _⟩ := h
    rfl
  obtain ⟨st, la, ca, a, many, rfl, hs, ha, few, q⟩ := h
  have nd := sc_law_clashing.nd
  refine ⟨_, (pss_cons (ps_set (i := 2) nd rfl (Or.inl rfl) (pe_lst pa_nil))
    (pss_cons (ps_for PassesOwn.never rfl (pi_range1 (by rfl) T.n_range (pa_cons (pv 1) pa_nil)) (pg_name (i := 3) nd rfl (Or.inl rfl))
    (pss_cons (ps_set (i := 4) nd rfl (Or.inl rfl) (pe_callD Dlaw_of (hr.mono (by decide)) rfl (pa_cons (pv 0) (pa_cons (pe_lst (pa_cons pe_str (pa_cons pe_str (pa_cons pe_str (pa_cons pe_str (pa_cons pe_str (pa_cons pe_str (pa_cons pe_str pa_nil)))))))) pa_nil))))
    (pss_cons (ps_set (i := 5) nd rfl (Or.inl rfl) (pe_callD Dlaw_of (hr.mono (by decide)) rfl (pa_cons (pv 0) (pa_cons (pe_lst (pa_cons pe_str (pa_cons pe_str (pa_cons pe_str (pa_cons pe_str (pa_cons pe_str (pa_cons pe_str (pa_cons pe_str (pa_cons pe_str pa_nil))))))))) pa_nil))))
    (pss_one (ps_expr (pe_bm PySem.F.plainAttrs_list PySem.F.slot_list_append PySem.F.type_list_append mt_append (pv 2) (pa_cons (pe_tup (pa_cons (pv 4) (pa_cons (pv 5) (pa_cons (pe_callD Dlaw_of (hr.mono (by decide)) rfl (pa_cons (pv 0) (pa_cons (pe_lst (pa_cons pe_str (pa_cons pe_str (pa_cons pe_str pa_nil)))) pa_nil))) pa_nil)))) pa_nil)))))))
    (pss_one (ps_ret (pe_callTy (call_tupK K rfl) (by rfl) T.n_tuple W31.boot_tuple (pa_cons (pv 2) pa_nil)))))), ?_⟩
  refine ⟨Nat.zero_le _, fun lf hlf => ?_⟩
  have nf := hs.new hlf
  refine ⟨_, rfl, _, rfl, by omega, by omega, ?_⟩
  refine for_it walk_range (fun i σ H' => ∃ (us : List V) (ws : List Opt) (ai : Nat) (o3 o4 o5 : Option V), σ = [some (.ref st), some (.int (many : Nat)), some (.ref lf), o3, o4, o5] ∧ Fr2 H H' st la ∧ StA H' st la ca ai ∧ ai ≤ a + 3 * i ∧ H' lf = some (.lst us) ∧ Paired (OptA H') us ws ∧ (∀ w ∈ ws, OptOk w) ∧ ws.length = i)
    ⟨[], [], a, none, none, none, rfl, Same.fr2 (same_new hlf _) _ _, hs.same (same_new hlf _), by omega, upd_same, .nil, (fun w hw => by cases hw), rfl⟩ (fun i σ H' _ _ => trivial) ?_ ?_
  · rintro i x σ H4 H1 hi ⟨us, ws, ai, o3, o4, o5, rfl, f1, s1, l1, h1, pr, ok, n1⟩ ⟨rfl, rfl⟩
    have hi : i < many := by omega
    refine ⟨_, rfl, by show 7 ≤ sizeLine; decide, fun p1 hp1 => ?_⟩
    have e1 := same_new hp1 (.lst (wishL.map V.str))
    refine ⟨st, la, ca, p1, ai, _, rfl, s1.same e1, by omega, upd_same, (s1.new hp1).2.1, by decide, by decide, fun H2 v2 hv2 f2 s2 => ?_⟩
    obtain ⟨x1, hx1, rfl⟩ := str_of (xs := wishL) hv2
    have g2 : Fr2 H1 H2 st la := (Same.fr2 e1 st la).trans f2
    have h2 := g2 _ _ h1 nf.1 nf.2.1
    refine ⟨_, rfl, by show 8 ≤ sizeLine; decide, fun p2 hp2 => ?_⟩
    have e2 := same_new hp2 (.lst (lettL.map V.str))
    refine ⟨st, la, ca, p2, ai + 1, _, rfl, s2.same e2, by omega, upd_same, (s2.new hp2).2.1, by decide, by decide, fun H3 v3 hv3 f3 s3 => ?_⟩
    obtain ⟨x2, hx2, rfl⟩ := str_of (xs := lettL) hv3
    have g3 : Fr2 H1 H3 st la := g2.trans ((Same.fr2 e2 st la).trans f3)
    have h3 := g3 _ _ h1 nf.1 nf.2.1
    refine ⟨_, rfl, .inl ⟨rfl, _, SqL.of h3⟩, _, rfl, _, rfl, _, rfl, by show 3 ≤ sizeLine; decide, fun p3 hp3 => ?_⟩
    have e3 := same_new hp3 (.lst (kindL3.map V.str))
    refine ⟨st, la, ca, p3, ai + 2, _, rfl, s3.same e3, by omega, upd_same, (s3.new hp3).2.1, by decide, by decide, fun H5 v5 hv5 f5 s5 => ?_⟩
    obtain ⟨x3, hx3, rfl⟩ := str_of (xs := kindL3) hv5
    have g5 : Fr2 H1 H5 st la := g3.trans ((Same.fr2 e3 st la).trans f5)
    have h5 := g5 _ _ h1 nf.1 nf.2.1
    refine ⟨by show 3 ≤ sizeLine; decide, fun Tp hT => ?_⟩
    have eT := same_new hT (.tup [.str x1, .str x2, .str x3])
    have ul := Paired.len pr
    have h6 := eT _ _ h5
    refine ⟨lf, _, _, rfl, rfl, h6, small1000 (by omega), ?_⟩
    have k6 : KT H1 (upd H5 Tp (.tup [.str x1, .str x2, .str x3])) := (g5.trans (Same.fr2 eT st la)).ktS s1
    have k7 := k6.trans (kt_lst (o := .lst (us ++ [.ref Tp])) h6)
    refine ⟨us ++ [.ref Tp], ws ++ [(x1, x2, x3)], ai + 3, _, _, _, rfl, fun c u hc n1 n2 => ?_, (s5.same eT).own _ h6 nf.2.1 nf.2.2, by omega, upd_same, ?_, wsok_snoc ok ⟨wishL_ok hx1, lettL_ok hx2, kindL3_ok hx3⟩, by rw [List.length_append, n1]; rfl⟩
    · rw [upd_ne fun z => by rw [z, hlf] at hc; cases hc]
      exact eT _ _ (g5 _ _ (f1 _ _ hc n1 n2) n1 n2)
    · refine Paired.app (Paired.mono OptA.mn k7 pr) (.cons ⟨Tp, rfl, ?_⟩ .nil)
      rw [upd_ne (ne_of_none h5 hT).symm, upd_same]
  · rintro σ H1 ⟨us, ws, ai, o3, o4, o5, rfl, f1, s1, l1, h1, pr, ok, n1⟩
    have n1 : ws.length = many := by omega
    refine ⟨_, rfl, lf, us, rfl, .inl ⟨SqL.of h1, fun r hr => ?_⟩⟩
    have er := same_new hr (.tup us)
    exact q _ _ ws ai (f1.trans (Same.fr2 er st la)) (s1.same er) (by omega) ⟨r, us, rfl, upd_same, Paired.mono OptA.mn (Same.kt er) pr⟩ ⟨ok, by omega⟩ n1

abbrev s_law_more : Stmt := top 52
abbrev N_law_more : List Str := ["state", "options", "many", "found", "k", "name", "letter", "is_taken", "kind", "one"]
theorem sc_law_more : FnScope N_law_more ["state", "options", "many"] (defScope s_law_more) := ⟨rfl, rfl, rfl, by decide +kernel, rfl, by decide +kernel, by decide +kernel⟩
theorem ok_law_more {f : Addr} {fd : FuncData} (F : Fun K "_law_more" "_law_more" s_law_more f fd) (b : Binds K fd ["state", "options", "many"] []) (m : mg "_law_more" = some (.ref f)) (T : Txt K mg C aK aA)
    (Dlaw_draw : DefAt P w K mg base "_law_draw" 2 ["state", "many"] spDraw)
    (Dlaw_letter : DefAt P w K mg base "_law_letter" 3 ["state"] spLetter)
    (Dlaw_option_name : DefAt P w K mg base "_law_option_name" 3 ["state"] spName) :
    DefAt P w K mg base "_law_more" 5 ["state", "options", "many"] spMore := by
  refine ⟨f, fd, F.ok sc_law_more (fun vs H Q E h => ?_) (fun cdv A outer s H vs Q E hr h => ?_), b, F.kp, m⟩
  · obtain ⟨st, la, ca, l0, a, many, rfl, _⟩ := h
    rfl
  obtain ⟨st, la, ca, l0, a, many, rfl, hs, hl0, ha, few, q⟩ := h
  have nd := sc_law_more.nd
  refine ⟨_, (pss_cons (ps_set (i := 3) nd rfl (Or.inl rfl) (pe_callTy (call_listK K rfl) (by rfl) T.n_list W31.boot_list (pa_cons (pv 1) pa_nil)))
    (pss_cons (ps_for PassesOwn.never rfl (pi_range1 (by rfl) T.n_range (pa_cons (pv 2) pa_nil)) (pg_name (i := 4) nd rfl (Or.inl rfl))
    (pss_cons (ps_asg (pe_tup (pa_cons (pe_callD Dlaw_option_name (hr.mono (by decide)) rfl (pa_cons (pv 0) pa_nil)) (pa_cons (pe_callD Dlaw_letter (hr.mono (by decide)) rfl (pa_cons (pv 0) pa_nil)) pa_nil))) (pg_tupK (n := 2) K rfl rfl (pgs_cons (pg_name (i := 5) nd rfl (Or.inr rfl)) (pgs_cons (pg_name (i := 6) nd rfl (Or.inr rfl)) pgs_nil))))
    (pss_cons (ps_set (i := 7) nd rfl (Or.inl rfl) (pe_cmpR (op_neDK K rfl hr.units) (pe_lc (own := [("one", 9)]) (g := gName 9) rfl nd (pi_listK K rfl (pv 3)) (blkOk_by (N := N_law_more) (sc := defScope s_law_more) (by decide +kernel)) (fun _ _ _ _ _ => (pg_name (i := 9) nd rfl (Or.inl rfl))) (fun _ _ _ _ _ => (pts_one (pt_cmpR op_eq (pe_ix (ix_tupK K rfl) (pv 9) pe_int (fun _ _ => rfl)) (pv 6) (nomark _)))) (fun _ _ _ _ _ => (pv 9))) (pe_lst pa_nil) (nomark _)))
    (pss_cons (ps_set (i := 6) nd rfl (Or.inr rfl) (pe_ifExp (pt_val (pv 7)) pe_str (pv 6)))
    (pss_cons (ps_set (i := 8) nd rfl (Or.inl rfl) (pe_ix (ix_listK K rfl) (pe_lst (pa_cons pe_str (pa_cons pe_str (pa_cons pe_str (pa_cons pe_str (pa_cons pe_str (pa_cons pe_str pa_nil))))))) (pe_callD Dlaw_draw (hr.mono (by decide)) rfl (pa_cons (pv 0) (pa_cons pe_int pa_nil))) (fun _ _ => rfl)))
    (pss_one (ps_if (pt_cmpR (op_eqDK K rfl hr.units) (pe_lc (own := [("one", 9)]) (g := gName 9) rfl nd (pi_listK K rfl (pv 3)) (blkOk_by (N := N_law_more) (sc := defScope s_law_more) (by decide +kernel)) (fun _ _ _ _ _ => (pg_name (i := 9) nd rfl (Or.inl rfl))) (fun _ _ _ _ _ => (pts_one (pt_cmpR op_eq (pe_ix (ix_tupK K rfl) (pv 9) pe_int (fun _ _ => rfl)) (pv 5) (nomark _)))) (fun _ _ _ _ _ => (pv 9))) (pe_lst pa_nil) (nomark _))
    (pss_one (ps_expr (pe_bm PySem.F.plainAttrs_list PySem.F.slot_list_append PySem.F.type_list_append mt_append (pv 3) (pa_cons (pe_tup (pa_cons (pv 5) (pa_cons (pv 6) (pa_cons (pv 8) pa_nil)))) pa_nil))))
    pss_nil)))))))
    (pss_one (ps_ret (pv 3))))), ?_⟩
  refine ⟨_, rfl, l0, _, rfl, .inl (SqL.of hl0), fun lf hlf => ?_⟩
  have nf := hs.new hlf
  refine ⟨_, rfl, _, rfl, by omega, by omega, ?_⟩
  refine for_it walk_range (fun i σ H' => ∃ (us : List V) (os : List Opt) (ai : Nat) (o4 o5 o6 o7 o8 o9 : Option V), σ = [some (.ref st), some (.ref l0), some (.int (many : Nat)), some (.ref lf), o4, o5, o6, o7, o8, o9] ∧ Fr2 H H' st la ∧ StA H' st la ca ai ∧ ai ≤ a + 20 * i ∧ H' lf = some (.lst us) ∧ Paired (OptA H') us os ∧ (∀ w ∈ os, OptOk w) ∧ okOpts os = true ∧ os.length ≤ i)
    ⟨[], [], a, none, none, none, none, none, none, rfl, Same.fr2 (same_new hlf _) _ _, hs.same (same_new hlf _), by omega, upd_same, .nil, (fun w hw => by cases hw), rfl, Nat.zero_le _⟩ (fun i σ H' _ _ => trivial) ?_ ?_
  · rintro i x σ H4 H1 hi ⟨us, os, ai, o4, o5, o6, o7, o8, o9, rfl, f1, s1, l1, h1, pr, ok, good, n1⟩ ⟨rfl, rfl⟩
    have hi : i < many := by omega
    refine ⟨_, rfl, st, la, ca, ai, rfl, s1, by omega, fun H2 x1 a2 hx1 f2 s2 l2 => ?_⟩
    refine ⟨_, rfl, st, la, ca, a2, rfl, s2, by omega, fun H3 x2 a3 hx2 f3 s3 l3 => ?_⟩
    refine ⟨by show 2 ≤ sizeLine; decide, fun Tp hT => ?_⟩
    have eT := same_new hT (.tup [.str x1, .str x2])
    refine ⟨Tp, _, rfl, SqT.of upd_same, rfl, _, _, rfl, _, _, rfl, rfl, ?_⟩
    have g3 : Fr2 H1 (upd H3 Tp (.tup [.str x1, .str x2])) st la := f2.trans (f3.trans (Same.fr2 eT st la))
    have s3' := s3.same eT
    obtain ⟨H5, e5⟩ : ∃ H5, H5 = upd H3 Tp (.tup [.str x1, .str x2]) := ⟨_, rfl⟩
    rw [← e5] at g3 s3' ⊢
    have h5 := g3 _ _ h1 nf.1 nf.2.1
    have pr5 := Paired.mono OptA.mn (g3.ktS s1) pr
    have ul := Paired.len pr
    have few3 : os.length ≤ 3 := by omega
    dsimp only
    refine asg_ev (v := .bl (os.any fun p => decide (p.2.1 = x2))) (fun Q q => ?_) (fun H6 s6 => ?_)
    · refine ⟨_, rfl, lf, rfl, ⟨_, SqL.of h5⟩, ?_⟩
      refine lcL (R := OptA) (ds := os) (f := fun p => if decide (p.2.1 = x2) = true then some p else none) OptA.mn (SqL.of h5) ul (by omega) ?_ ?_
      · intro j v o H' hv ho s' Q1 Q0 k1 k0
        obtain ⟨b, rfl, hb⟩ := Paired.at' pr5 hv ho
        have hb' := s' _ _ hb
        refine ⟨rfl, ?_⟩
        refine ⟨_, rfl, b, _, 1, _, rfl, rfl, SqT.of hb', atI_nat (j := 1) rfl, _, rfl, rfl, _, rfl, ?_⟩
        rw [str_eq]
        refine ite2 (fun c => ?_) (fun c => ?_)
        · exact ⟨_, rfl, k1 _ o _ (if_pos c) ⟨b, rfl, hb'⟩ (Same.refl _)⟩
        · exact k0 (if_neg c) _ (Same.refl _)
      · intro D H7 ys hD s7 hys pr7
        rw [fm_guard] at pr7
        refine ⟨Nat.zero_le _, fun E0 hE => ?_⟩
        have sE := same_new hE (.lst [])
        refine neE_to (SqL.of (sE _ _ hys)) (dp_opts (Paired.mono OptA.mn (Same.kt sE) pr7)) upd_same (lay_opts fun o ho => ok o (List.mem_filter.mp ho).1) (by decide) ?_
        rw [List.isEmpty_map, filter_none, Bool.not_not]
        exact q _ (s7.trans sE)
    refine gName_to ?_
    dsimp only
    refine asg_ev (v := .str (if (os.any fun p => decide (p.2.1 = x2)) = true then "" else x2)) (fun Q q => ?_) (fun H7 s7 => ?_)
    · refine ⟨_, rfl, _, rfl, ?_⟩
      have q0 := q _ (Same.refl _)
      refine ite2 (fun c => ?_) (fun c => ?_)
      · rw [if_pos c] at q0
        exact q0
      · rw [if_neg c] at q0
        exact ⟨_, rfl, q0⟩
    obtain ⟨y2, ey2⟩ : ∃ y2, y2 = (if (os.any fun p => decide (p.2.1 = x2)) = true then ("" : Str) else x2) := ⟨_, rfl⟩
    rw [← ey2]
    have y2ok : LetterOk y2 := by
      rw [ey2]
      split
      · exact .inl rfl
      · exact hx2
    have y2f : y2 ≠ "" → (os.any fun p => decide (p.2.1 = y2)) = false := fun z => by
      rw [ey2] at z ⊢
      by_cases c : (os.any fun p => decide (p.2.1 = x2)) = true
      · rw [if_pos c] at z; exact absurd rfl z
      · rw [if_neg c]; rw [Bool.not_eq_true] at c; exact c
    have g7 : Fr2 H1 H7 st la := g3.trans (Same.fr2 (s6.trans s7) st la)
    have s7' := s3'.same (s6.trans s7)
    refine ⟨by show 6 ≤ sizeLine; decide, fun p6 hp6 => ?_⟩
    have e6 := same_new hp6 (.lst (kindL6.map V.str))
    refine ⟨_, rfl, st, la, ca, a3, 6, rfl, s7'.same e6, by omega, by decide, by decide, fun H8 v8 hv8 f8 s8 => ?_⟩
    have n6 := s7'.new hp6
    have h86 : H8 p6 = some (.lst (kindL6.map V.str)) := f8 _ _ upd_same n6.1 n6.2.1
    have hk : kindL6[v8]? = some kindL6[v8] := List.getElem?_eq_getElem (show v8 < kindL6.length from hv8)
    refine ⟨p6, _, _, .str kindL6[v8], rfl, rfl, SqL.of h86, atI_nat (by rw [List.getElem?_map, hk]; rfl), ?_⟩
    have g8 : Fr2 H1 H8 st la := g7.trans ((Same.fr2 e6 st la).trans f8)
    have h8 := g8 _ _ h1 nf.1 nf.2.1
    have pr8 := Paired.mono OptA.mn (g8.ktS s1) pr
    refine ⟨_, rfl, lf, rfl, ⟨_, SqL.of h8⟩, ?_⟩
    refine lcL (R := OptA) (ds := os) (f := fun p => if decide (p.1 = x1) = true then some p else none) OptA.mn (SqL.of h8) ul (by omega) ?_ ?_
    · intro j v o H' hv ho s' Q1 Q0 k1 k0
      obtain ⟨b, rfl, hb⟩ := Paired.at' pr8 hv ho
      have hb' := s' _ _ hb
      refine ⟨rfl, ?_⟩
      refine ⟨_, rfl, b, _, 0, _, rfl, rfl, SqT.of hb', atI_nat (j := 0) rfl, _, rfl, rfl, _, rfl, ?_⟩
      rw [str_eq]
      refine ite2 (fun c => ?_) (fun c => ?_)
      · exact ⟨_, rfl, k1 _ o _ (if_pos c) ⟨b, rfl, hb'⟩ (Same.refl _)⟩
      · exact k0 (if_neg c) _ (Same.refl _)
    · intro D H9 ys hD s9 hys pr9
      rw [fm_guard] at pr9
      refine ⟨Nat.zero_le _, fun E0 hE => ?_⟩
      have sE := same_new hE (.lst [])
      have sE9 := s9.trans sE
      refine eqE_to (SqL.of (sE _ _ hys)) (dp_opts (Paired.mono OptA.mn (Same.kt sE) pr9)) upd_same (lay_opts fun o ho => ok o (List.mem_filter.mp ho).1) (by decide) ?_
      rw [List.isEmpty_map, filter_none]
      obtain ⟨HE, eE⟩ : ∃ HE, HE = upd H9 E0 (.lst []) := ⟨_, rfl⟩
      rw [← eE] at sE9 ⊢
      have gE : Fr2 H1 HE st la := g8.trans (Same.fr2 sE9 st la)
      have sE' := s8.same sE9
      have hE' := sE9 _ _ h8
      refine ⟨_, rfl, ?_⟩
      refine ite2 (fun c => ?_) (fun c => ?_)
      · refine ⟨_, rfl, .inl ⟨rfl, _, SqL.of hE'⟩, _, rfl, _, rfl, _, rfl, by show 3 ≤ sizeLine; decide, fun T3 hT3 => ?_⟩
        have eT3 := same_new hT3 (.tup [.str x1, .str y2, .str kindL6[v8]])
        have hT' := eT3 _ _ hE'
        refine ⟨lf, _, _, rfl, rfl, hT', small1000 (by omega), ?_⟩
        have k6 : KT H1 (upd HE T3 (.tup [.str x1, .str y2, .str kindL6[v8]])) := (gE.trans (Same.fr2 eT3 st la)).ktS s1
        have k7 := k6.trans (kt_lst (o := .lst (us ++ [.ref T3])) hT')
        refine ⟨us ++ [.ref T3], os ++ [(x1, y2, kindL6[v8])], a3 + 1, _, _, _, _, _, _, rfl, fun c u hc n1 n2 => ?_, (sE'.same eT3).own _ hT' nf.2.1 nf.2.2, by omega, upd_same, ?_, wsok_snoc ok ⟨hx1, y2ok, (List.getElem_mem _ : kindL6[v8] ∈ kindL6)⟩, okOpts_snoc good (by simpa using c) y2f, by rw [List.length_append]; exact Nat.succ_le_succ n1⟩
        · rw [upd_ne fun z => by rw [z, hlf] at hc; cases hc]
          exact eT3 _ _ (gE _ _ (f1 _ _ hc n1 n2) n1 n2)
        · refine Paired.app (Paired.mono OptA.mn k7 pr) (.cons ⟨T3, rfl, ?_⟩ .nil)
          rw [upd_ne (ne_of_none hE' hT3).symm, upd_same]
      · exact ⟨us, os, a3 + 1, _, _, _, _, _, _, rfl, f1.trans gE, sE', by omega, hE', Paired.mono OptA.mn (gE.ktS s1) pr, ok, good, Nat.le_succ_of_le n1⟩
  · rintro σ H1 ⟨us, os, ai, o4, o5, o6, o7, o8, o9, rfl, f1, s1, l1, h1, pr, ok, good, n1⟩
    exact ⟨_, rfl, q _ lf us os ai f1 s1 (by omega) hlf h1 pr ok good (by omega)⟩
end
end W31

set_option maxHeartbeats 4000000
/-! _law_places, _law_grammar. -/
namespace W31
open PySem PySem.Spec PyProof.Rows L2
def plcL : List Str := ["in", "out", "ab", "xx", "yy"]
theorem plcL_ok {x : Str} (h : x ∈ plcL) : NameOk x := nameB_ok (List.all_eq_true.mp (show (plcL.all nameB) = true by decide +kernel) x h)
theorem plcL_new : ∀ i, i < 5 → memS (plcL.getD i "") (plcL.take i) = false := by decide +kernel
theorem okPlcs_snoc (p : Plc) : ∀ (ps : List Plc) (ns : List Str) (hm : Bool), okPlcs ns hm ps → memS p.1 (ns ++ ps.map (·.1)) = false → ((hm = true ∨ ∃ q ∈ ps, q.2 = "many") → p.2 ≠ "many") → okPlcs ns hm (ps ++ [p])
  | [], ns, hm, _, h, g => ⟨by rw [List.map_nil, List.append_nil] at h; exact h, fun z => g (.inl z), trivial⟩
  | q :: r, ns, hm, ⟨h1, h2, h3⟩, h, g => by
    refine ⟨h1, h2, okPlcs_snoc p r _ _ h3 (by rw [List.append_assoc]; exact h) fun z => g ?_⟩
    rcases z with z | ⟨q', hq, e⟩
    · rw [Bool.or_eq_true] at z
      rcases z with z | z
      · exact .inl z
      · exact .inr ⟨q, List.mem_cons_self, of_decide_eq_true z⟩
    · exact .inr ⟨q', List.mem_cons_of_mem _ hq, e⟩
def spPlaces : Sp := fun vs H Q _ => ∃ (st la ca : Addr) (a : Nat), vs = [.ref st] ∧ StA H st la ca a ∧ a < 8000 ∧
  ∀ (H' : Hp) (l : Addr) (us : List V) (ps : List Plc) (a' : Nat), Fr2 H H' st la → StA H' st la ca a' → a' ≤ a + 10 → H l = none → H' l = some (.lst us) → Paired (PlcA H') us ps → (∀ p ∈ ps, PlcOk p) → ps.length ≤ 5 → okPlcs [] false ps → Q (.ref l) H'
def spGrammarL : Sp := fun vs H Q _ => ∃ (st la ca : Addr) (a most : Nat), vs = [.ref st, .int (most : Nat)] ∧ StA H st la ca a ∧ a < 7000 ∧ most ≤ 3 ∧ ∀ (H' : Hp) (v : V) (g : Gr) (a' : Nat), Fr2 H H' st la → StA H' st la ca a' → a' ≤ a + 100 → GrA H' v g → GrGd g → Q v H'
section
variable {P : Program} {w : World} {K : PySem.W.Frag} {mg : Str → Option Value} {base : Heap} {C aK aA : Addr}
abbrev s_law_places : Stmt := top 53
abbrev N_law_places : List Str := ["state", "found", "many", "k", "arity"]
theorem sc_law_places : FnScope N_law_places ["state"] (defScope s_law_places) := ⟨rfl, rfl, rfl, by decide +kernel, rfl, by decide +kernel, by decide +kernel⟩
theorem ok_law_places {f : Addr} {fd : FuncData} (F : Fun K "_law_places" "_law_places" s_law_places f fd) (b : Binds K fd ["state"] []) (m : mg "_law_places" = some (.ref f)) (T : Txt K mg C aK aA)
    (Dlaw_draw : DefAt P w K mg base "_law_draw" 2 ["state", "many"] spDraw) :
    DefAt P w K mg base "_law_places" 4 ["state"] spPlaces := by
  refine ⟨f, fd, F.ok sc_law_places (fun vs H Q E h => ?_) (fun cdv A outer s H vs Q E hr h => ?_), b, F.kp, m⟩
  · obtain ⟨st, la, ca, a, rfl, _⟩ := h
    rfl
  obtain ⟨st, la, ca, a, rfl, hs, ha, q⟩ := h
  have nd := sc_law_places.nd
  refine ⟨_, (pss_cons (ps_par (i := 1) (j := 2) rfl nd rfl rfl (by decide) rfl rfl (pa_cons (pe_lst pa_nil) (pa_cons (pe_callD Dlaw_draw (hr.mono (by decide)) rfl (pa_cons (pv 0) (pa_cons pe_int pa_nil))) pa_nil)) (by rfl))
    (pss_cons (ps_for PassesOwn.never rfl (pi_range1 (by rfl) T.n_range (pa_cons (pe_callD Dlaw_draw (hr.mono (by decide)) rfl (pa_cons (pv 0) (pa_cons pe_int pa_nil))) pa_nil)) (pg_name (i := 3) nd rfl (Or.inl rfl))
    (pss_cons (ps_set (i := 4) nd rfl (Or.inl rfl) (pe_ifExp (pt_cmpR op_eq (pv 3) (pv 2) (nomark _)) pe_str (pe_ix (ix_listK K rfl) (pe_lst (pa_cons pe_str (pa_cons pe_str pa_nil))) (pe_callD Dlaw_draw (hr.mono (by decide)) rfl (pa_cons (pv 0) (pa_cons pe_int pa_nil))) (fun _ _ => rfl))))
    (pss_one (ps_expr (pe_bm PySem.F.plainAttrs_list PySem.F.slot_list_append PySem.F.type_list_append mt_append (pv 1) (pa_cons (pe_tup (pa_cons (pe_ix (ix_listK K rfl) (pe_lst (pa_cons pe_str (pa_cons pe_str (pa_cons pe_str (pa_cons pe_str (pa_cons pe_str pa_nil)))))) (pv 3) (fun _ _ => rfl)) (pa_cons (pv 4) pa_nil))) pa_nil))))))
    (pss_one (ps_ret (pv 1))))), ?_⟩
  refine ⟨Nat.zero_le _, fun lf hlf => ?_⟩
  have nf := hs.new hlf
  have ef := same_new hlf (.lst [])
  refine ⟨_, rfl, st, la, ca, a, 12, rfl, hs.same ef, by omega, by decide, by decide, fun H1 mv hmv f1 s1 => ⟨_, _, rfl, ?_⟩⟩
  have g1 : Fr2 H H1 st la := (Same.fr2 ef st la).trans f1
  have h1 : H1 lf = some (.lst []) := f1 _ _ upd_same nf.1 nf.2.1
  refine ⟨_, rfl, st, la, ca, a + 1, 6, rfl, s1, by omega, by decide, by decide, fun H2 kv hkv f2 s2 => ⟨_, rfl, by omega, by omega, ?_⟩⟩
  have g2 := g1.trans f2
  have h2 : H2 lf = some (.lst []) := f2 _ _ h1 nf.1 nf.2.1
  refine for_it walk_range (fun i σ H' => ∃ (us : List V) (ps : List Plc) (ai : Nat) (o3 o4 : Option V), σ = [some (.ref st), some (.ref lf), some (.int (mv : Nat)), o3, o4] ∧ Fr2 H H' st la ∧ StA H' st la ca ai ∧ ai ≤ a + 2 + i ∧ H' lf = some (.lst us) ∧ Paired (PlcA H') us ps ∧ (∀ p ∈ ps, PlcOk p) ∧ ps.length = i ∧ ps.map (·.1) = plcL.take i ∧ okPlcs [] false ps ∧ ∀ p ∈ ps, p.2 = "many" → mv < i)
    ⟨[], [], a + 2, none, none, rfl, g2, s2, by omega, h2, .nil, (fun w hw => by cases hw), rfl, rfl, trivial, (fun w hw => by cases hw)⟩ (fun i σ H' _ _ => trivial) ?_ ?_
  · rintro i x σ H4 H3 hi ⟨us, ps, ai, o3, o4, rfl, f3, s3, l3, h3, pr, ok, n3, nm, good, mn⟩ ⟨rfl, rfl⟩
    have hi : i < 5 := by omega
    have z0 : (0 : Int) + (i : Nat) = ((i : Nat) : Int) := by omega
    dsimp only
    rw [z0]
    have ul := Paired.len pr
    have hx : plcL[i]? = some plcL[i] := List.getElem?_eq_getElem (show i < plcL.length from hi)
    have put : ∀ (H5 : Hp) (ar : Str) (a5 : Nat), ar ∈ aritiesL → (ar = "many" → i = mv) → Fr2 H3 H5 st la → StA H5 st la ca a5 → a5 ≤ ai + 1 → tDrop (tBM K "list" rAppend (tVar 1) (tCons (tTup (tCons (tOp (rIxL K) (tLst (tCons (tC (.str "in")) (tCons (tC (.str "out")) (tCons (tC (.str "ab")) (tCons (tC (.str "xx")) (tCons (tC (.str "yy")) tNil)))))) (tVar 3)) (tCons (tVar 4) tNil))) tNil))
        { nx := fun σ H' => ∃ (us : List V) (ps : List Plc) (ai : Nat) (o3 o4 : Option V), σ = [some (.ref st), some (.ref lf), some (.int (mv : Nat)), o3, o4] ∧ Fr2 H H' st la ∧ StA H' st la ca ai ∧ ai ≤ a + 2 + (i + 1) ∧ H' lf = some (.lst us) ∧ Paired (PlcA H') us ps ∧ (∀ p ∈ ps, PlcOk p) ∧ ps.length = i + 1 ∧ ps.map (·.1) = plcL.take (i + 1) ∧ okPlcs [] false ps ∧ ∀ p ∈ ps, p.2 = "many" → mv < i + 1, rt := Q }
        [some (.ref st), some (.ref lf), some (.int (mv : Nat)), some (.int (i : Nat)), some (.str ar)] H5 := fun H5 ar a5 har hmany f5 s5 l5 => by
      have h5 := f5 _ _ h3 nf.1 nf.2.1
      refine ⟨_, rfl, .inl ⟨rfl, _, SqL.of h5⟩, by show 5 ≤ sizeLine; decide, fun p1 hp1 => ?_⟩
      have e1 := same_new hp1 (.lst (plcL.map V.str))
      refine ⟨_, rfl, p1, _, _, .str plcL[i], rfl, rfl, SqL.of upd_same, atI_nat (j := i) (by rw [show ([V.str "in", V.str "out", V.str "ab", V.str "xx", V.str "yy"] : List V) = plcL.map V.str from rfl, List.getElem?_map, hx]; rfl), _, rfl, by show 2 ≤ sizeLine; decide, fun Tp hT => ?_⟩
      have eT := same_new hT (.tup [.str plcL[i], .str ar])
      have h6 := eT _ _ (e1 _ _ h5)
      refine ⟨lf, _, _, rfl, rfl, h6, small1000 (by omega), ?_⟩
      have g6 : Fr2 H3 _ st la := f5.trans ((Same.fr2 e1 st la).trans (Same.fr2 eT st la))
      have k7 := (g6.ktS s3).trans (kt_lst (o := .lst (us ++ [.ref Tp])) h6)
      have tk1 : plcL.take (i + 1) = plcL.take i ++ [plcL[i]] := by rw [List.take_add_one, hx]; rfl
      have gd : plcL.getD i "" = plcL[i] := by unfold List.getD; rw [hx]; rfl
      refine ⟨us ++ [.ref Tp], ps ++ [(plcL[i], ar)], a5, _, _, rfl, fun c u hc n1 n2 => ?_, ((s5.same e1).same eT).own _ h6 nf.2.1 nf.2.2, by omega, upd_same, ?_, fun p hp => ?_, by rw [List.length_append, n3]; rfl, by rw [List.map_append, nm, tk1]; rfl, okPlcs_snoc _ _ _ _ good ?_ ?_, fun p hp e => ?_⟩
      · rw [upd_ne fun z => by rw [z, hlf] at hc; cases hc]
        exact g6 _ _ (f3 _ _ hc n1 n2) n1 n2
      · refine Paired.app (Paired.mono PlcA.mn k7 pr) (.cons ⟨Tp, rfl, ?_⟩ .nil)
        rw [upd_ne (ne_of_none (e1 _ _ h5) hT).symm, upd_same]
      · rcases List.mem_append.mp hp with hp | hp
        · exact ok p hp
        · rw [List.mem_singleton.mp hp]
          exact ⟨plcL_ok (List.getElem_mem _), har⟩
      · rw [List.nil_append, nm, ← gd]
        exact plcL_new i hi
      · rintro (z | ⟨q', hq, e⟩)
        · cases z
        · intro e2
          have := mn q' hq e
          have := hmany e2
          omega
      · rcases List.mem_append.mp hp with hp | hp
        · have := mn p hp e; omega
        · rw [List.mem_singleton.mp hp] at e
          have := hmany e
          omega
    refine ⟨_, rfl, _, rfl, rfl, _, rfl, ?_⟩
    refine ite2 (fun c => ?_) (fun c => ?_)
    · have e : i = mv := Int.ofNat.inj (V.int.inj (of_decide_eq_true c))
      exact put H3 "many" ai (by decide +kernel) (fun _ => e) (Fr2.refl _ _ _) s3 (by omega)
    · refine ⟨by show 2 ≤ sizeLine; decide, fun p2 hp2 => ?_⟩
      have e2 := same_new hp2 (.lst ((["one", "may"] : List Str).map V.str))
      have n2 := s3.new hp2
      refine ⟨_, rfl, st, la, ca, ai, 2, rfl, s3.same e2, by omega, by decide, by decide, fun H5 v5 hv5 f5 s5 => ?_⟩
      have h52 : H5 p2 = some (.lst ((["one", "may"] : List Str).map V.str)) := f5 _ _ upd_same n2.1 n2.2.1
      have hy : (["one", "may"] : List Str)[v5]? = some (["one", "may"] : List Str)[v5] := List.getElem?_eq_getElem (show v5 < 2 from hv5)
      have hin : (["one", "may"] : List Str)[v5] ∈ (["one", "may"] : List Str) := List.getElem_mem _
      refine ⟨p2, _, _, .str (["one", "may"] : List Str)[v5], rfl, rfl, SqL.of h52, atI_nat (by rw [List.getElem?_map, hy]; rfl), ?_⟩
      refine put H5 _ (ai + 1) ?_ (fun z => ?_) ((Same.fr2 e2 st la).trans f5) s5 (by omega)
      · exact List.elem_iff.mp (List.all_eq_true.mp (show ((["one", "may"] : List Str).all fun x => aritiesL.elem x) = true by decide +kernel) _ hin)
      · have := List.all_eq_true.mp (show ((["one", "may"] : List Str).all fun x => !decide (x = "many")) = true by decide +kernel) _ hin
        rw [decide_eq_true z] at this
        cases this
  · rintro σ H3 ⟨us, ps, ai, o3, o4, rfl, f3, s3, l3, h3, pr, ok, n3, nm, good, mn⟩
    exact ⟨_, rfl, q _ lf us ps ai f3 s3 (by omega) hlf h3 pr ok (by omega) good⟩

abbrev s_law_grammar : Stmt := top 54
abbrev N_law_grammar : List Str := ["state", "most", "options", "modes", "k"]
theorem sc_law_grammar : FnScope N_law_grammar ["state", "most"] (defScope s_law_grammar) := ⟨rfl, rfl, rfl, by decide +kernel, rfl, by decide +kernel, by decide +kernel⟩
theorem ok_law_grammar {f : Addr} {fd : FuncData} (F : Fun K "_law_grammar" "_law_grammar" s_law_grammar f fd) (b : Binds K fd ["state", "most"] []) (m : mg "_law_grammar" = some (.ref f)) (T : Txt K mg C aK aA)
    (Dlaw_draw : DefAt P w K mg base "_law_draw" 2 ["state", "many"] spDraw)
    (Dlaw_more : DefAt P w K mg base "_law_more" 5 ["state", "options", "many"] spMore)
    (Dlaw_places : DefAt P w K mg base "_law_places" 4 ["state"] spPlaces) :
    DefAt P w K mg base "_law_grammar" 6 ["state", "most"] spGrammarL := by
  refine ⟨f, fd, F.ok sc_law_grammar (fun vs H Q E h => ?_) (fun cdv A outer s H vs Q E hr h => ?_), b, F.kp, m⟩
  · obtain ⟨st, la, ca, a, most, rfl, _⟩ := h
    rfl
  obtain ⟨st, la, ca, a, most, rfl, hs, ha, few, q⟩ := h
  have nd := sc_law_grammar.nd
  refine ⟨_, (pss_cons (ps_set (i := 2) nd rfl (Or.inl rfl) (pe_callD Dlaw_more (hr.mono (by decide)) rfl (pa_cons (pv 0) (pa_cons (pe_lst pa_nil) (pa_cons (pe_callD Dlaw_draw (hr.mono (by decide)) rfl (pa_cons (pv 0) (pa_cons (pe_op op_add (pv 1) pe_int) pa_nil))) pa_nil)))))
    (pss_cons (ps_set (i := 3) nd rfl (Or.inl rfl) (pe_callTy (call_tupK K rfl) (by rfl) T.n_tuple W31.boot_tuple (pa_cons (pe_lc (own := [("k", 4)]) (g := gName 4) (tt := tYes) rfl nd (pi_range1 (by rfl) T.n_range (pa_cons pe_int pa_nil)) (blkOk_by (N := N_law_grammar) (sc := defScope s_law_grammar) (by decide +kernel)) (fun _ _ _ _ _ => (pg_name (i := 4) nd rfl (Or.inl rfl))) (fun _ _ _ _ _ => pts_nil) (fun _ _ _ _ _ => (pe_cmpR op_eq (pe_callD Dlaw_draw (hr.mono (by decide)) rfl (pa_cons (pv 0) (pa_cons pe_int pa_nil))) pe_int (nomark _)))) pa_nil)))
    (pss_one (ps_ret (pe_tup (pa_cons (pe_callTy (call_tupK K rfl) (by rfl) T.n_tuple W31.boot_tuple (pa_cons (pv 2) pa_nil)) (pa_cons (pe_callTy (call_tupK K rfl) (by rfl) T.n_tuple W31.boot_tuple (pa_cons (pe_callD Dlaw_places (hr.mono (by decide)) rfl (pa_cons (pv 0) pa_nil)) pa_nil)) (pa_cons (pv 3) pa_nil)))))))), ?_⟩
  refine ⟨_, rfl, Nat.zero_le _, fun l0 hl0 => ?_⟩
  have e0 := same_new hl0 (.lst [])
  have n0 := hs.new hl0
  refine ⟨_, rfl, _, rfl, _, _, rfl, rfl, st, la, ca, a, most + 1, rfl, hs.same e0, by omega, by omega, by omega, fun H1 mv hmv f1 s1 => ?_⟩
  have g1 : Fr2 H H1 st la := (Same.fr2 e0 st la).trans f1
  refine ⟨st, la, ca, l0, a + 1, mv, rfl, s1, f1 _ _ upd_same n0.1 n0.2.1, by omega, by omega, fun H2 lo us os a2 f2 s2 l2 hlo ho pr ok good len => ?_⟩
  have g2 := g1.trans f2
  have nlo := s1.new hlo
  refine ⟨_, rfl, by decide, by decide, ?_⟩
  intro D hD
  have nD := s2.new hD
  refine lc_it walk_range (fun i H' => ∃ (bs : List Bool) (ai : Nat), Fr2 H2 H' st la ∧ StA H' st la ca ai ∧ ai ≤ a2 + i ∧ H' D = some (.lst (bs.map V.bl)) ∧ bs.length = i)
    ⟨[], a2, Same.fr2 (same_new hD _) _ _, s2.same (same_new hD _), by omega, upd_same, rfl⟩ (fun i H' _ _ => trivial) ?_ ?_
  · rintro i x H4 H3 hi ⟨bs, ai, f3, s3, l3, h3, n3⟩ ⟨rfl, rfl⟩
    have hi : i < 3 := hi
    refine ⟨rfl, ?_⟩
    refine ⟨_, rfl, st, la, ca, ai, 2, rfl, s3, by omega, by decide, by decide, fun H4 v4 hv4 f4 s4 => ?_⟩
    have h4 := f4 _ _ h3 nD.1 nD.2.1
    refine ⟨rfl, _, h4, small1000 (by rw [List.length_map]; omega), bs ++ [decide (V.int (v4 : Nat) = V.int 0)], ai + 1, fun c u hc n1 n2 => ?_, s4.own _ h4 nD.2.1 nD.2.2, by omega, by rw [upd_same, List.map_append]; rfl, by rw [List.length_append, n3]; rfl⟩
    rw [upd_ne (ne_of_none hc hD)]
    exact f4 _ _ (f3 _ _ hc n1 n2) n1 n2
  · rintro H3 ⟨bs, ai, f3, s3, l3, h3, n3⟩
    have l3 : ai ≤ a2 + 3 := l3
    obtain ⟨b0, b1, b2, rfl⟩ : ∃ b0 b1 b2, bs = [b0, b1, b2] := by
      match bs, n3 with
      | [b0, b1, b2], _ => exact ⟨b0, b1, b2, rfl⟩
    refine ⟨D, _, rfl, .inl ⟨SqL.of h3, fun mo hmo => ?_⟩⟩
    have em := same_new hmo (.tup ([b0, b1, b2].map V.bl))
    have s4 := s3.same em
    have g4 : Fr2 H2 (upd H3 mo (.tup ([b0, b1, b2].map V.bl))) st la := f3.trans (Same.fr2 em st la)
    have ho4 := g4 _ _ ho nlo.1 nlo.2.1
    refine ⟨_, rfl, lo, us, rfl, .inl ⟨SqL.of ho4, fun to hto => ?_⟩⟩
    have eo := same_new hto (.tup us)
    have s5 := s4.same eo
    refine ⟨_, rfl, st, la, ca, ai, rfl, s5, by omega, fun H6 lp vs ps a6 f6 s6 l6 hlp hp prp okp fewp goodp => ?_⟩
    refine ⟨lp, vs, rfl, .inl ⟨SqL.of hp, fun tp htp => ?_⟩⟩
    have ep := same_new htp (.tup vs)
    refine ⟨_, rfl, by show 3 ≤ sizeLine; decide, fun G hG => ?_⟩
    have eG := same_new hG (.tup [.ref to, .ref tp, .ref mo])
    have n5 := s4.new hto
    have nm := s3.new hmo
    have k6 : KT (upd (upd H3 mo (.tup ([b0, b1, b2].map V.bl))) to (.tup us)) H6 := f6.ktS s5
    have kG := ((Same.kt ep).trans (Same.kt eG))
    refine q _ (.ref G) ⟨os, ps, b0, b1, b2⟩ a6 ?_ ((s6.same ep).same eG) (by omega) ⟨G, .ref to, .ref tp, mo, rfl, upd_same, ⟨to, us, rfl, kG _ _ (k6 _ _ upd_same), ?_⟩, ⟨tp, vs, rfl, eG _ _ upd_same, Paired.mono PlcA.mn kG prp⟩, kG _ _ (k6 _ _ (eo _ _ upd_same))⟩ ⟨⟨⟨ok, okp, fewp, goodp⟩, (show os.length ≤ 3 by omega)⟩, good⟩
    · exact g2.trans (g4.trans ((Same.fr2 eo st la).trans (f6.trans ((Same.fr2 ep st la).trans (Same.fr2 eG st la)))))
    · exact Paired.mono OptA.mn ((g4.ktS s2).trans ((Same.kt eo).trans (k6.trans kG))) pr
end
end W31

set_option maxHeartbeats 4000000
/-! _law_option, _law_is_number, _law_shortened. -/
namespace W31
open PySem PySem.Spec PyProof.Rows L2
theorem eqvAll_strs : ∀ xs ys : List Str, PyData.eqvAll (strsD xs) (strsD ys) = decide (xs = ys)
  | [], [] => by simp [strsD, PyData.eqvAll]
  | [], y :: r => by simp [strsD, PyData.eqvAll]
  | x :: r, [] => by simp [strsD, PyData.eqvAll]
  | x :: r, y :: s => by
    have ih := eqvAll_strs r s
    unfold strsD at ih ⊢
    rw [List.map_cons, List.map_cons, PyData.eqvAll, ih, PyData.eqv, Bool.eq_iff_iff, Bool.and_eq_true, beq_iff_eq, decide_eq_true_iff, decide_eq_true_iff]
    exact ⟨fun ⟨a, b⟩ => by rw [a, b], fun h => by cases h; exact ⟨rfl, rfl⟩⟩
theorem eqvAll_ints : ∀ xs ys : List Int, PyData.eqvAll (intsD xs) (intsD ys) = decide (xs = ys)
  | [], [] => by simp [intsD, PyData.eqvAll]
  | [], y :: r => by simp [intsD, PyData.eqvAll]
  | x :: r, [] => by simp [intsD, PyData.eqvAll]
  | x :: r, y :: s => by
    have ih := eqvAll_ints r s
    unfold intsD at ih ⊢
    rw [List.map_cons, List.map_cons, PyData.eqvAll, ih, PyData.eqv, Bool.eq_iff_iff, Bool.and_eq_true, beq_iff_eq, decide_eq_true_iff, decide_eq_true_iff]
    exact ⟨fun ⟨a, b⟩ => by rw [a, b], fun h => by cases h; exact ⟨rfl, rfl⟩⟩
theorem eqS_to {K : PySem.W.Frag} {H : Hp} {a b : Addr} {xs ys : List Str} {Q : VK} (ha : SqL K H a (xs.map V.str)) (hb : SqL K H b (ys.map V.str)) (h1 : ∀ x ∈ xs, Asc x) (h2 : ∀ x ∈ ys, Asc x) (q : Q (.bl (decide (xs = ys))) H) : rEqD K (.ref a) (.ref b) H Q :=
  ⟨.list (strsD xs), .list (strsD ys), .lst ha (dp_strs xs), .lst hb (dp_strs ys), (lay_list (lay_strs h1)).shaped (by decide), (lay_list (lay_strs h2)).shaped (by decide), by rw [PyData.eqv, eqvAll_strs]; exact q⟩
theorem inV_figs {l : Str} (h : LetterOk l) : inV (.str l) (signsV FIGURES) = figL l := by
  unfold inV signsV
  rw [List.any_map]
  rcases h with rfl | ⟨c, rfl, _⟩
  · rw [Bool.eq_iff_iff, List.any_eq_true]
    constructor
    · rintro ⟨d, _, e⟩
      have e : ((⟨#[d]⟩ : Str) == "") = true := e
      exact absurd (beq_iff_eq.mp e) (one_ne d)
    · intro z; rw [figL_empty] at z; cases z
  · rw [figL_one, Bool.eq_iff_iff, List.any_eq_true, decide_eq_true_iff]
    constructor
    · rintro ⟨d, hd, e⟩
      have e : ((⟨#[d]⟩ : Str) == ⟨#[c]⟩) = true := e
      have e2 := congrArg (fun y : Str => y.cps.toList) (beq_iff_eq.mp e)
      have e3 : [d] = [c] := e2
      rw [← (List.cons.inj e3).1]
      exact hd
    · exact fun hc => ⟨c, hc, by show ((⟨#[c]⟩ : Str) == ⟨#[c]⟩) = true; exact beq_self_eq_true _⟩
def heads1 (x : Str) : List Str := (List.range (x.length - 1)).map fun k => tk (k + 1) x
theorem mem_heads1 {x t : Str} : t ∈ heads1 x ↔ ∃ k, 1 ≤ k ∧ k < x.length ∧ t = tk k x := by
  unfold heads1
  rw [List.mem_map]
  constructor
  · rintro ⟨k, hk, rfl⟩
    have := List.mem_range.mp hk
    exact ⟨k + 1, by omega, by omega, rfl⟩
  · rintro ⟨k, h1, h2, rfl⟩
    exact ⟨k - 1, List.mem_range.mpr (by omega), by rw [Nat.sub_add_cancel h1]⟩
def shortF (g : Gr) (os : List Opt) : List Str := os.flatMap fun o => (heads1 o.1).filter fun t => decide ((lawO g.os g.short t).map (·.1) = [o.1])
theorem shortF_len (g : Gr) : ∀ os : List Opt, (∀ o ∈ os, o.1.length ≤ 12) → (shortF g os).length ≤ 12 * os.length
  | [], _ => Nat.le_refl _
  | o :: r, h => by
    unfold shortF
    rw [List.flatMap_cons, List.length_append, List.length_cons]
    have h1 := shortF_len g r fun o ho => h o (List.mem_cons_of_mem _ ho)
    unfold shortF at h1
    have h2 := h o List.mem_cons_self
    have h3 := List.length_filter_le (fun t => decide ((lawO g.os g.short t).map (·.1) = [o.1])) (heads1 o.1)
    have h4 : (heads1 o.1).length = o.1.length - 1 := by unfold heads1; rw [List.length_map, List.length_range]
    omega
theorem lawO_mem {os : List Opt} {short : Bool} {t : Str} : ∀ o ∈ lawO os short t, o ∈ os := fun o ho => by
  unfold lawO at ho
  split at ho
  · exact (List.mem_filter.mp ho).1
  · split at ho
    · exact (List.mem_filter.mp ho).1
    · cases ho
theorem lawO_len (os : List Opt) (short : Bool) (t : Str) : (lawO os short t).length ≤ os.length := by
  unfold lawO
  split
  · exact List.length_filter_le _ _
  · split
    · exact List.length_filter_le _ _
    · exact Nat.zero_le _
def spLawOption : Sp := fun vs H Q _ => ∃ (v : V) (g : Gr) (t : Str), vs = [v, .str t] ∧ GrA H v g ∧ (∀ o ∈ g.os, OptOk o) ∧ g.os.length ≤ 24 ∧ t.length ≤ 1000 ∧
  ∀ (l : Addr) (H' : Hp) (us : List V), Same H H' → H l = none → H' l = some (.lst us) → Paired (OptA H') us (lawO g.os g.short t) → Q (.ref l) H'
def spIsNum : Sp := fun vs H Q _ => ∃ (v : V) (g : Gr), vs = [v, .str "-0"] ∧ GrA H v g ∧ (∀ o ∈ g.os, OptOk o) ∧ g.os.length ≤ 24 ∧ ∀ H', Same H H' → Q (.bl (numG g)) H'
def spShortened : Sp := fun vs H Q _ => ∃ (v : V) (g : Gr), vs = [v] ∧ GrA H v g ∧ GrSm g ∧
  ∀ (l : Addr) (H' : Hp) (bs : List Str), Same H H' → H l = none → (∀ t, t ∈ bs ↔ Shrt g.os g.short t) → bs.length ≤ 36 → H' l = some (.lst (bs.map V.str)) → Q (.ref l) H'
theorem minus0_a : cutS "-0" none (some 1) = "-" := by decide +kernel
theorem minus0_b : cutS "-0" (some 1) none = "0" := by decide +kernel
theorem minus0_c : (48 : Nat) ∈ ("0123456789" : Str).cps.toList := by decide +kernel
section
variable {P : Program} {w : World} {K : PySem.W.Frag} {mg : Str → Option Value} {base : Heap} {C aK aA : Addr}
abbrev s_law_option : Stmt := top 43
abbrev N_law_option : List Str := ["grammar", "told", "whole", "some", "one"]
theorem sc_law_option : FnScope N_law_option ["grammar", "told"] (defScope s_law_option) := ⟨rfl, rfl, rfl, by decide +kernel, rfl, by decide +kernel, by decide +kernel⟩
theorem ok_law_option {f : Addr} {fd : FuncData} (F : Fun K "_law_option" "_law_option" s_law_option f fd) (b : Binds K fd ["grammar", "told"] []) (m : mg "_law_option" = some (.ref f)) (T : Txt K mg C aK aA) :
    DefAt P w K mg base "_law_option" 1 ["grammar", "told"] spLawOption := by
  refine ⟨f, fd, F.ok sc_law_option (fun vs H Q E h => ?_) (fun cdv A outer s H vs Q E hr h => ?_), b, F.kp, m⟩
  · obtain ⟨v, g, t, rfl, _⟩ := h
    rfl
  obtain ⟨v, g, t, rfl, ⟨a, vo, vp, mm, rfl, ha, ⟨oa, vs, rfl, ho, pr⟩, hp, hm⟩, ok, few, tl, q⟩ := h
  have nd := sc_law_option.nd
  have hlen := Paired.len pr
  refine ⟨_, (pss_cons (ps_setLc (i := 2) (own := [("one", 4)]) (g := gName 4) rfl nd rfl rfl (sw_true rfl rfl rfl (by decide +kernel)) (pi_tupK K rfl (pe_ix (ix_tupK K rfl) (pv 0) pe_int (fun _ _ => rfl))) (blkOk_by (N := N_law_option) (sc := defScope s_law_option) (by decide +kernel)) (fun _ _ _ _ _ => (pg_name (i := 4) nd rfl (Or.inl rfl))) (fun _ _ _ _ _ => (pts_one (pt_cmpR op_eq (pe_ix (ix_tupK K rfl) (pv 4) pe_int (fun _ _ => rfl)) (pv 1) (nomark _)))) (fun _ _ _ _ _ => (pv 4)))
    (pss_cons (ps_if (PW.pt (pw_or (pt_cmpR (op_neDK K rfl hr.units) (pv 2) (pe_lst pa_nil) (nomark _)) (pw_or (pt_not (pt_val (pe_ix (ix_tupK K rfl) (pe_ix (ix_tupK K rfl) (pv 0) pe_int (fun _ _ => rfl)) pe_int (fun _ _ => rfl)))) (pw_or1 (pt_cmpR op_eq (pv 1) pe_str (nomark _))))))
    (pss_one (ps_ret (pv 2)))
    pss_nil)
    (pss_cons (ps_setLc (i := 3) (own := [("one", 4)]) (g := gName 4) rfl nd rfl rfl (sw_true rfl rfl rfl (by decide +kernel)) (pi_tupK K rfl (pe_ix (ix_tupK K rfl) (pv 0) pe_int (fun _ _ => rfl))) (blkOk_by (N := N_law_option) (sc := defScope s_law_option) (by decide +kernel)) (fun _ _ _ _ _ => (pg_name (i := 4) nd rfl (Or.inl rfl))) (fun _ _ _ _ _ => (pts_one (pt_cmpR op_eq (pe_slice sl_str (pe_ix (ix_tupK K rfl) (pv 4) pe_int (fun _ _ => rfl)) po_none (po_some (pe_callB call_lenS (by rfl) T.n_len W31.boot_len (pa_cons (pv 1) pa_nil)))) (pv 1) (nomark _)))) (fun _ _ _ _ _ => (pv 4)))
    (pss_one (ps_ret (pe_ifExp (pt_cmpR op_eq (pe_callB (call_lenK K rfl) (by rfl) T.n_len W31.boot_len (pa_cons (pv 3) pa_nil)) pe_int (nomark _)) (pv 3) (pe_lst pa_nil))))))), ?_⟩
  refine ⟨_, rfl, a, _, 0, _, rfl, rfl, SqT.of ha, atI_nat (j := 0) rfl, oa, rfl, ⟨_, SqT.of ho⟩, ?_⟩
  refine lcT (R := OptA) (ds := g.os) (f := fun o => if decide (o.1 = t) = true then some o else none) OptA.mn (SqT.of ho) hlen (by omega) ?_ ?_
  · intro i x o H' hx ho' s' Q1 Q0 k1 k0
    obtain ⟨b, rfl, hb⟩ := Paired.at' pr hx ho'
    have hb' := s' _ _ hb
    refine ⟨rfl, ?_⟩
    refine ⟨_, rfl, b, _, 0, _, rfl, rfl, SqT.of hb', atI_nat (j := 0) rfl, _, rfl, rfl, _, rfl, ?_⟩
    rw [str_eq]
    refine ite2 (fun c => ?_) (fun c => ?_)
    · exact ⟨_, rfl, k1 _ o _ (if_pos c) ⟨b, rfl, hb'⟩ (Same.refl _)⟩
    · exact k0 (if_neg c) _ (Same.refl _)
  intro W H1 ys hW s1 hys pr1
  rw [fm_guard] at pr1
  have ret : ∀ H2, Same H1 H2 → (g.os.filter (fun o => decide (o.1 = t)) ≠ [] ∨ g.short = false ∨ t = "") → tRet (tVar 2) { nx := fun _ H' => Q .non H', rt := Q } [some (.ref a), some (.str t), some (.ref W), none, none] H2 := fun H2 s2 c => by
    refine ⟨_, rfl, q W H2 ys (s1.trans s2) hW (s2 _ _ hys) ?_⟩
    unfold lawO
    rw [if_pos c]
    exact Paired.mono OptA.mn (Same.kt s2) pr1
  refine ⟨_, rfl, Nat.zero_le _, fun e he => ?_⟩
  have se := same_new he (.lst [])
  refine neE_to (SqL.of (se _ _ hys)) (dp_opts (Paired.mono OptA.mn (Same.kt se) pr1)) upd_same (lay_opts fun o ho => ok o (List.mem_filter.mp ho).1) (by decide) ?_
  rw [List.isEmpty_map]
  refine ⟨_, rfl, ?_⟩
  refine ite2 (fun c1 => ?_) (fun c1 => ?_)
  · exact ret _ se (.inl fun z => by rw [z] at c1; cases c1)
  have w0 : g.os.filter (fun o => decide (o.1 = t)) = [] := List.isEmpty_iff.mp (Classical.byContradiction fun z => c1 (by rw [Bool.not_eq_true] at z; rw [z]; rfl))
  have s2 := s1.trans se
  refine ⟨_, rfl, a, _, 2, _, rfl, rfl, SqT.of (s2 _ _ ha), atI_nat (j := 2) rfl, mm, _, 0, _, rfl, rfl, SqT.of (s2 _ _ hm), atI_nat (j := 0) rfl, g.short, rfl, ?_⟩
  refine ite2 (fun c2 => ?_) (fun c2 => ?_)
  · exact ret _ se (.inr (.inl (by simpa using c2)))
  have sh : g.short = true := by simpa using c2
  refine ⟨_, rfl, rfl, _, rfl, ?_⟩
  rw [str_eq]
  refine ite2 (fun c3 => ?_) (fun c3 => ?_)
  · exact ret _ se (.inr (.inr (of_decide_eq_true c3)))
  have tne : ¬ t = "" := fun z => c3 (decide_eq_true z)
  have neg : ¬ (g.os.filter (fun o => decide (o.1 = t)) ≠ [] ∨ g.short = false ∨ t = "") := by
    rintro (z | z | z)
    · exact z w0
    · rw [sh] at z; cases z
    · exact tne z
  refine ⟨_, rfl, a, _, 0, _, rfl, rfl, SqT.of (s2 _ _ ha), atI_nat (j := 0) rfl, oa, rfl, ⟨_, SqT.of (s2 _ _ ho)⟩, ?_⟩
  refine lcT (R := OptA) (ds := g.os) (f := fun o => if pre t o.1 = true then some o else none) OptA.mn (SqT.of (s2 _ _ ho)) hlen (by omega) ?_ ?_
  · intro i x o H' hx ho' s' Q1 Q0 k1 k0
    obtain ⟨b, rfl, hb⟩ := Paired.at' pr hx ho'
    have hb' := s' _ _ (s2 _ _ hb)
    have nl := (ok o (List.mem_of_getElem? ho')).name.hi
    refine ⟨rfl, ?_⟩
    refine ⟨_, rfl, b, _, 0, _, rfl, rfl, SqT.of hb', atI_nat (j := 0) rfl, _, rfl, t, rfl, Nat.le_of_lt (small1000 tl), _, rfl, o.1, rfl, by rw [sizeLine_eq]; omega, _, rfl, rfl, _, rfl, ?_⟩
    rw [pre_cut]
    refine ite2 (fun c => ?_) (fun c => ?_)
    · exact ⟨_, rfl, k1 _ o _ (if_pos c) ⟨b, rfl, hb'⟩ (Same.refl _)⟩
    · exact k0 (if_neg c) _ (Same.refl _)
  · intro D H3 zs hD s3 hzs pr3
    rw [fm_guard] at pr3
    have lz := Paired.len pr3
    have s4 := s2.trans s3
    refine ⟨_, rfl, D, _, rfl, .inl (SqL.of hzs), rfl, _, rfl, ?_⟩
    refine ite2 (fun c4 => ?_) (fun c4 => ?_)
    · have l1 : zs.length = 1 := Int.ofNat.inj (V.int.inj (of_decide_eq_true c4))
      refine ⟨_, rfl, q D H3 zs s4 (s2.free hD) hzs ?_⟩
      unfold lawO
      rw [if_neg neg, if_pos (lz.symm.trans l1)]
      exact pr3
    · refine ⟨Nat.zero_le _, fun E0 hE => ?_⟩
      refine q E0 _ [] (s4.trans (same_new hE _)) (s4.free hE) upd_same ?_
      unfold lawO
      rw [if_neg neg, if_neg fun z => c4 (decide_eq_true (congrArg V.int (congrArg Int.ofNat (lz.trans z))))]
      exact .nil

abbrev s_law_is_number : Stmt := top 46
abbrev N_law_is_number : List Str := ["grammar", "word", "one", "sign"]
theorem sc_law_is_number : FnScope N_law_is_number ["grammar", "word"] (defScope s_law_is_number) := ⟨rfl, rfl, rfl, by decide +kernel, rfl, by decide +kernel, by decide +kernel⟩
theorem ok_law_is_number {f : Addr} {fd : FuncData} (F : Fun K "_law_is_number" "_law_is_number" s_law_is_number f fd) (b : Binds K fd ["grammar", "word"] []) (m : mg "_law_is_number" = some (.ref f)) (T : Txt K mg C aK aA) :
    DefAt P w K mg base "_law_is_number" 1 ["grammar", "word"] spIsNum := by
  refine ⟨f, fd, F.ok sc_law_is_number (fun vs H Q E h => ?_) (fun cdv A outer s H vs Q E hr h => ?_), b, F.kp, m⟩
  · obtain ⟨v, g, rfl, _⟩ := h
    rfl
  obtain ⟨v, g, rfl, ⟨a, vo, vp, mm, rfl, ha, ⟨oa, vs, rfl, ho, pr⟩, hp, hm⟩, ok, few, q⟩ := h
  have nd := sc_law_is_number.nd
  have hlen := Paired.len pr
  refine ⟨_, (pss_cons (ps_if (PW.pt (pw_or (pt_not (pt_val (pe_ix (ix_tupK K rfl) (pe_ix (ix_tupK K rfl) (pv 0) pe_int (fun _ _ => rfl)) pe_int (fun _ _ => rfl)))) (pw_or1 (pt_cmpR (op_neDK K rfl hr.units) (pe_lc (own := [("one", 2)]) (g := gName 2) rfl nd (pi_tupK K rfl (pe_ix (ix_tupK K rfl) (pv 0) pe_int (fun _ _ => rfl))) (blkOk_by (N := N_law_is_number) (sc := defScope s_law_is_number) (by decide +kernel)) (fun _ _ _ _ _ => (pg_name (i := 2) nd rfl (Or.inl rfl))) (fun _ _ _ _ _ => (pts_one (pt_cmpR (op_inK K rfl) (pe_ix (ix_tupK K rfl) (pv 2) pe_int (fun _ _ => rfl)) (pe_callTy (call_listS rfl) (by rfl) T.n_list W31.boot_list (pa_cons pe_str pa_nil)) (by rfl)))) (fun _ _ _ _ _ => (pv 2))) (pe_lst pa_nil) (nomark _)))))
    (pss_one (ps_ret pe_bl))
    pss_nil)
    (pss_one (ps_ret (pe_and (pe_cmpR op_eq (pe_slice sl_str (pv 1) po_none (po_some pe_int)) pe_str (nomark _)) (pe_and (pe_cmpR op_gt (pe_callB call_lenS (by rfl) T.n_len W31.boot_len (pa_cons (pv 1) pa_nil)) pe_int (nomark _)) (pe_one (pe_cmpR (op_eqDK K rfl hr.units) (pe_lc (own := [("sign", 3)]) (g := gName 3) rfl nd (pi_str (pe_slice sl_str (pv 1) (po_some pe_int) po_none)) (blkOk_by (N := N_law_is_number) (sc := defScope s_law_is_number) (by decide +kernel)) (fun _ _ _ _ _ => (pg_name (i := 3) nd rfl (Or.inl rfl))) (fun _ _ _ _ _ => (pts_one (pt_cmpR op_notIn_sign (pv 3) pe_str rfl))) (fun _ _ _ _ _ => (pv 3))) (pe_lst pa_nil) (nomark _)))))))), ?_⟩
  refine ⟨_, rfl, a, _, 2, _, rfl, rfl, SqT.of ha, atI_nat (j := 2) rfl, mm, _, 2, _, rfl, rfl, SqT.of hm, atI_nat (j := 2) rfl, g.minus, rfl, ?_⟩
  refine ite2 (fun c1 => ?_) (fun c1 => ?_)
  · have q0 := q _ (Same.refl _)
    unfold numG at q0
    rw [show g.minus = false by simpa using c1] at q0
    exact q0
  have mi : g.minus = true := by simpa using c1
  refine ⟨_, rfl, a, _, 0, _, rfl, rfl, SqT.of ha, atI_nat (j := 0) rfl, oa, rfl, ⟨_, SqT.of ho⟩, ?_⟩
  refine lcT (R := OptA) (ds := g.os) (f := fun o => if figL o.2.1 = true then some o else none) OptA.mn (SqT.of ho) hlen (by omega) ?_ ?_
  · intro i x o H' hx ho' s' Q1 Q0 k1 k0
    obtain ⟨b, rfl, hb⟩ := Paired.at' pr hx ho'
    have hb' := s' _ _ hb
    refine ⟨rfl, ?_⟩
    refine ⟨_, rfl, b, _, 1, _, rfl, rfl, SqT.of hb', atI_nat (j := 1) rfl, FIGURES, rfl, by rw [sizeLine_eq]; decide +kernel, fun fl hfl => ?_⟩
    have sf := same_new hfl (.lst (signsV FIGURES))
    refine ⟨fl, _, rfl, .inl (SqL.of upd_same), rfl, ?_, _, rfl, ?_⟩
    · unfold signsV
      rw [List.all_map]
      exact List.all_eq_true.mpr fun _ _ => rfl
    · show if inV (V.str o.2.1) (signsV FIGURES) = true then _ else _
      rw [inV_figs (ok o (List.mem_of_getElem? ho')).letter]
      refine ite2 (fun c => ?_) (fun c => ?_)
      · exact ⟨_, rfl, k1 _ o _ (if_pos c) ⟨b, rfl, sf _ _ hb'⟩ sf⟩
      · exact k0 (if_neg c) _ sf
  intro D H1 ys hD s1 hys pr1
  rw [fm_guard] at pr1
  refine ⟨Nat.zero_le _, fun e he => ?_⟩
  have se := same_new he (.lst [])
  have s2 := s1.trans se
  refine neE_to (SqL.of (se _ _ hys)) (dp_opts (Paired.mono OptA.mn (Same.kt se) pr1)) upd_same (lay_opts fun o ho => ok o (List.mem_filter.mp ho).1) (by decide) ?_
  rw [List.isEmpty_map, filter_none, Bool.not_not]
  refine ⟨_, rfl, ?_⟩
  refine ite2 (fun c2 => ?_) (fun c2 => ?_)
  · have q0 := q _ s2
    unfold numG at q0
    rw [mi, c2] at q0
    exact q0
  have nofig : (g.os.any fun o => figL o.2.1) = false := by rw [Bool.not_eq_true] at c2; exact c2
  refine ⟨_, rfl, _, rfl, "-0", rfl, by decide, ?_⟩
  rw [minus0_a]
  refine ⟨rfl, true, rfl, ?_⟩
  refine ⟨_, rfl, "-0", rfl, by decide, _, _, rfl, rfl, true, rfl, ?_⟩
  refine ⟨_, rfl, _, rfl, "-0", rfl, by decide, ?_⟩
  rw [minus0_b]
  refine ⟨"0", rfl, ?_⟩
  refine lcS (R := StrA) (ds := [(48 : Nat)]) (f := fun _ => none) StrA.mn rfl (by decide) ?_ ?_
  · intro i v c H' hv hc s' Q1 Q0 k1 k0
    have hv' : ([V.str ⟨#[48]⟩] : List V)[i]? = some v := hv
    have e48 : v = V.str ⟨#[48]⟩ := by
      cases i with
      | zero => exact (Option.some.inj hv').symm
      | succ n => cases hv'
    subst e48
    refine ⟨rfl, ?_⟩
    refine ⟨_, rfl, 48, "0123456789", rfl, rfl, _, rfl, ?_⟩
    rw [decide_eq_true minus0_c]
    exact k0 rfl _ (Same.refl _)
  · intro D2 H3 zs hD2 s3 hzs pr3
    have ez : zs = [] := by
      have := Paired.len pr3
      exact List.eq_nil_of_length_eq_zero this
    subst ez
    refine ⟨Nat.zero_le _, fun e2 he2 => ?_⟩
    have se2 := same_new he2 (.lst [])
    refine eqE_to (n := 0) (ds := []) (SqL.of (se2 _ _ hzs)) .nil upd_same (fun d hd => by cases hd) (by decide) ?_
    have q0 := q _ (s2.trans (s3.trans se2))
    unfold numG at q0
    rw [mi, nofig] at q0
    exact q0
end
end W31

set_option maxHeartbeats 4000000
/-! _law_shortened, _law_alone, _law_fitting. -/
namespace W31
open PySem PySem.Spec PyProof.Rows L2
def spAlone : Sp := fun vs H Q _ => ∃ (v u : V) (g : Gr) (w : Opt), vs = [v, u] ∧ GrA H v g ∧ GrSm g ∧ OptA H u w ∧ OptOk w ∧ ∀ H', Same H H' → Q (.bl (fit1 g w)) H'
def spLawFitting : Sp := fun vs H Q _ => ∃ (v u : V) (g : Gr) (ws : List Opt), vs = [v, u] ∧ GrA H v g ∧ GrSm g ∧ OptsA H u ws ∧ WsOk ws ∧ ∀ l H', Same H H' → H l = none → H' l = some (.lst (natsV (fitP g ws))) → Q (.ref l) H'
section
variable {P : Program} {w : World} {K : PySem.W.Frag} {mg : Str → Option Value} {base : Heap} {C aK aA : Addr}
abbrev s_law_shortened : Stmt := top 56
abbrev N_law_shortened : List Str := ["grammar", "found", "name", "letter", "kind", "some", "many", "text", "one"]
theorem sc_law_shortened : FnScope N_law_shortened ["grammar"] (defScope s_law_shortened) := ⟨rfl, rfl, rfl, by decide +kernel, rfl, by decide +kernel, by decide +kernel⟩
theorem ok_law_shortened {f : Addr} {fd : FuncData} (F : Fun K "_law_shortened" "_law_shortened" s_law_shortened f fd) (b : Binds K fd ["grammar"] []) (m : mg "_law_shortened" = some (.ref f)) (T : Txt K mg C aK aA)
    (Dlaw_option : DefAt P w K mg base "_law_option" 1 ["grammar", "told"] spLawOption) :
    DefAt P w K mg base "_law_shortened" 2 ["grammar"] spShortened := by
  refine ⟨f, fd, F.ok sc_law_shortened (fun vs H Q E h => ?_) (fun cdv A outer s H vs Q E hr h => ?_), b, F.kp, m⟩
  · obtain ⟨v, g, rfl, _⟩ := h
    rfl
  obtain ⟨v, g, rfl, hg, sm, q⟩ := h
  have hg0 := hg
  obtain ⟨a, vo, vp, mm, rfl, ha, ⟨oa, vs, rfl, ho, pr⟩, hp, hm⟩ := hg
  have nd := sc_law_shortened.nd
  have hlen := Paired.len pr
  have h12 : ∀ o ∈ g.os, o.1.length ≤ 12 := fun o ho => (sm.ok.os o ho).name.hi
  have g3 := sm.few
  refine ⟨_, (pss_cons (ps_set (i := 1) nd rfl (Or.inl rfl) (pe_lst pa_nil))
    (pss_cons (ps_for PassesOwn.never rfl (pi_tupK K rfl (pe_ix (ix_tupK K rfl) (pv 0) pe_int (fun _ _ => rfl))) (pg_tupK (n := 3) K rfl rfl (pgs_cons (pg_name (i := 2) nd rfl (Or.inr rfl)) (pgs_cons (pg_name (i := 3) nd rfl (Or.inl rfl)) (pgs_cons (pg_name (i := 4) nd rfl (Or.inl rfl)) pgs_nil))))
    (pss_cons (ps_setLc (i := 5) (own := [("many", 6)]) (g := gName 6) (tt := tYes) rfl nd rfl rfl (sw_true rfl rfl rfl (by decide +kernel)) (pi_range2 (by rfl) T.n_range (pa_cons pe_int (pa_cons (pe_callB call_lenS (by rfl) T.n_len W31.boot_len (pa_cons (pv 2) pa_nil)) pa_nil))) (blkOk_by (N := N_law_shortened) (sc := defScope s_law_shortened) (by decide +kernel)) (fun _ _ _ _ _ => (pg_name (i := 6) nd rfl (Or.inl rfl))) (fun _ _ _ _ _ => pts_nil) (fun _ _ _ _ _ => (pe_slice sl_str (pv 2) po_none (po_some (pv 6)))))
    (pss_one (ps_set (i := 1) nd rfl (Or.inl rfl) (pe_op op_cat (pv 1) (pe_lc (own := [("text", 7)]) (g := gName 7) rfl nd (pi_listK K rfl (pv 5)) (blkOk_by (N := N_law_shortened) (sc := defScope s_law_shortened) (by decide +kernel)) (fun _ _ _ _ _ => (pg_name (i := 7) nd rfl (Or.inl rfl))) (fun _ _ _ _ _ => (pts_one (pt_cmpR (op_eqDK K rfl hr.units) (pe_lc (own := [("one", 8)]) (g := gName 8) (tt := tYes) rfl nd (pi_listK K rfl (pe_callD Dlaw_option (hr.mono (by decide)) rfl (pa_cons (pv 0) (pa_cons (pv 7) pa_nil)))) (blkOk_by (by show blkC N_law_shortened (relS _ (defScope s_law_shortened)) _ _ = true; decide +kernel)) (fun _ _ _ _ _ => (pg_name (i := 8) nd rfl (Or.inl rfl))) (fun _ _ _ _ _ => pts_nil) (fun _ _ _ _ _ => (pe_ix (ix_tupK K rfl) (pv 8) pe_int (fun _ _ => rfl)))) (pe_lst (pa_cons (pv 2) pa_nil)) (nomark _)))) (fun _ _ _ _ _ => (pv 7))))))))
    (pss_one (ps_ret (pe_lc (own := [("text", 7)]) (g := gName 7) rfl nd (pi_listK K rfl (pv 1)) (blkOk_by (N := N_law_shortened) (sc := defScope s_law_shortened) (by decide +kernel)) (fun _ _ _ _ _ => (pg_name (i := 7) nd rfl (Or.inl rfl))) (fun _ _ _ _ _ => (pts_one (pt_cmpR (op_notInK K rfl) (pv 7) (pe_lc (own := [("one", 8)]) (g := gName 8) (tt := tYes) rfl nd (pi_tupK K rfl (pe_ix (ix_tupK K rfl) (pv 0) pe_int (fun _ _ => rfl))) (blkOk_by (by show blkC N_law_shortened (relS _ (defScope s_law_shortened)) _ _ = true; decide +kernel)) (fun _ _ _ _ _ => (pg_name (i := 8) nd rfl (Or.inl rfl))) (fun _ _ _ _ _ => pts_nil) (fun _ _ _ _ _ => (pe_ix (ix_tupK K rfl) (pv 8) pe_int (fun _ _ => rfl)))) (by rfl)))) (fun _ _ _ _ _ => (pv 7))))))), ?_⟩
  refine ⟨Nat.zero_le _, fun f0 hf0 => ?_⟩
  have s0 := same_new hf0 (.lst [])
  refine ⟨_, rfl, a, _, 0, _, rfl, rfl, SqT.of (s0 _ _ ha), atI_nat (j := 0) rfl, oa, rfl, ⟨_, SqT.of (s0 _ _ ho)⟩, ?_⟩
  refine for_it (walk_tup (xs := vs)) (fun i σ H' => ∃ (fa : Addr) (o2 o3 o4 o5 o6 o7 o8 : Option V), σ = [some (.ref a), some (.ref fa), o2, o3, o4, o5, o6, o7, o8] ∧ Same H H' ∧ H fa = none ∧ H' fa = some (.lst ((shortF g (g.os.take i)).map V.str)))
    ⟨f0, none, none, none, none, none, none, none, rfl, s0, hf0, upd_same⟩ (fun i σ H' hi ⟨_, _, _, _, _, _, _, _, _, s, _⟩ => SqT.of (s _ _ ho)) ?_ ?_
  · rintro i x σ H2 H1 hi ⟨fa, o2, o3, o4, o5, o6, o7, o8, rfl, s1, hfa, h1⟩ ⟨rfl, hx⟩
    obtain ⟨o, ho', ⟨b, rfl, hb⟩⟩ := Paired.snd pr hx
    have oin : o ∈ g.os := List.mem_of_getElem? ho'
    have l12 := h12 o oin
    have tk1 : g.os.take (i + 1) = g.os.take i ++ [o] := by rw [List.take_add_one, ho']; rfl
    refine ⟨b, _, rfl, SqT.of (s1 _ _ hb), rfl, _, _, rfl, _, _, rfl, _, _, rfl, rfl, ?_⟩
    refine ⟨_, rfl, o.1, rfl, by rw [sizeLine_eq]; omega, _, _, rfl, ⟨by omega, by omega, by omega, by omega⟩, ?_⟩
    have cnt : (((o.1.length : Nat) : Int) - 1).toNat = o.1.length - 1 := by omega
    rw [cnt]
    have hd1 : (heads1 o.1).length = o.1.length - 1 := by unfold heads1; rw [List.length_map, List.length_range]
    refine lcR (R := StrA) (ds := heads1 o.1) (f := fun t => some t) StrA.mn hd1.symm (by omega) ?_ ?_
    · intro j y t H' hy ht s' Q1 Q0 k1 k0
      rw [List.getElem?_map] at hy
      obtain ⟨j', hj', rfl⟩ := Option.map_eq_some_iff.mp hy
      have hj : j < o.1.length - 1 := by have := (List.getElem?_eq_some_iff.mp ht).1; omega
      rw [List.getElem?_range hj] at hj'
      cases hj'
      unfold heads1 at ht
      rw [List.getElem?_map, List.getElem?_range hj] at ht
      obtain rfl : tk (j + 1) o.1 = t := Option.some.inj ht
      refine ⟨rfl, ?_⟩
      refine ⟨_, rfl, _, rfl, _, rfl, o.1, rfl, by rw [sizeLine_eq]; omega, ?_⟩
      have cut : cutS o.1 none (some (1 + (j : Nat))) = tk (j + 1) o.1 := by
        rw [show (1 + (j : Nat) : Int) = ((j + 1 : Nat) : Int) by omega, cut_tk]
      rw [cut]
      exact k1 _ _ _ rfl rfl (Same.refl _)
    intro D H3 ys hD s3 hys pr3
    rw [strs_map pr3, filterMap_some (g := fun t : Str => t) _ fun _ _ => rfl, List.map_id'] at hys
    have s13 := s1.trans s3
    refine ⟨_, rfl, _, rfl, D, rfl, ⟨_, SqL.of hys⟩, ?_⟩
    refine lcL (R := StrA) (ds := heads1 o.1) (f := fun t => if decide ((lawO g.os g.short t).map (·.1) = [o.1]) = true then some t else none) StrA.mn (SqL.of hys) (List.length_map _) (by omega) ?_ ?_
    · intro j y t H' hy ht s' Q1 Q0 k1 k0
      rw [List.getElem?_map, ht] at hy
      obtain rfl : V.str t = y := Option.some.inj hy
      have s14 := s13.trans s'
      have tin : t ∈ heads1 o.1 := List.mem_of_getElem? ht
      have tl : t.length ≤ 1000 := by
        obtain ⟨k, h1, h2, rfl⟩ := mem_heads1.mp tin
        rw [tk_len k _ (by omega)]
        omega
      refine ⟨rfl, ?_⟩
      refine ⟨_, rfl, _, rfl, _, g, t, rfl, GrA.mn.mono _ _ _ _ (Same.kt s14) hg0, sm.ok.os, by omega, tl, fun la H5 us s5 hla hus pru => ?_⟩
      refine ⟨la, rfl, ⟨_, SqL.of hus⟩, ?_⟩
      have lm := lawO_len g.os g.short t
      refine lcL (R := StrA) (ds := lawO g.os g.short t) (f := fun o => some o.1) StrA.mn (SqL.of hus) (Paired.len pru) (by omega) ?_ ?_
      · intro k z o2 H6 hz ho2 s6 Q1' Q0' k1' k0'
        obtain ⟨b2, rfl, hb2⟩ := Paired.at' pru hz ho2
        refine ⟨rfl, ?_⟩
        exact ⟨_, rfl, b2, _, 0, _, rfl, rfl, SqT.of (s6 _ _ hb2), atI_nat (j := 0) rfl, k1' _ _ _ rfl rfl (Same.refl _)⟩
      · intro D2 H6 zs hD2 s6 hzs pr6
        rw [strs_map pr6, filterMap_some (g := fun o : Opt => o.1) _ fun _ _ => rfl] at hzs
        refine ⟨_, rfl, by show 1 ≤ sizeLine; decide, fun E0 hE => ?_⟩
        have sE := same_new hE (.lst [V.str o.1])
        refine eqS_to (xs := (lawO g.os g.short t).map fun o => o.1) (ys := [o.1]) (SqL.of (sE _ _ hzs)) (SqL.of upd_same) (fun x hx => ?_) (fun x hx => ?_) ?_
        · obtain ⟨o', h1, rfl⟩ := List.mem_map.mp hx
          exact (sm.ok.os o' (lawO_mem o' h1)).name.asc
        · rw [List.mem_singleton.mp hx]
          exact (sm.ok.os o oin).name.asc
        · have s7 := s5.trans (s6.trans sE)
          refine ⟨_, rfl, ?_⟩
          refine ite2 (fun c => ?_) (fun c => ?_)
          · exact ⟨_, rfl, k1 _ t _ (if_pos c) rfl s7⟩
          · exact k0 (if_neg c) _ s7
    intro D2 H4 zs hD2 s4 hzs pr4
    rw [fm_guard] at pr4
    rw [strs_map pr4] at hzs
    have s14 := s13.trans s4
    have hf4 := s4 _ _ (s3 _ _ h1)
    have l1 : (shortF g (g.os.take i)).length ≤ 36 := Nat.le_trans (shortF_len g _ fun o ho => h12 o (List.mem_of_mem_take ho)) (by have := List.length_take_le i g.os; have := (List.take_sublist i g.os).length_le; omega)
    have l2 := List.length_filter_le (fun t => decide ((lawO g.os g.short t).map (·.1) = [o.1])) (heads1 o.1)
    refine ⟨fa, D2, _, _, rfl, rfl, hf4, hzs, by rw [sizeLine_eq, List.length_map, List.length_map]; omega, fun p hp => ?_⟩
    refine ⟨p, _, _, _, _, _, _, _, rfl, s14.trans (same_new hp _), s14.free hp, ?_⟩
    rw [upd_same, tk1]
    unfold shortF
    rw [List.flatMap_append, List.map_append]
    simp
  · rintro σ H1 ⟨fa, o2, o3, o4, o5, o6, o7, o8, rfl, s1, hfa, h1⟩
    rw [hlen, List.take_length] at h1
    have l1 := shortF_len g g.os h12
    refine ⟨_, rfl, fa, rfl, ⟨_, SqL.of h1⟩, ?_⟩
    refine lcL (R := StrA) (ds := shortF g g.os) (f := fun t => if (!memS t (g.os.map (·.1))) = true then some t else none) StrA.mn (SqL.of h1) (List.length_map _) (by omega) ?_ ?_
    · intro j y t H' hy ht s' Q1 Q0 k1 k0
      rw [List.getElem?_map, ht] at hy
      obtain rfl : V.str t = y := Option.some.inj hy
      have s2 := s1.trans s'
      refine ⟨rfl, ?_⟩
      refine ⟨_, rfl, _, rfl, a, _, 0, _, rfl, rfl, SqT.of (s2 _ _ ha), atI_nat (j := 0) rfl, oa, rfl, ⟨_, SqT.of (s2 _ _ ho)⟩, ?_⟩
      refine lcT (R := StrA) (ds := g.os) (f := fun o => some o.1) StrA.mn (SqT.of (s2 _ _ ho)) hlen (by omega) ?_ ?_
      · intro k z o2 H6 hz ho2 s6 Q1' Q0' k1' k0'
        obtain ⟨b2, rfl, hb2⟩ := Paired.at' pr hz ho2
        refine ⟨rfl, ?_⟩
        exact ⟨_, rfl, b2, _, 0, _, rfl, rfl, SqT.of (s6 _ _ (s2 _ _ hb2)), atI_nat (j := 0) rfl, k1' _ _ _ rfl rfl (Same.refl _)⟩
      · intro D2 H6 zs hD2 s6 hzs pr6
        rw [strs_map pr6, filterMap_some (g := fun o : Opt => o.1) _ fun _ _ => rfl] at hzs
        refine ⟨D2, _, rfl, .inl (SqL.of hzs), rfl, flat_strs _, _, rfl, ?_⟩
        show if (!inV (V.str t) ((g.os.map fun o => o.1).map V.str)) = true then _ else _
        rw [inV_memS]
        refine ite2 (fun c => ?_) (fun c => ?_)
        · exact ⟨_, rfl, k1 _ t _ (if_pos c) rfl s6⟩
        · exact k0 (if_neg c) _ s6
    · intro D2 H4 zs hD2 s4 hzs pr4
      rw [fm_guard] at pr4
      rw [strs_map pr4] at hzs
      refine q D2 H4 _ (s1.trans s4) (s1.free hD2) (fun t => ?_) ?_ hzs
      · rw [← shrt_law, List.mem_filter, Bool.not_eq_true', memS_false]
        unfold shortF
        rw [List.mem_flatMap]
        constructor
        · rintro ⟨⟨o, ho, h⟩, hn⟩
          obtain ⟨h1, h2⟩ := List.mem_filter.mp h
          obtain ⟨k, k1, k2, k3⟩ := mem_heads1.mp h1
          exact ⟨⟨o, ho, k, k1, k2, k3, of_decide_eq_true h2⟩, fun o' ho' e => hn (List.mem_map.mpr ⟨o', ho', e⟩)⟩
        · rintro ⟨⟨o, ho, k, k1, k2, k3, k4⟩, hn⟩
          refine ⟨⟨o, ho, List.mem_filter.mpr ⟨mem_heads1.mpr ⟨k, k1, k2, k3⟩, decide_eq_true k4⟩⟩, fun z => ?_⟩
          obtain ⟨o', ho', e⟩ := List.mem_map.mp z
          exact hn o' ho' e
      · exact Nat.le_trans (List.length_filter_le _ _) (by omega)

abbrev s_law_alone : Stmt := top 57
abbrev N_law_alone : List Str := ["grammar", "wish", "one", "text"]
theorem sc_law_alone : FnScope N_law_alone ["grammar", "wish"] (defScope s_law_alone) := ⟨rfl, rfl, rfl, by decide +kernel, rfl, by decide +kernel, by decide +kernel⟩
theorem ok_law_alone {f : Addr} {fd : FuncData} (F : Fun K "_law_alone" "_law_alone" s_law_alone f fd) (b : Binds K fd ["grammar", "wish"] []) (m : mg "_law_alone" = some (.ref f)) (T : Txt K mg C aK aA)
    (Dlaw_is_number : DefAt P w K mg base "_law_is_number" 1 ["grammar", "word"] spIsNum)
    (Dlaw_shortened : DefAt P w K mg base "_law_shortened" 2 ["grammar"] spShortened) :
    DefAt P w K mg base "_law_alone" 3 ["grammar", "wish"] spAlone := by
  refine ⟨f, fd, F.ok sc_law_alone (fun vs H Q E h => ?_) (fun cdv A outer s H vs Q E hr h => ?_), b, F.kp, m⟩
  · obtain ⟨v, u, g, wi, rfl, _⟩ := h
    rfl
  obtain ⟨v, u, g, wi, rfl, hg, sm, ⟨b, rfl, hb⟩, wok, q⟩ := h
  have hg0 := hg
  obtain ⟨a, vo, vp, mm, rfl, ha, ⟨oa, vs, rfl, ho, pr⟩, ⟨pa, xs, rfl, hp, prp⟩, hm⟩ := hg
  have nd := sc_law_alone.nd
  have hlen := Paired.len pr
  have g3 := sm.few
  refine ⟨_, (pss_cons (ps_if (pt_cmpR (op_neDK K rfl hr.units) (pe_lc (own := [("one", 2)]) (g := gName 2) rfl nd (pi_tupK K rfl (pe_ix (ix_tupK K rfl) (pv 0) pe_int (fun _ _ => rfl))) (blkOk_by (N := N_law_alone) (sc := defScope s_law_alone) (by decide +kernel)) (fun _ _ _ _ _ => (pg_name (i := 2) nd rfl (Or.inl rfl))) (fun _ _ _ _ _ => (pts_one (PW.pt (pw_or (pt_cmpR op_eq (pe_ix (ix_tupK K rfl) (pv 2) pe_int (fun _ _ => rfl)) (pe_ix (ix_tupK K rfl) (pv 1) pe_int (fun _ _ => rfl)) (nomark _)) (pw_or1 (pt_chain op_eq op_ne (pe_ix (ix_tupK K rfl) (pv 2) pe_int (fun _ _ => rfl)) (pe_ix (ix_tupK K rfl) (pv 1) pe_int (fun _ _ => rfl)) pe_str)))))) (fun _ _ _ _ _ => (pv 2))) (pe_lst pa_nil) (nomark _))
    (pss_one (ps_ret pe_bl))
    pss_nil)
    (pss_cons (ps_if (pt_cmpR (op_neDK K rfl hr.units) (pe_lc (own := [("text", 3)]) (g := gName 3) rfl nd (pi_listK K rfl (pe_callD Dlaw_shortened (hr.mono (by decide)) rfl (pa_cons (pv 0) pa_nil))) (blkOk_by (N := N_law_alone) (sc := defScope s_law_alone) (by decide +kernel)) (fun _ _ _ _ _ => (pg_name (i := 3) nd rfl (Or.inl rfl))) (fun _ _ _ _ _ => (pts_one (pt_cmpR op_eq (pe_slice sl_str (pe_ix (ix_tupK K rfl) (pv 1) pe_int (fun _ _ => rfl)) po_none (po_some (pe_callB call_lenS (by rfl) T.n_len W31.boot_len (pa_cons (pv 3) pa_nil)))) (pv 3) (nomark _)))) (fun _ _ _ _ _ => (pv 3))) (pe_lst pa_nil) (nomark _))
    (pss_one (ps_ret pe_bl))
    pss_nil)
    (pss_cons (ps_if (PW.pt (pw_or (pt_cmpR op_eq (pe_ix (ix_tupK K rfl) (pv 1) pe_int (fun _ _ => rfl)) pe_str (nomark _)) (pw_or (pt_cmpR op_notIn_sign (pe_ix (ix_tupK K rfl) (pv 1) pe_int (fun _ _ => rfl)) pe_str rfl) (pw_or1 (pt_not (pt_val (pe_callD Dlaw_is_number (hr.mono (by decide)) rfl (pa_cons (pv 0) (pa_cons pe_str pa_nil)))))))))
    (pss_one (ps_ret pe_bl))
    pss_nil)
    (pss_one (ps_ret (pe_cmpR (op_eqDK K rfl hr.units) (pe_ix (ix_tupK K rfl) (pv 0) pe_int (fun _ _ => rfl)) (pe_tup pa_nil) (nomark _))))))), ?_⟩
  refine ⟨_, rfl, a, _, 0, _, rfl, rfl, SqT.of ha, atI_nat (j := 0) rfl, oa, rfl, ⟨_, SqT.of ho⟩, ?_⟩
  refine lcT (R := OptA) (ds := g.os) (f := fun o => if (decide (o.1 = wi.1) || (decide (o.2.1 = wi.2.1) && !decide (wi.2.1 = ""))) = true then some o else none) OptA.mn (SqT.of ho) hlen (by omega) ?_ ?_
  · intro i x o H' hx ho' s' Q1 Q0 k1 k0
    obtain ⟨c, rfl, hc⟩ := Paired.at' pr hx ho'
    have hc' := s' _ _ hc
    have hb' := s' _ _ hb
    refine ⟨rfl, ?_⟩
    refine ⟨_, rfl, c, _, 0, _, rfl, rfl, SqT.of hc', atI_nat (j := 0) rfl, _, rfl, b, _, 0, _, rfl, rfl, SqT.of hb', atI_nat (j := 0) rfl, rfl, _, rfl, ?_⟩
    rw [str_eq]
    refine ite2 (fun c1 => ?_) (fun c1 => ?_)
    · exact ⟨_, rfl, k1 _ o _ (if_pos (by rw [c1]; rfl)) ⟨c, rfl, hc'⟩ (Same.refl _)⟩
    have c1' := (Bool.not_eq_true _).mp c1
    refine ⟨_, rfl, c, _, 1, _, rfl, rfl, SqT.of hc', atI_nat (j := 1) rfl, _, rfl, b, _, 1, _, rfl, rfl, SqT.of hb', atI_nat (j := 1) rfl, rfl, _, rfl, ?_⟩
    rw [str_eq]
    refine ite2 (fun c2 => ?_) (fun c2 => ?_)
    · refine ⟨rfl, _, rfl, ?_⟩
      rw [str_ne]
      refine ite2 (fun c3 => ?_) (fun c3 => ?_)
      · exact ⟨_, rfl, k1 _ o _ (if_pos (by rw [c1', c2, c3]; rfl)) ⟨c, rfl, hc'⟩ (Same.refl _)⟩
      · exact k0 (if_neg (by rw [c1', c2, (Bool.not_eq_true _).mp c3]; decide)) _ (Same.refl _)
    · refine ⟨_, rfl, ?_⟩
      refine iteF ?_
      exact k0 (if_neg (by rw [c1', (Bool.not_eq_true _).mp c2, Bool.false_and]; decide)) _ (Same.refl _)
  intro D H1 ys hD s1 hys pr1
  rw [fm_guard] at pr1
  refine ⟨Nat.zero_le _, fun e he => ?_⟩
  have se := same_new he (.lst [])
  have s2 := s1.trans se
  refine neE_to (SqL.of (se _ _ hys)) (dp_opts (Paired.mono OptA.mn (Same.kt se) pr1)) upd_same (lay_opts fun o ho => sm.ok.os o (List.mem_filter.mp ho).1) (by decide) ?_
  rw [List.isEmpty_map, filter_none, Bool.not_not]
  refine ⟨_, rfl, ?_⟩
  show if clash g.os wi = true then _ else _
  refine ite2 (fun c1 => ?_) (fun c1 => ?_)
  · have q0 := q _ s2
    unfold fit1 at q0
    rw [c1] at q0
    exact q0
  have c1' := (Bool.not_eq_true _).mp c1
  refine ⟨_, rfl, _, g, rfl, GrA.mn.mono _ _ _ _ (Same.kt s2) hg0, sm, fun lb H3 bs s3 hlb hbm hbl hbs => ?_⟩
  have s13 := s2.trans s3
  refine ⟨lb, rfl, ⟨_, SqL.of hbs⟩, ?_⟩
  refine lcL (R := StrA) (ds := bs) (f := fun t => if pre t wi.1 = true then some t else none) StrA.mn (SqL.of hbs) (List.length_map _) (by omega) ?_ ?_
  · intro j x t H' hx ht s' Q1 Q0 k1 k0
    rw [List.getElem?_map, ht] at hx
    obtain rfl : V.str t = x := Option.some.inj hx
    have tin : t ∈ bs := List.mem_of_getElem? ht
    have tl : t.length ≤ 1000 := by
      obtain ⟨_, _, _, o, e⟩ := (hbm t).mp tin
      have ho : o ∈ g.os.filter fun o => pre t o.1 := by rw [e]; exact List.mem_singleton.mpr rfl
      obtain ⟨m, hp⟩ := List.mem_filter.mp ho
      have := pre_le hp
      have := (sm.ok.os o m).name.hi
      omega
    have wl := wok.name.hi
    refine ⟨rfl, ?_⟩
    refine ⟨_, rfl, b, _, 0, _, rfl, rfl, SqT.of (s' _ _ (s13 _ _ hb)), atI_nat (j := 0) rfl, _, rfl, t, rfl, Nat.le_of_lt (small1000 tl), _, rfl, wi.1, rfl, by rw [sizeLine_eq]; omega, _, rfl, rfl, _, rfl, ?_⟩
    rw [pre_cut]
    refine ite2 (fun c => ?_) (fun c => ?_)
    · exact ⟨_, rfl, k1 _ t _ (if_pos c) rfl (Same.refl _)⟩
    · exact k0 (if_neg c) _ (Same.refl _)
  intro D2 H4 zs hD2 s4 hzs pr4
  rw [fm_guard] at pr4
  rw [strs_map pr4] at hzs
  refine ⟨Nat.zero_le _, fun E0 hE => ?_⟩
  have sE := same_new hE (.lst [])
  have s5 := s13.trans (s4.trans sE)
  refine neE_to (SqL.of (sE _ _ hzs)) (dp_strs _) upd_same (lay_strs fun x hx => ((hbm x).mp (List.mem_filter.mp hx).1).asc sm.ok.os) (by decide) ?_
  have eb : (strsD (bs.filter fun t => pre t wi.1)).isEmpty = !barred g wi.1 := by
    rw [← barred_of (x := wi.1) hbm]
    unfold strsD
    rw [List.isEmpty_map, filter_none]
  rw [eb, Bool.not_not]
  refine ⟨_, rfl, ?_⟩
  refine ite2 (fun c2 => ?_) (fun c2 => ?_)
  · have q0 := q _ s5
    unfold fit1 at q0
    rw [c1', c2] at q0
    exact q0
  have c2' := (Bool.not_eq_true _).mp c2
  have lst : (wi.2.1 = "" → figL wi.2.1 = false) := fun z => by rw [z]; rfl
  refine ⟨_, rfl, b, _, 1, _, rfl, rfl, SqT.of (s5 _ _ hb), atI_nat (j := 1) rfl, rfl, _, rfl, ?_⟩
  rw [str_eq]
  have yes : figL wi.2.1 = false ∨ numG g = false → fit1 g wi = true := fun z => by
    unfold fit1
    rw [c1', c2']
    rcases z with z | z
    · rw [z, Bool.and_false]; rfl
    · rw [z]; rfl
  refine ite2 (fun c3 => ?_) (fun c3 => ?_)
  · have q0 := q _ s5
    rw [yes (.inl (lst (of_decide_eq_true c3)))] at q0
    exact q0
  rcases wok.letter with e | ⟨c, e, hc⟩
  · exact absurd (decide_eq_true e) c3
  have q1 := fun H' s => q H' s
  refine ⟨_, rfl, b, _, 1, _, rfl, rfl, SqT.of (s5 _ _ hb), atI_nat (j := 1) rfl, c, FIGURES, by rw [e], rfl, _, rfl, ?_⟩
  have ef : figL wi.2.1 = decide (c ∈ FIGURES.cps.toList) := by rw [e]; rfl
  refine ite2 (fun c4 => ?_) (fun c4 => ?_)
  · have q0 := q _ s5
    rw [yes (.inl (by rw [ef]; simpa using c4))] at q0
    exact q0
  have figT : figL wi.2.1 = true := by rw [ef]; simpa using c4
  refine ⟨_, rfl, _, g, rfl, GrA.mn.mono _ _ _ _ (Same.kt s5) hg0, sm.ok.os, by omega, fun H6 s6 => ?_⟩
  have s16 := s5.trans s6
  refine ⟨_, rfl, ?_⟩
  refine ite2 (fun c5 => ?_) (fun c5 => ?_)
  · have q0 := q _ s16
    rw [yes (.inr (by simpa using c5))] at q0
    exact q0
  have numT : numG g = true := by simpa using c5
  refine ⟨_, rfl, a, _, 1, _, rfl, rfl, SqT.of (s16 _ _ ha), atI_nat (j := 1) rfl, Nat.zero_le _, fun E1 hE1 => ?_⟩
  have sE1 := same_new hE1 (.tup [])
  have s7 := s16.trans sE1
  refine eqT_to (SqT.of (s7 _ _ hp)) (dp_plcs (Paired.mono PlcA.mn (Same.kt s7) prp)) upd_same (lay_plcs sm.ok.ps) (by decide) ?_
  rw [List.isEmpty_map]
  have q0 := q _ s7
  unfold fit1 at q0
  rw [c1', c2', numT, figT] at q0
  cases hps : g.ps.isEmpty with
  | true => rw [hps] at q0; exact q0
  | false => rw [hps] at q0; exact q0

abbrev s_law_fitting : Stmt := top 59
abbrev N_law_fitting : List Str := ["grammar", "wishes", "number", "wish"]
theorem sc_law_fitting : FnScope N_law_fitting ["grammar", "wishes"] (defScope s_law_fitting) := ⟨rfl, rfl, rfl, by decide +kernel, rfl, by decide +kernel, by decide +kernel⟩
theorem ok_law_fitting {f : Addr} {fd : FuncData} (F : Fun K "_law_fitting" "_law_fitting" s_law_fitting f fd) (b : Binds K fd ["grammar", "wishes"] []) (m : mg "_law_fitting" = some (.ref f)) (T : Txt K mg C aK aA)
    (Dlaw_alone : DefAt P w K mg base "_law_alone" 3 ["grammar", "wish"] spAlone) :
    DefAt P w K mg base "_law_fitting" 4 ["grammar", "wishes"] spLawFitting := by
  refine ⟨f, fd, F.ok sc_law_fitting (fun vs H Q E h => ?_) (fun cdv A outer s H vs Q E hr h => ?_), b, F.kp, m⟩
  · obtain ⟨v, u, g, ws, rfl, _⟩ := h
    rfl
  obtain ⟨v, u, g, ws, rfl, hg, sm, ⟨wa, vs, rfl, hw, pr⟩, wok, q⟩ := h
  have nd := sc_law_fitting.nd
  have hlen := Paired.len pr
  have few := wok.few
  refine ⟨_, (pss_one (ps_ret (pe_lc (own := [("number", 2), ("wish", 3)]) rfl nd (pi_enumT (by rfl) T.n_enumerate (pa_cons (pv 1) pa_nil)) (blkOk_by (N := N_law_fitting) (sc := defScope s_law_fitting) (by decide +kernel)) (fun _ _ _ _ _ => (pg_tupK (n := 2) K rfl rfl (pgs_cons (pg_name (i := 2) nd rfl (Or.inl rfl)) (pgs_cons (pg_name (i := 3) nd rfl (Or.inl rfl)) pgs_nil)))) (fun _ _ _ _ _ => (pts_one (pt_val (pe_callD Dlaw_alone (hr.mono (by decide)) rfl (pa_cons (pv 0) (pa_cons (pv 3) pa_nil)))))) (fun _ _ _ _ _ => (pv 2))))), ?_⟩
  refine ⟨_, rfl, wa, vs, rfl, SqT.of hw, ?_⟩
  intro D hD
  refine lc_it (walk_enumT (xs := vs)) (fun i H' => Same H H' ∧ H' D = some (.lst (natsV (fitT g ws i)))) ⟨same_new hD _, upd_same⟩ (fun i H' _ p => SqT.of (p.1 _ _ hw)) ?_ ?_
  · rintro i x H1 H2 hi ⟨s1, h1⟩ ⟨Tp, y, z, rfl, hT, rfl, hy, hz⟩
    obtain rfl : V.int (i : Nat) = y := Option.some.inj hy
    obtain ⟨wi, hwi, ⟨b, rfl, hb⟩⟩ := Paired.snd pr hz
    have eT := same_new hT (.tup [.int (i : Nat), .ref b])
    have s2 := s1.trans eT
    refine ⟨Tp, _, rfl, SqT.of upd_same, rfl, _, _, rfl, _, _, rfl, rfl, ?_⟩
    refine ⟨rfl, ?_⟩
    refine ⟨_, rfl, _, rfl, _, _, g, wi, rfl, GrA.mn.mono _ _ _ _ (Same.kt s2) hg, sm, ⟨b, rfl, s2 _ _ hb⟩, wok.ok wi (List.mem_of_getElem? hwi), fun H3 s3 => ?_⟩
    have s4 := s2.trans s3
    have h3 := s3 _ _ (eT _ _ h1)
    refine ⟨_, rfl, ?_⟩
    refine ite2 (fun c => ?_) (fun c => ?_)
    · refine ⟨_, rfl, _, h3, small1000 (by unfold natsV; rw [List.length_map]; have := fitT_len g ws i; omega), same_own s4 hD, ?_⟩
      rw [upd_same, fitT_succ hwi, if_pos c]
      unfold natsV
      rw [List.map_append]
      rfl
    · refine ⟨s4, ?_⟩
      rw [fitT_succ hwi, if_neg c, List.append_nil]
      exact h3
  · rintro H1 ⟨s1, h1⟩
    rw [hlen] at h1
    exact q D H1 s1 hD h1
end
end W31

set_option maxHeartbeats 4000000
/-! _law_apart, _law_covers, _law_greatest. -/
namespace W31
open PySem PySem.Spec PyProof.Rows L2
theorem cutV_take (xs : List V) (k : Nat) : cutV xs none (some (k : Int)) = xs.take k := by
  unfold cutV
  rw [HT.sIx_none, HT.sIx_nat, List.drop_zero, Nat.sub_zero]
  by_cases h : k ≤ xs.length
  · rw [Nat.min_eq_left h]
  · rw [Nat.min_eq_right (by omega), List.take_of_length_le (Nat.le_refl _), List.take_of_length_le (by omega)]
theorem Paired.take {α β : Type} {R : α → β → Prop} : ∀ {vs : List α} {ds : List β} (k : Nat), Paired R vs ds → Paired R (vs.take k) (ds.take k)
  | _, _, 0, _ => .nil
  | _, _, _ + 1, .nil => .nil
  | _, _, k + 1, .cons r t => .cons r (Paired.take k t)
theorem Paired.drop {α β : Type} {R : α → β → Prop} : ∀ {vs : List α} {ds : List β} (k : Nat), Paired R vs ds → Paired R (vs.drop k) (ds.drop k)
  | _, _, 0, h => h
  | _, _, _ + 1, .nil => .nil
  | _, _, k + 1, .cons r t => Paired.drop k t
theorem Paired.rev {α β : Type} {R : α → β → Prop} : ∀ {vs : List α} {ds : List β}, Paired R vs ds → Paired R vs.reverse ds.reverse
  | _, _, .nil => .nil
  | _, _, .cons r t => by
    rw [List.reverse_cons, List.reverse_cons]
    exact Paired.app (Paired.rev t) (.cons r .nil)
def spApart : Sp := fun vs H Q _ => ∃ (l : Addr) (us : List V) (os : List Opt), vs = [.ref l] ∧ H l = some (.lst us) ∧ Paired (OptA H) us os ∧ os.length ≤ 16 ∧ ∀ H', Same H H' → Q (.bl (apartB os)) H'
def spCovers : Sp := fun vs H Q _ => ∃ (v u : V) (A B : Addr) (g : Gr) (ws : List Opt) (a b : List Str), vs = [v, u, .ref A, .ref B] ∧ GrA H v g ∧ GrSm g ∧ OptsA H u ws ∧ WsOk ws ∧ H A = some (.tup (a.map V.str)) ∧ H B = some (.tup (b.map V.str)) ∧
  ∀ H', Same H H' → Q (.bl ((fitP g ws).all fun n => memS (nmW ws n) a || memS (wn ws n).2.1 b)) H'
def spGreatest : Sp := fun vs H Q _ => ∃ (v u : V) (g : Gr) (ws : List Opt), vs = [v, u] ∧ GrA H v g ∧ GrSm g ∧ OptsA H u ws ∧ WsOk ws ∧ ws.length ≤ 8 ∧ ∀ H', Same H H' → Q (.int (bestP ws (rowsP (fitP g ws)) : Nat)) H'
def RowA (H : Hp) (v : V) (r : List Nat) : Prop := ∃ a, v = .ref a ∧ H a = some (.tup (natsV r))
theorem RowA.mn : Mn RowA := ⟨fun _ _ _ _ k ⟨a, e, h⟩ => ⟨a, e, k _ _ h⟩⟩
theorem natsV_at {l : List Nat} {i : Nat} {v : V} (h : (natsV l)[i]? = some v) : ∃ n, l[i]? = some n ∧ v = .int (n : Nat) := by
  unfold natsV at h
  rw [List.getElem?_map] at h
  obtain ⟨n, h1, h2⟩ := Option.map_eq_some_iff.mp h
  exact ⟨n, h1, h2.symm⟩
theorem natsV_len (l : List Nat) : (natsV l).length = l.length := by unfold natsV; rw [List.length_map]
section
variable {P : Program} {w : World} {K : PySem.W.Frag} {mg : Str → Option Value} {base : Heap} {C aK aA : Addr}
abbrev s_law_apart : Stmt := top 60
abbrev N_law_apart : List Str := ["wishes", "at", "one", "other"]
theorem sc_law_apart : FnScope N_law_apart ["wishes"] (defScope s_law_apart) := ⟨rfl, rfl, rfl, by decide +kernel, rfl, by decide +kernel, by decide +kernel⟩
theorem ok_law_apart {f : Addr} {fd : FuncData} (F : Fun K "_law_apart" "_law_apart" s_law_apart f fd) (b : Binds K fd ["wishes"] []) (m : mg "_law_apart" = some (.ref f)) (T : Txt K mg C aK aA) :
    DefAt P w K mg base "_law_apart" 1 ["wishes"] spApart := by
  refine ⟨f, fd, F.ok sc_law_apart (fun vs H Q E h => ?_) (fun cdv A outer s H vs Q E hr h => ?_), b, F.kp, m⟩
  · obtain ⟨l, us, os, rfl, _⟩ := h
    rfl
  obtain ⟨l, us, os, rfl, hl, pr, few, q⟩ := h
  have nd := sc_law_apart.nd
  have hlen := Paired.len pr
  refine ⟨_, (pss_cons (ps_for PassesOwn.never rfl (pi_enum (by rfl) T.n_enumerate (pa_cons (pv 0) pa_nil)) (pg_tupK (n := 2) K rfl rfl (pgs_cons (pg_name (i := 1) nd rfl (Or.inl rfl)) (pgs_cons (pg_name (i := 2) nd rfl (Or.inl rfl)) pgs_nil)))
    (pss_one (ps_for PassesOwn.never rfl (pi_listK K rfl (pe_slice sl_list (pv 0) po_none (po_some (pv 1)))) (pg_name (i := 3) nd rfl (Or.inl rfl))
    (pss_one (ps_if (PW.pt (pw_or (pt_cmpR op_eq (pe_ix (ix_tupK K rfl) (pv 2) pe_int (fun _ _ => rfl)) (pe_ix (ix_tupK K rfl) (pv 3) pe_int (fun _ _ => rfl)) (nomark _)) (pw_or1 (pt_chain op_eq op_ne (pe_ix (ix_tupK K rfl) (pv 2) pe_int (fun _ _ => rfl)) (pe_ix (ix_tupK K rfl) (pv 3) pe_int (fun _ _ => rfl)) pe_str))))
    (pss_one (ps_ret pe_bl))
    pss_nil)))))
    (pss_one (ps_ret pe_bl))), ?_⟩
  refine ⟨_, rfl, l, us, rfl, SqL.of hl, ?_⟩
  refine for_it (walk_enum (xs := us)) (fun i σ H' => ∃ (o1 o2 o3 : Option V), σ = [some (.ref l), o1, o2, o3] ∧ Same H H' ∧ (os.take i).Pairwise fun o w => clo w o = false)
    ⟨none, none, none, rfl, Same.refl _, .nil⟩ (fun i σ H' hi ⟨_, _, _, _, s, _⟩ => SqL.of (s _ _ hl)) ?_ ?_
  · rintro i x σ H1 H2 hi ⟨o1, o2, o3, rfl, s1, pw⟩ ⟨Tp, y, z, rfl, hT, rfl, hy, hz⟩
    obtain rfl : V.int (i : Nat) = y := Option.some.inj hy
    obtain ⟨one, hone, ⟨b, rfl, hb⟩⟩ := Paired.snd pr hz
    have eT := same_new hT (.tup [.int (i : Nat), .ref b])
    have s2 := s1.trans eT
    refine ⟨Tp, _, rfl, SqT.of upd_same, rfl, _, _, rfl, _, _, rfl, rfl, ?_⟩
    refine ⟨_, rfl, _, rfl, _, rfl, l, us, rfl, SqL.of (s2 _ _ hl), fun sl hsl => ?_⟩
    rw [cutV_take]
    have es := same_new hsl (.lst (us.take i))
    have s3 := s2.trans es
    refine ⟨sl, rfl, ⟨_, SqL.of upd_same⟩, ?_⟩
    have prt := Paired.take i pr
    refine for_it (walk_list (xs := us.take i)) (fun j σ H' => ∃ (o3 : Option V), σ = [some (.ref l), some (.int (i : Nat)), some (.ref b), o3] ∧ Same H H' ∧ H' sl = some (.lst (us.take i)) ∧ ∀ o ∈ (os.take i).take j, clo one o = false)
      ⟨o3, rfl, s3, upd_same, (fun o ho => by cases ho)⟩ (fun j σ H' _ ⟨_, _, _, h, _⟩ => SqL.of h) ?_ ?_
    · rintro j v σ H5 H4 hj ⟨p3, rfl, s4, h4, no⟩ ⟨rfl, hv⟩
      obtain ⟨o, ho, ⟨c, rfl, hc⟩⟩ := Paired.snd prt hv
      have hb4 := s4 _ _ hb
      have hc4 := s4 _ _ hc
      have bad : clo one o = true → Q (.bl false) H4 := fun z => by
        have q0 := q _ s4
        rw [show apartB os = false from decide_eq_false fun pw2 => ?_] at q0
        · exact q0
        · have oi : o ∈ os.take i := List.mem_of_getElem? ho
          obtain ⟨hi', e'⟩ := List.getElem?_eq_some_iff.mp hone
          have sp : os = os.take i ++ one :: os.drop (i + 1) := by rw [← e', ← List.drop_eq_getElem_cons hi', List.take_append_drop]
          rw [sp, List.pairwise_append] at pw2
          rw [pw2.2.2 o oi one List.mem_cons_self] at z
          cases z
      refine ⟨_, rfl, b, _, 0, _, rfl, rfl, SqT.of hb4, atI_nat (j := 0) rfl, _, rfl, c, _, 0, _, rfl, rfl, SqT.of hc4, atI_nat (j := 0) rfl, rfl, _, rfl, ?_⟩
      rw [str_eq]
      refine ite2 (fun c1 => ?_) (fun c1 => ?_)
      · exact bad (by unfold clo; rw [c1]; rfl)
      have c1' := (Bool.not_eq_true _).mp c1
      have goon : clo one o = false → ∃ (o3 : Option V), ([some (.ref l), some (.int (i : Nat)), some (.ref b), some (.ref c)] : L2.St) = [some (.ref l), some (.int (i : Nat)), some (.ref b), o3] ∧ Same H H4 ∧ H4 sl = some (.lst (us.take i)) ∧ ∀ o ∈ (os.take i).take (j + 1), clo one o = false := fun z => by
        refine ⟨_, rfl, s4, h4, fun o' ho' => ?_⟩
        rw [List.take_add_one, ho] at ho'
        rcases List.mem_append.mp ho' with y | y
        · exact no o' y
        · rw [List.mem_singleton.mp y]; exact z
      refine ⟨_, rfl, b, _, 1, _, rfl, rfl, SqT.of hb4, atI_nat (j := 1) rfl, _, rfl, c, _, 1, _, rfl, rfl, SqT.of hc4, atI_nat (j := 1) rfl, rfl, _, rfl, ?_⟩
      rw [str_eq]
      refine ite2 (fun c2 => ?_) (fun c2 => ?_)
      · refine ⟨rfl, _, rfl, ?_⟩
        rw [str_ne]
        refine ite2 (fun c3 => ?_) (fun c3 => ?_)
        · exact bad (by unfold clo; rw [c1', c2, c3]; rfl)
        · exact goon (by unfold clo; rw [c1', c2, (Bool.not_eq_true _).mp c3]; rfl)
      · refine ⟨_, rfl, ?_⟩
        refine iteF ?_
        exact goon (by unfold clo; rw [c1', (Bool.not_eq_true _).mp c2, Bool.false_and]; rfl)
    · rintro σ H4 ⟨p3, rfl, s4, h4, no⟩
      rw [Paired.len prt, List.take_length] at no
      refine ⟨_, _, _, rfl, s4, ?_⟩
      rw [List.take_add_one, hone, List.pairwise_append]
      exact ⟨pw, List.pairwise_singleton _ _, fun o ho w hw => by rw [List.mem_singleton.mp hw]; exact no o ho⟩
  · rintro σ H1 ⟨o1, o2, o3, rfl, s1, pw⟩
    rw [hlen, List.take_length] at pw
    have q0 := q _ s1
    rw [show apartB os = true from decide_eq_true pw] at q0
    exact q0

abbrev s_law_covers : Stmt := top 61
abbrev N_law_covers : List Str := ["grammar", "wishes", "names", "letters", "some", "number", "wish"]
theorem sc_law_covers : FnScope N_law_covers ["grammar", "wishes", "names", "letters"] (defScope s_law_covers) := ⟨rfl, rfl, rfl, by decide +kernel, rfl, by decide +kernel, by decide +kernel⟩
theorem ok_law_covers {f : Addr} {fd : FuncData} (F : Fun K "_law_covers" "_law_covers" s_law_covers f fd) (b : Binds K fd ["grammar", "wishes", "names", "letters"] []) (m : mg "_law_covers" = some (.ref f)) (T : Txt K mg C aK aA)
    (Dlaw_fitting : DefAt P w K mg base "_law_fitting" 4 ["grammar", "wishes"] spLawFitting) :
    DefAt P w K mg base "_law_covers" 5 ["grammar", "wishes", "names", "letters"] spCovers := by
  refine ⟨f, fd, F.ok sc_law_covers (fun vs H Q E h => ?_) (fun cdv A outer s H vs Q E hr h => ?_), b, F.kp, m⟩
  · obtain ⟨v, u, A, B, g, ws, a, b, rfl, _⟩ := h
    rfl
  obtain ⟨v, u, A, B, g, ws, a, b, rfl, hg, sm, hw0, wok, hA, hB, q⟩ := h
  have hw00 := hw0
  obtain ⟨wa, vs, rfl, hw, pr⟩ := hw0
  have nd := sc_law_covers.nd
  have few := wok.few
  have fl := fitP_len g ws
  refine ⟨_, (pss_cons (ps_setLc (i := 4) (own := [("number", 5)]) (g := gName 5) (tt := tYes) rfl nd rfl rfl (sw_true rfl rfl rfl (by decide +kernel)) (pi_listK K rfl (pe_callD Dlaw_fitting (hr.mono (by decide)) rfl (pa_cons (pv 0) (pa_cons (pv 1) pa_nil)))) (blkOk_by (N := N_law_covers) (sc := defScope s_law_covers) (by decide +kernel)) (fun _ _ _ _ _ => (pg_name (i := 5) nd rfl (Or.inl rfl))) (fun _ _ _ _ _ => pts_nil) (fun _ _ _ _ _ => (pe_ix (ix_tupK K rfl) (pv 1) (pv 5) (fun _ _ => rfl))))
    (pss_one (ps_ret (pe_cmpR (op_eqDK K rfl hr.units) (pe_lc (own := [("wish", 6)]) (g := gName 6) rfl nd (pi_listK K rfl (pv 4)) (blkOk_by (N := N_law_covers) (sc := defScope s_law_covers) (by decide +kernel)) (fun _ _ _ _ _ => (pg_name (i := 6) nd rfl (Or.inl rfl))) (fun _ _ _ _ _ => (pts_one (PW.pt (pw_and (pt_cmpR (op_notInK K rfl) (pe_ix (ix_tupK K rfl) (pv 6) pe_int (fun _ _ => rfl)) (pv 2) (by rfl)) (pw_and1 (pt_cmpR (op_notInK K rfl) (pe_ix (ix_tupK K rfl) (pv 6) pe_int (fun _ _ => rfl)) (pv 3) (by rfl))))))) (fun _ _ _ _ _ => (pv 6))) (pe_lst pa_nil) (nomark _))))), ?_⟩
  refine ⟨_, rfl, _, rfl, _, _, g, ws, rfl, hg, sm, hw00, wok, fun l H1 s1 hl0 hl => ?_⟩
  refine ⟨l, rfl, ⟨_, SqL.of hl⟩, ?_⟩
  refine lcL (R := OptA) (ds := fitP g ws) (f := fun n => some (wn ws n)) OptA.mn (SqL.of hl) (natsV_len _) (by omega) ?_ ?_
  · intro i x n H' hx hn s' Q1 Q0 k1 k0
    obtain ⟨n', hn', rfl⟩ := natsV_at hx
    rw [hn] at hn'
    cases hn'
    obtain ⟨wa', wvs, wb, hvw, hwa, hat, hwb⟩ := wishes_at (OptsA.mn.mono _ _ _ _ (Same.kt (s1.trans s')) hw00) (fitP_low n (List.mem_of_getElem? hn))
    refine ⟨rfl, ?_⟩
    exact ⟨_, rfl, _, rfl, wa', _, _, _, hvw, rfl, SqT.of hwa, hat, k1 _ (wn ws n) _ rfl ⟨wb, rfl, hwb⟩ (Same.refl _)⟩
  intro D H2 ys hD s2 hys pr2
  rw [filterMap_some (g := fun n : Nat => wn ws n) _ fun _ _ => rfl] at pr2
  have s12 := s1.trans s2
  have l2 := Paired.len pr2
  rw [List.length_map] at l2
  refine ⟨_, rfl, D, rfl, ⟨_, SqL.of hys⟩, ?_⟩
  refine lcL (R := OptA) (ds := (fitP g ws).map fun n => wn ws n) (f := fun w => if (!memS w.1 a && !memS w.2.1 b) = true then some w else none) OptA.mn (SqL.of hys) (by rw [List.length_map]; exact l2) (by rw [List.length_map]; omega) ?_ ?_
  · intro i x o H' hx ho s' Q1 Q0 k1 k0
    obtain ⟨c, rfl, hc⟩ := Paired.at' pr2 hx ho
    have hc' := s' _ _ hc
    have s3 := s12.trans s'
    refine ⟨rfl, ?_⟩
    refine ⟨_, rfl, c, _, 0, _, rfl, rfl, SqT.of hc', atI_nat (j := 0) rfl, _, rfl, A, _, rfl, .inr (SqT.of (s3 _ _ hA)), rfl, flat_strs _, _, rfl, ?_⟩
    show if (!inV (V.str o.1) (a.map V.str)) = true then _ else _
    rw [inV_memS]
    refine ite2 (fun c1 => ?_) (fun c1 => ?_)
    · refine ⟨_, rfl, c, _, 1, _, rfl, rfl, SqT.of hc', atI_nat (j := 1) rfl, _, rfl, B, _, rfl, .inr (SqT.of (s3 _ _ hB)), rfl, flat_strs _, _, rfl, ?_⟩
      show if (!inV (V.str o.2.1) (b.map V.str)) = true then _ else _
      rw [inV_memS]
      refine ite2 (fun c2 => ?_) (fun c2 => ?_)
      · exact ⟨_, rfl, k1 _ o _ (if_pos (by rw [c1, c2]; rfl)) ⟨c, rfl, hc'⟩ (Same.refl _)⟩
      · exact k0 (if_neg (by rw [(Bool.not_eq_true _).mp c2, Bool.and_false]; decide)) _ (Same.refl _)
    · refine iteF ?_
      exact k0 (if_neg (by rw [(Bool.not_eq_true _).mp c1, Bool.false_and]; decide)) _ (Same.refl _)
  · intro D2 H3 zs hD2 s3 hzs pr3
    rw [fm_guard] at pr3
    refine ⟨Nat.zero_le _, fun E0 hE => ?_⟩
    have sE := same_new hE (.lst [])
    refine eqE_to (SqL.of (sE _ _ hzs)) (dp_opts (Paired.mono OptA.mn (Same.kt sE) pr3)) upd_same (lay_opts fun o ho => ?_) (by decide) ?_
    · obtain ⟨n, hn, rfl⟩ := List.mem_map.mp (List.mem_filter.mp ho).1
      exact wok.ok _ (wn_mem (fitP_low n hn))
    · rw [List.isEmpty_map, filter_none]
      have q0 := q _ (s12.trans (s3.trans sE))
      rw [show ((fitP g ws).all fun n => memS (nmW ws n) a || memS (wn ws n).2.1 b) = !(((fitP g ws).map fun n => wn ws n).any fun w => !memS w.1 a && !memS w.2.1 b) from ?_] at q0
      · exact q0
      · rw [List.any_map, Bool.eq_iff_iff, List.all_eq_true, Bool.not_eq_true', ← Bool.not_eq_true, List.any_eq_true]
        constructor
        · rintro h ⟨n, hn, e⟩
          have h1 := h n hn
          have e : (!memS (wn ws n).1 a && !memS (wn ws n).2.1 b) = true := e
          unfold nmW at h1
          cases m1 : memS (wn ws n).1 a <;> cases m2 : memS (wn ws n).2.1 b <;> simp [m1, m2] at h1 e
        · intro h n hn
          refine Classical.byContradiction fun z => h ⟨n, hn, ?_⟩
          show (!memS (wn ws n).1 a && !memS (wn ws n).2.1 b) = true
          unfold nmW at z
          cases m1 : memS (wn ws n).1 a <;> cases m2 : memS (wn ws n).2.1 b <;> simp [m1, m2] at z ⊢

abbrev s_law_greatest : Stmt := top 63
abbrev N_law_greatest : List Str := ["grammar", "wishes", "rows", "most", "number", "row"]
theorem sc_law_greatest : FnScope N_law_greatest ["grammar", "wishes"] (defScope s_law_greatest) := ⟨rfl, rfl, rfl, by decide +kernel, rfl, by decide +kernel, by decide +kernel⟩
theorem ok_law_greatest {f : Addr} {fd : FuncData} (F : Fun K "_law_greatest" "_law_greatest" s_law_greatest f fd) (b : Binds K fd ["grammar", "wishes"] []) (m : mg "_law_greatest" = some (.ref f)) (T : Txt K mg C aK aA)
    (Dlaw_apart : DefAt P w K mg base "_law_apart" 1 ["wishes"] spApart)
    (Dlaw_fitting : DefAt P w K mg base "_law_fitting" 4 ["grammar", "wishes"] spLawFitting) :
    DefAt P w K mg base "_law_greatest" 5 ["grammar", "wishes"] spGreatest := by
  refine ⟨f, fd, F.ok sc_law_greatest (fun vs H Q E h => ?_) (fun cdv A outer s H vs Q E hr h => ?_), b, F.kp, m⟩
  · obtain ⟨v, u, g, ws, rfl, _⟩ := h
    rfl
  obtain ⟨v, u, g, ws, rfl, hg, sm, hw0, wok, w8, q⟩ := h
  have hw00 := hw0
  obtain ⟨wa, vs, rfl, hw, pr⟩ := hw0
  have nd := sc_law_greatest.nd
  have fl := fitP_len g ws
  refine ⟨_, (pss_cons (ps_par (i := 2) (j := 3) rfl nd rfl rfl (by decide) rfl rfl (pa_cons (pe_lst (pa_cons (pe_tup pa_nil) pa_nil)) (pa_cons pe_int pa_nil)) (by rfl))
    (pss_cons (ps_for PassesOwn.never rfl (pi_listK K rfl (pe_callD Dlaw_fitting (hr.mono (by decide)) rfl (pa_cons (pv 0) (pa_cons (pv 1) pa_nil)))) (pg_name (i := 4) nd rfl (Or.inr rfl))
    (pss_one (ps_set (i := 2) nd rfl (Or.inl rfl) (pe_op op_cat (pv 2) (pe_lc (own := [("row", 5)]) (g := gName 5) (tt := tYes) rfl nd (pi_listK K rfl (pv 2)) (blkOk_by (N := N_law_greatest) (sc := defScope s_law_greatest) (by decide +kernel)) (fun _ _ _ _ _ => (pg_name (i := 5) nd rfl (Or.inl rfl))) (fun _ _ _ _ _ => pts_nil) (fun _ _ _ _ _ => (pe_op (op_catAK K rfl) (pv 5) (pe_tup (pa_cons (pv 4) pa_nil)))))))))
    (pss_cons (ps_for PassesOwn.never rfl (pi_listK K rfl (pv 2)) (pg_name (i := 5) nd rfl (Or.inl rfl))
    (pss_one (ps_if (PW.pt (pw_and (pt_cmpR op_gt (pe_callB (call_lenK K rfl) (by rfl) T.n_len W31.boot_len (pa_cons (pv 5) pa_nil)) (pv 3) (nomark _)) (pw_and1 (pt_val (pe_callD Dlaw_apart (hr.mono (by decide)) rfl (pa_cons (pe_lc (own := [("number", 4)]) (g := gName 4) (tt := tYes) rfl nd (pi_tupK K rfl (pv 5)) (blkOk_by (N := N_law_greatest) (sc := defScope s_law_greatest) (by decide +kernel)) (fun _ _ _ _ _ => (pg_name (i := 4) nd rfl (Or.inl rfl))) (fun _ _ _ _ _ => pts_nil) (fun _ _ _ _ _ => (pe_ix (ix_tupK K rfl) (pv 1) (pv 4) (fun _ _ => rfl)))) pa_nil))))))
    (pss_one (ps_set (i := 3) nd rfl (Or.inl rfl) (pe_callB (call_lenK K rfl) (by rfl) T.n_len W31.boot_len (pa_cons (pv 5) pa_nil))))
    pss_nil)))
    (pss_one (ps_ret (pv 3)))))), ?_⟩
  refine ⟨Nat.zero_le _, fun t0 ht0 => ⟨by show 1 ≤ sizeLine; decide, fun r0 hr0 => ⟨_, _, rfl, ?_⟩⟩⟩
  have e0 := same_new ht0 (.tup [])
  have e1 := same_new hr0 (.lst [.ref t0])
  have s0 := e0.trans e1
  refine ⟨_, rfl, _, rfl, _, _, g, ws, rfl, GrA.mn.mono _ _ _ _ (Same.kt s0) hg, sm, OptsA.mn.mono _ _ _ _ (Same.kt s0) hw00, wok, fun l H1 s1 hl0 hl => ?_⟩
  have s01 := s0.trans s1
  refine ⟨l, rfl, ⟨_, SqL.of hl⟩, ?_⟩
  have rlen : ∀ i, (rowsP ((fitP g ws).take i)).length ≤ 256 := fun i => by
    rw [rowsP_len]
    have := (List.take_sublist i (fitP g ws)).length_le
    exact Nat.le_trans (Nat.pow_le_pow_right (by decide) (show _ ≤ 8 by omega)) (by decide)
  have rrow : ∀ i, ∀ r ∈ rowsP ((fitP g ws).take i), r.length ≤ 8 := fun i r hr => by
    have := (rowsP_sub _ r hr).length_le
    have := (List.take_sublist i (fitP g ws)).length_le
    omega
  refine for_it (walk_list (xs := natsV (fitP g ws))) (fun i σ H' => ∃ (ra : Addr) (us : List V) (o4 o5 : Option V), σ = [some v, some (.ref wa), some (.ref ra), some (.int 0), o4, o5] ∧ Same H1 H' ∧ H' ra = some (.lst us) ∧ Paired (RowA H') us (rowsP ((fitP g ws).take i)))
    ⟨r0, [.ref t0], none, none, rfl, Same.refl _, s1 _ _ upd_same, .cons ⟨t0, rfl, s1 _ _ (e1 _ _ upd_same)⟩ .nil⟩ (fun i σ H' hi ⟨_, _, _, _, _, s, _⟩ => SqL.of (s _ _ hl)) ?_ ?_
  · rintro i x σ H3 H2 hi ⟨ra, us, o4, o5, rfl, s2, hr, prr⟩ ⟨rfl, hx⟩
    obtain ⟨n, hn, rfl⟩ := natsV_at hx
    have tk1 : (fitP g ws).take (i + 1) = (fitP g ws).take i ++ [n] := by rw [List.take_add_one, hn]; rfl
    have lu := Paired.len prr
    have r256 := rlen i
    refine ⟨_, rfl, _, rfl, ra, rfl, ⟨_, SqL.of hr⟩, ?_⟩
    refine lcL (R := RowA) (ds := rowsP ((fitP g ws).take i)) (f := fun r => some (r ++ [n])) RowA.mn (SqL.of hr) lu (by omega) ?_ ?_
    · intro j y r H' hy hrj s' Q1 Q0 k1 k0
      obtain ⟨c, rfl, hc⟩ := Paired.at' prr hy hrj
      have hc' := s' _ _ hc
      have r8 := rrow i r (List.mem_of_getElem? hrj)
      refine ⟨rfl, ?_⟩
      refine ⟨_, rfl, _, rfl, by show 1 ≤ sizeLine; decide, fun t ht => ?_⟩
      have et := same_new ht (.tup [.int (n : Nat)])
      refine catA_to (et _ _ hc') upd_same (by rw [natsV_len]; show r.length + 1 ≤ 1000; omega) fun d H5 s5 hd => ?_
      refine k1 _ (r ++ [n]) _ rfl ⟨d, rfl, ?_⟩ (et.trans s5)
      rw [hd]
      unfold natsV
      rw [List.map_append]
      rfl
    · intro D H4 ys hD s4 hys pr4
      rw [filterMap_some (g := fun r : List Nat => r ++ [n]) _ fun _ _ => rfl] at pr4
      have l4 := Paired.len pr4
      rw [List.length_map] at l4
      refine ⟨ra, D, us, ys, rfl, rfl, s4 _ _ hr, hys, by rw [sizeLine_eq]; omega, fun p hp => ?_⟩
      have ep := same_new hp (.lst (us ++ ys))
      refine ⟨p, us ++ ys, _, _, rfl, s2.trans (s4.trans ep), upd_same, ?_⟩
      rw [tk1, rowsP_snoc]
      exact Paired.app (Paired.mono RowA.mn (Same.kt (s4.trans ep)) prr) (Paired.mono RowA.mn (Same.kt ep) pr4)
  · rintro σ H2 ⟨ra, us, o4, o5, rfl, s2, hr, prr⟩
    rw [natsV_len] at prr
    have rl := rlen (fitP g ws).length
    have rr := rrow (fitP g ws).length
    rw [List.take_length] at prr rl rr
    have lu := Paired.len prr
    have s12 := s01.trans s2
    refine ⟨_, rfl, ra, rfl, ⟨_, SqL.of hr⟩, ?_⟩
    refine for_it (walk_list (xs := us)) (fun i σ H' => ∃ (o4 o5 : Option V), σ = [some v, some (.ref wa), some (.ref ra), some (.int (((rowsP (fitP g ws)).take i).foldl (bestF ws) 0 : Nat)), o4, o5] ∧ Same H2 H')
      ⟨o4, o5, rfl, Same.refl _⟩ (fun i σ H' hi ⟨_, _, _, s⟩ => SqL.of (s _ _ hr)) ?_ ?_
    · rintro i x σ H4 H3 hi ⟨p4, p5, rfl, s3⟩ ⟨rfl, hx⟩
      obtain ⟨r, hrr, ⟨c, rfl, hc⟩⟩ := Paired.snd prr hx
      have rin : r ∈ rowsP (fitP g ws) := List.mem_of_getElem? hrr
      have r8 := rr r rin
      have hc3 := s3 _ _ hc
      have s13 := s12.trans s3
      have tk1 : (rowsP (fitP g ws)).take (i + 1) = (rowsP (fitP g ws)).take i ++ [r] := by rw [List.take_add_one, hrr]; rfl
      have go : ∀ (H5 : Hp) (m : Nat) (p4 p5 : Option V), Same H2 H5 → m = bestF ws (((rowsP (fitP g ws)).take i).foldl (bestF ws) 0) r → ∃ (o4 o5 : Option V), ([some v, some (.ref wa), some (.ref ra), some (.int (m : Nat)), p4, p5] : L2.St) = [some v, some (.ref wa), some (.ref ra), some (.int (((rowsP (fitP g ws)).take (i + 1)).foldl (bestF ws) 0 : Nat)), o4, o5] ∧ Same H2 H5 := fun H5 m p4 p5 s e => by
        refine ⟨p4, p5, ?_, s⟩
        rw [tk1, List.foldl_append, e]
        rfl
      refine ⟨_, rfl, c, _, rfl, .inr (SqT.of hc3), _, rfl, _, _, rfl, rfl, _, rfl, ?_⟩
      rw [natsV_len]
      refine ite2 (fun c1 => ?_) (fun c1 => iteF (go H3 _ _ _ s3 ?_))
      · have lt : ((rowsP (fitP g ws)).take i).foldl (bestF ws) 0 < r.length := by have := of_decide_eq_true c1; omega
        refine ⟨_, rfl, c, rfl, ⟨_, SqT.of hc3⟩, ?_⟩
        refine lcT (R := OptA) (ds := r) (f := fun n => some (wn ws n)) OptA.mn (SqT.of hc3) (natsV_len _) (by omega) ?_ ?_
        · intro j y n H' hy hn s' Q1 Q0 k1 k0
          obtain ⟨n', hn', rfl⟩ := natsV_at hy
          rw [hn] at hn'
          cases hn'
          have nin : n ∈ fitP g ws := (rowsP_sub _ r rin).subset (List.mem_of_getElem? hn)
          obtain ⟨wa', wvs, wb, hvw, hwa, hat, hwb⟩ := wishes_at (OptsA.mn.mono _ _ _ _ (Same.kt (s13.trans s')) hw00) (fitP_low n nin)
          refine ⟨rfl, ?_⟩
          exact ⟨_, rfl, _, rfl, wa', _, _, _, hvw, rfl, SqT.of hwa, hat, k1 _ (wn ws n) _ rfl ⟨wb, rfl, hwb⟩ (Same.refl _)⟩
        · intro D H5 ys hD s5 hys pr5
          rw [filterMap_some (g := fun n : Nat => wn ws n) _ fun _ _ => rfl] at pr5
          refine ⟨D, ys, r.map fun n => wn ws n, rfl, hys, pr5, by rw [List.length_map]; omega, fun H6 s6 => ?_⟩
          have s7 := s3.trans (s5.trans s6)
          refine ⟨_, rfl, ?_⟩
          refine ite2 (fun c2 => ?_) (fun c2 => ?_)
          · refine ⟨_, rfl, c, _, rfl, .inr (SqT.of (s7 _ _ hc)), ?_⟩
            rw [natsV_len]
            refine go H6 r.length _ _ s7 ?_
            unfold bestF
            rw [if_pos ⟨lt, c2⟩]
          · refine go H6 _ _ _ s7 ?_
            unfold bestF
            rw [if_neg fun z => c2 z.2]
      · refine (if_neg fun z => c1 (decide_eq_true ?_)).symm
        have := z.1
        omega
    · rintro σ H3 ⟨p4, p5, rfl, s3⟩
      rw [lu, List.take_length]
      exact ⟨_, rfl, q _ (s12.trans s3)⟩
end
end W31

set_option maxHeartbeats 4000000
/-! _law_right. -/
namespace W31
open PySem PySem.Spec PyProof.Rows L2
theorem neI_to {K : PySem.W.Frag} {H : Hp} {a b : Addr} {xs ys : List Int} {Q : VK} (ha : SqL K H a (xs.map V.int)) (hb : SqL K H b (ys.map V.int)) (q : Q (.bl (!decide (xs = ys))) H) : rNeD K (.ref a) (.ref b) H Q :=
  ⟨.list (intsD xs), .list (intsD ys), .lst ha (dp_ints xs), .lst hb (dp_ints ys), (lay_list lay_ints).shaped (by decide), (lay_list lay_ints).shaped (by decide), by rw [PyData.eqv, eqvAll_ints]; exact q⟩
theorem ne2_to {K : PySem.W.Frag} {H : Hp} {p q' a b c d : Addr} {xs ys zs us : List Str} {Q : VK} (hp : H p = some (.lst [.ref a, .ref b])) (hq : H q' = some (.lst [.ref c, .ref d])) (ha : H a = some (.lst (xs.map V.str))) (hb : H b = some (.lst (ys.map V.str))) (hc : H c = some (.lst (zs.map V.str))) (hd : H d = some (.lst (us.map V.str)))
    (h1 : ∀ x ∈ xs, Asc x) (h2 : ∀ x ∈ ys, Asc x) (h3 : ∀ x ∈ zs, Asc x) (h4 : ∀ x ∈ us, Asc x) (q : Q (.bl (!(decide (xs = zs) && decide (ys = us)))) H) : rNeD K (.ref p) (.ref q') H Q := by
  have lay : ∀ {l l2 : List Str}, (∀ x ∈ l, Asc x) → (∀ x ∈ l2, Asc x) → Lay (.list [.list (strsD l), .list (strsD l2)]) 2 := fun g1 g2 => lay_list fun d hd => by
    rcases List.mem_cons.mp hd with rfl | hd
    · exact lay_list (lay_strs g1)
    · rw [List.mem_singleton.mp hd]; exact lay_list (lay_strs g2)
  refine ⟨.list [.list (strsD xs), .list (strsD ys)], .list [.list (strsD zs), .list (strsD us)], .lst (SqL.of hp) (.cons (.lst (SqL.of ha) (dp_strs xs)) (.cons (.lst (SqL.of hb) (dp_strs ys)) .nil)), .lst (SqL.of hq) (.cons (.lst (SqL.of hc) (dp_strs zs)) (.cons (.lst (SqL.of hd) (dp_strs us)) .nil)), (lay h1 h2).shaped (by decide), (lay h3 h4).shaped (by decide), ?_⟩
  simp only [PyData.eqv, PyData.eqvAll, eqvAll_strs, Bool.and_true]
  exact q
theorem inV_nat {n : Nat} {l : List Nat} (h : n ∈ l) : inV (.int (n : Nat)) (natsV l) = true := by
  unfold inV natsV
  rw [List.any_map, List.any_eq_true]
  exact ⟨n, h, by show ((n : Int) == (n : Int)) = true; exact beq_self_eq_true _⟩
theorem kv_ints (l : List Int) : ((l.map Sum.inl : List Key)).map kV = l.map V.int := by rw [List.map_map]; rfl
theorem kv_strs (l : List Str) : ((l.map Sum.inr : List Key)).map kV = l.map V.str := by rw [List.map_map]; rfl
theorem flat_nats (l : List Nat) : (natsV l).all flatV = true := by
  unfold natsV
  rw [List.all_map]
  exact List.all_eq_true.mpr fun _ _ => rfl
def spRight : Sp := fun vs H Q _ => ∃ (v u : V) (g : Gr) (ws : List Opt), vs = [v, u] ∧ GrA H v g ∧ GrGd g ∧ OptsA H u ws ∧ WsOk ws ∧ ∀ H', Same H H' → Dual ws (fitP g ws) → Q (.int ((tkW ws (fitP g ws)).length : Nat)) H'
section
variable {P : Program} {w : World} {K : PySem.W.Frag} {mg : Str → Option Value} {base : Heap} {C aK aA : Addr}
abbrev s_law_right : Stmt := top 62
abbrev N_law_right : List Str := ["grammar", "wishes", "chosen", "covering", "alone", "names", "letters", "number"]
theorem sc_law_right : FnScope N_law_right ["grammar", "wishes"] (defScope s_law_right) := ⟨rfl, rfl, rfl, by decide +kernel, rfl, by decide +kernel, by decide +kernel⟩
theorem ok_law_right {f : Addr} {fd : FuncData} (F : Fun K "_law_right" "_law_right" s_law_right f fd) (b : Binds K fd ["grammar", "wishes"] []) (m : mg "_law_right" = some (.ref f)) (T : Txt K mg C aK aA)
    (Dchoice : DefAt P w K mg base "choice" 20 ["grammar", "wishes"] spChoice)
    (Dcover : DefAt P w K mg base "cover" 20 ["grammar", "wishes"] spCover)
    (Dlaw_apart : DefAt P w K mg base "_law_apart" 1 ["wishes"] spApart)
    (Dlaw_covers : DefAt P w K mg base "_law_covers" 5 ["grammar", "wishes", "names", "letters"] spCovers)
    (Dlaw_fitting : DefAt P w K mg base "_law_fitting" 4 ["grammar", "wishes"] spLawFitting) :
    DefAt P w K mg base "_law_right" 21 ["grammar", "wishes"] spRight := by
  refine ⟨f, fd, F.ok sc_law_right (fun vs H Q E h => ?_) (fun cdv A outer s H vs Q E hr h => ?_), b, F.kp, m⟩
  · obtain ⟨v, u, g, ws, rfl, _⟩ := h
    rfl
  obtain ⟨v, u, g, ws, rfl, hg, gd, hw, wok, q⟩ := h
  have nd := sc_law_right.nd
  have k := fitP_lok (g := g) wok
  have few := k.few
  obtain ⟨tko, inj⟩ := tk_ok (ws := ws) few
  have tl := tko.len
  refine ⟨_, (pss_cons (ps_par (i := 2) (j := 3) rfl nd rfl rfl (by decide) rfl rfl (pa_cons (pe_callD Dchoice (hr.mono (by decide)) rfl (pa_cons (pv 0) (pa_cons (pv 1) pa_nil))) (pa_cons (pe_callD Dcover (hr.mono (by decide)) rfl (pa_cons (pv 0) (pa_cons (pv 1) pa_nil))) pa_nil)) (by rfl))
    (pss_cons (ps_if (PW.pt (pw_or (pt_not (pt_val (pe_callB (call_isK K rfl) (by rfl) T.n_isinstance W31.boot_isinstance (pa_cons (pv 2) (pa_cons (pe_bltn (v := .ty "tuple") (by rfl) T.n_tuple W31.boot_tuple rfl) pa_nil))))) (pw_or1 (pt_cmpR (op_neDK K rfl hr.units) (pe_callTy (call_listK K rfl) (by rfl) T.n_list W31.boot_list (pa_cons (pv 2) pa_nil)) (pe_callB (cr_sortMI rfl) (by rfl) T.n_sorted W31.boot_sorted (pa_cons (pe_callTy (cr_setM rfl) (by rfl) T.n_set W31.boot_set (pa_cons (pv 2) pa_nil)) pa_nil)) (nomark _)))))
    (pss_one (ps_ret (pe_un un_neg pe_int)))
    pss_nil)
    (pss_cons (ps_set (i := 4) nd rfl (Or.inr rfl) (pe_callD Dlaw_fitting (hr.mono (by decide)) rfl (pa_cons (pv 0) (pa_cons (pv 1) pa_nil))))
    (pss_cons (ps_if (pt_cmpR (op_neDK K rfl hr.units) (pe_lc (own := [("number", 7)]) (g := gName 7) rfl nd (pi_tupK K rfl (pv 2)) (blkOk_by (N := N_law_right) (sc := defScope s_law_right) (by decide +kernel)) (fun _ _ _ _ _ => (pg_name (i := 7) nd rfl (Or.inl rfl))) (fun _ _ _ _ _ => (pts_one (pt_cmpR (op_notInK K rfl) (pv 7) (pv 4) (by rfl)))) (fun _ _ _ _ _ => (pv 7))) (pe_lst pa_nil) (nomark _))
    (pss_one (ps_ret (pe_un un_neg pe_int)))
    pss_nil)
    (pss_cons (ps_if (PW.pt (pw_or (pt_not (pt_val (pe_callD Dlaw_apart (hr.mono (by decide)) rfl (pa_cons (pe_lc (own := [("number", 7)]) (g := gName 7) (tt := tYes) rfl nd (pi_tupK K rfl (pv 2)) (blkOk_by (N := N_law_right) (sc := defScope s_law_right) (by decide +kernel)) (fun _ _ _ _ _ => (pg_name (i := 7) nd rfl (Or.inl rfl))) (fun _ _ _ _ _ => pts_nil) (fun _ _ _ _ _ => (pe_ix (ix_tupK K rfl) (pv 1) (pv 7) (fun _ _ => rfl)))) pa_nil)))) (pw_or (pt_not (pt_val (pe_callB (call_isK K rfl) (by rfl) T.n_isinstance W31.boot_isinstance (pa_cons (pv 3) (pa_cons (pe_bltn (v := .ty "tuple") (by rfl) T.n_tuple W31.boot_tuple rfl) pa_nil))))) (pw_or1 (pt_cmpR op_ne (pe_callB (call_lenK K rfl) (by rfl) T.n_len W31.boot_len (pa_cons (pv 3) pa_nil)) pe_int (nomark _))))))
    (pss_one (ps_ret (pe_un un_neg pe_int)))
    pss_nil)
    (pss_cons (ps_asg (pv 3) (pg_tupK (n := 2) K rfl rfl (pgs_cons (pg_name (i := 5) nd rfl (Or.inl rfl)) (pgs_cons (pg_name (i := 6) nd rfl (Or.inl rfl)) pgs_nil))))
    (pss_cons (ps_if (PW.pt (pw_or (pt_not (pt_val (pe_callB (call_isK K rfl) (by rfl) T.n_isinstance W31.boot_isinstance (pa_cons (pv 5) (pa_cons (pe_bltn (v := .ty "tuple") (by rfl) T.n_tuple W31.boot_tuple rfl) pa_nil))))) (pw_or1 (pt_not (pt_val (pe_callB (call_isK K rfl) (by rfl) T.n_isinstance W31.boot_isinstance (pa_cons (pv 6) (pa_cons (pe_bltn (v := .ty "tuple") (by rfl) T.n_tuple W31.boot_tuple rfl) pa_nil))))))))
    (pss_one (ps_ret (pe_un un_neg pe_int)))
    pss_nil)
    (pss_cons (ps_if (PW.pt (pw_or (pt_cmpR (op_neDK K rfl hr.units) (pe_lst (pa_cons (pe_callTy (call_listK K rfl) (by rfl) T.n_list W31.boot_list (pa_cons (pv 5) pa_nil)) (pa_cons (pe_callTy (call_listK K rfl) (by rfl) T.n_list W31.boot_list (pa_cons (pv 6) pa_nil)) pa_nil))) (pe_lst (pa_cons (pe_callB (cr_sortMS rfl) (by rfl) T.n_sorted W31.boot_sorted (pa_cons (pe_callTy (cr_setM rfl) (by rfl) T.n_set W31.boot_set (pa_cons (pv 5) pa_nil)) pa_nil)) (pa_cons (pe_callB (cr_sortMS rfl) (by rfl) T.n_sorted W31.boot_sorted (pa_cons (pe_callTy (cr_setM rfl) (by rfl) T.n_set W31.boot_set (pa_cons (pv 6) pa_nil)) pa_nil)) pa_nil))) (nomark _)) (pw_or1 (pt_cmpR (op_inK K rfl) pe_str (pv 6) (by rfl)))))
    (pss_one (ps_ret (pe_un un_neg pe_int)))
    pss_nil)
    (pss_cons (ps_if (PW.pt (pw_or (pt_not (pt_val (pe_callD Dlaw_covers (hr.mono (by decide)) rfl (pa_cons (pv 0) (pa_cons (pv 1) (pa_cons (pv 5) (pa_cons (pv 6) pa_nil))))))) (pw_or1 (pt_cmpR op_ne (pe_op op_add (pe_callB (call_lenK K rfl) (by rfl) T.n_len W31.boot_len (pa_cons (pv 5) pa_nil)) (pe_callB (call_lenK K rfl) (by rfl) T.n_len W31.boot_len (pa_cons (pv 6) pa_nil))) (pe_callB (call_lenK K rfl) (by rfl) T.n_len W31.boot_len (pa_cons (pv 2) pa_nil)) (nomark _)))))
    (pss_one (ps_ret (pe_un un_neg pe_int)))
    pss_nil)
    (pss_one (ps_ret (pe_callB (call_lenK K rfl) (by rfl) T.n_len W31.boot_len (pa_cons (pv 2) pa_nil))))))))))))), ?_⟩
  refine ⟨_, rfl, _, rfl, v, u, g, ws, rfl, hg, gd, hw, wok, fun r H1 c s1 hr1 hc => ⟨_, rfl, _, rfl, v, u, g, ws, rfl, GrA.mn.mono _ _ _ _ (Same.kt s1) hg, gd, OptsA.mn.mono _ _ _ _ (Same.kt s1) hw, wok, fun r2 A B H2 a b s2 hr2 hA hB hcov => ⟨_, _, rfl, ?_⟩⟩⟩
  obtain ⟨cn, rfl, cperm⟩ := hc.nat
  have good := hcov.good k
  have cnd : cn.Nodup := cperm.nodup_iff.mpr (vals_nd tko inj)
  have clen : cn.length = (tkW ws (fitP g ws)).length := by rw [cperm.length_eq, List.length_map]
  have cin : ∀ n ∈ cn, n ∈ fitP g ws := fun n hn => by
    obtain ⟨e, he, rfl⟩ := List.mem_map.mp (cperm.mem_iff.mp hn)
    exact (tko.all e he).1
  have cfar : ∀ n ∈ cn, ∀ m ∈ cn, n ≠ m → Far ws n m := fun n hn m hm ne => vals_far tko inj n (cperm.mem_iff.mp hn) m (cperm.mem_iff.mp hm) ne
  have ccnd : (cn.map fun n : Nat => (n : Int)).Nodup := nd_map cnd fun x _ y _ e => Int.ofNat.inj e
  have s12 := s1.trans s2
  have hr12 := s2 _ _ hr1
  have c16 : cn.length ≤ 16 := by omega
  refine ⟨_, rfl, _, _, _, _, true, rfl, .ty "tuple", .base (.tup hr12), kit_ty (by decide +kernel), true, rfl, iteF ?_⟩
  refine ⟨_, rfl, r, _, rfl, .inr (SqT.of hr12), fun l1 hl1 => ?_⟩
  have e1 := same_new hl1 (.lst ((cn.map fun n : Nat => (n : Int)).map V.int))
  refine ⟨_, rfl, r, (cn.map fun n : Nat => (n : Int)).map Sum.inl, rfl, .inr (by rw [kv_ints]; exact SqT.of (e1 _ _ hr12)), by rw [List.length_map, List.length_map]; omega, fun S n hS hn => ?_⟩
  have eS := same_new hS (SetMO w S ((cn.map fun n : Nat => (n : Int)).map Sum.inl) n)
  rw [List.length_map, List.length_map] at hn
  refine ⟨S, _, n, rfl, upd_same, by omega, fun ms p hpw hpnd hpm hp => ?_⟩
  have ep := same_new hp (.lst (ms.map V.int))
  have em : (cn.map fun n : Nat => (n : Int)) = ms := ints_unique hc.inc hpw ccnd hpnd fun x => (hpm x).symm
  refine neI_to (SqL.of (ep _ _ (eS _ _ upd_same))) (SqL.of upd_same) ?_
  rw [decide_eq_true em]
  refine ⟨_, rfl, iteF ?_⟩
  have s3 := s12.trans (e1.trans (eS.trans ep))
  have s23 := e1.trans (eS.trans ep)
  refine ⟨_, rfl, _, rfl, v, u, g, ws, rfl, GrA.mn.mono _ _ _ _ (Same.kt s3) hg, gd.sm, OptsA.mn.mono _ _ _ _ (Same.kt s3) hw, wok, fun l H4 s4 hl0 hl => ?_⟩
  have s24 := s23.trans s4
  have s14 := s3.trans s4
  have hr4 := s24 _ _ hr12
  have hT4 : H4 r = some (.tup (natsV cn)) := by
    have := hr4
    unfold natsV
    rw [List.map_map] at this
    exact this
  refine ⟨_, rfl, r, rfl, ⟨_, SqT.of hT4⟩, ?_⟩
  refine lcT (R := IntA) (ds := cn) (f := fun _ => none) IntA.mn (SqT.of hT4) (natsV_len _) (by omega) ?_ ?_
  · intro i x n H' hx hn s' Q1 Q0 k1 k0
    obtain ⟨n', hn', rfl⟩ := natsV_at hx
    rw [hn] at hn'
    cases hn'
    refine ⟨rfl, ?_⟩
    refine ⟨_, rfl, _, rfl, l, _, rfl, .inl (SqL.of (s' _ _ hl)), rfl, flat_nats _, _, rfl, ?_⟩
    show if (!inV (V.int (n : Nat)) (natsV (fitP g ws))) = true then _ else _
    rw [inV_nat (cin n (List.mem_of_getElem? hn))]
    refine iteF ?_
    exact k0 rfl _ (Same.refl _)
  intro D5 H5 ys5 hD5 s5 hys5 pr5
  have e5 : ys5 = [] := List.eq_nil_of_length_eq_zero (by rw [Paired.len pr5]; rw [List.filterMap_eq_nil_iff.mpr fun _ _ => rfl]; rfl)
  subst e5
  refine ⟨Nat.zero_le _, fun E0 hE => ?_⟩
  have sE := same_new hE (.lst [])
  refine neE_to (n := 0) (ds := []) (SqL.of (sE _ _ hys5)) .nil upd_same (fun d hd => by cases hd) (by decide) ?_
  refine ⟨_, rfl, iteF ?_⟩
  have s45 := s5.trans sE
  have s15 := s14.trans s45
  have s25 := s24.trans s45
  have hT5 := s45 _ _ hT4
  refine ⟨_, rfl, r, rfl, ⟨_, SqT.of hT5⟩, ?_⟩
  refine lcT (R := OptA) (ds := cn) (f := fun n => some (wn ws n)) OptA.mn (SqT.of hT5) (natsV_len _) (by omega) ?_ ?_
  · intro i x n H' hx hn s' Q1 Q0 k1 k0
    obtain ⟨n', hn', rfl⟩ := natsV_at hx
    rw [hn] at hn'
    cases hn'
    obtain ⟨wa', wvs, wb, hvw, hwa, hat, hwb⟩ := wishes_at (OptsA.mn.mono _ _ _ _ (Same.kt (s15.trans s')) hw) (fitP_low n (cin n (List.mem_of_getElem? hn)))
    refine ⟨rfl, ?_⟩
    exact ⟨_, rfl, _, rfl, wa', _, _, _, hvw, rfl, SqT.of hwa, hat, k1 _ (wn ws n) _ rfl ⟨wb, rfl, hwb⟩ (Same.refl _)⟩
  intro D6 H6 ys6 hD6 s6 hys6 pr6
  rw [filterMap_some (g := fun n : Nat => wn ws n) _ fun _ _ => rfl] at pr6
  refine ⟨D6, ys6, cn.map fun n => wn ws n, rfl, hys6, pr6, by rw [List.length_map]; omega, fun H7 s7 => ?_⟩
  have s27 := s25.trans (s6.trans s7)
  have s17 := s15.trans (s6.trans s7)
  rw [show apartB (cn.map fun n => wn ws n) = true from far_apart cnd cfar]
  refine ⟨_, rfl, iteF ?_⟩
  have hr27 := s27 _ _ hr2
  have hA7 := s27 _ _ hA
  have hB7 := s27 _ _ hB
  refine ⟨_, rfl, _, _, _, _, true, rfl, .ty "tuple", .base (.tup hr27), kit_ty (by decide +kernel), true, rfl, iteF ?_⟩
  refine ⟨_, rfl, r2, _, rfl, .inr (SqT.of hr27), rfl, _, rfl, iteF ?_⟩
  refine ⟨_, rfl, r2, _, rfl, SqT.of hr27, rfl, _, _, rfl, _, _, rfl, rfl, ?_⟩
  refine ⟨_, rfl, _, _, _, _, true, rfl, .ty "tuple", .base (.tup hA7), kit_ty (by decide +kernel), true, rfl, iteF ?_⟩
  refine ⟨_, rfl, _, _, _, _, true, rfl, .ty "tuple", .base (.tup hB7), kit_ty (by decide +kernel), true, rfl, iteF ?_⟩
  have count := good.count
  have la : a.length ≤ 16 := by omega
  have lb : b.length ≤ 16 := by omega
  have ascA : ∀ x ∈ a, Asc x := fun x hx => by
    obtain ⟨n, hn, rfl⟩ := good.inA x hx
    exact (wok.ok _ (wn_mem (fitP_low n hn))).name.asc
  have ascB : ∀ x ∈ b, Asc x := fun x hx => by
    obtain ⟨n, hn, _, rfl⟩ := good.inB x hx
    exact (wok.ok _ (wn_mem (fitP_low n hn))).letter.asc
  refine ⟨_, rfl, A, _, rfl, .inr (SqT.of hA7), fun l1 hl1 => ?_⟩
  have f1 := same_new hl1 (.lst (a.map V.str))
  refine ⟨_, rfl, B, _, rfl, .inr (SqT.of (f1 _ _ hB7)), fun l2 hl2 => ?_⟩
  have f2 := same_new hl2 (.lst (b.map V.str))
  refine ⟨by show 2 ≤ sizeLine; decide, fun P1 hP1 => ?_⟩
  have f3 := same_new hP1 (.lst [.ref l1, .ref l2])
  have g3 := f1.trans (f2.trans f3)
  refine ⟨_, rfl, A, a.map Sum.inr, rfl, .inr (by rw [kv_strs]; exact SqT.of (g3 _ _ hA7)), by rw [List.length_map]; omega, fun S1 n1 hS1 hn1 => ?_⟩
  have f4 := same_new hS1 (SetMO w S1 (a.map Sum.inr) n1)
  rw [List.length_map] at hn1
  refine ⟨S1, a, n1, rfl, upd_same, by omega, fun ma p1 hia hna hma hp1 => ?_⟩
  have f5 := same_new hp1 (.lst (ma.map V.str))
  have ea : a = ma := strs_unique good.incA hia good.ndA hna fun x => (hma x).symm
  have g5 := g3.trans (f4.trans f5)
  refine ⟨_, rfl, B, b.map Sum.inr, rfl, .inr (by rw [kv_strs]; exact SqT.of (g5 _ _ hB7)), by rw [List.length_map]; omega, fun S2 n2 hS2 hn2 => ?_⟩
  have f6 := same_new hS2 (SetMO w S2 (b.map Sum.inr) n2)
  rw [List.length_map] at hn2
  refine ⟨S2, b, n2, rfl, upd_same, by omega, fun mb p2 hib hnb hmb hp2 => ?_⟩
  have f7 := same_new hp2 (.lst (mb.map V.str))
  have eb : b = mb := strs_unique good.incB hib good.ndB hnb fun x => (hmb x).symm
  refine ⟨by show 2 ≤ sizeLine; decide, fun P2 hP2 => ?_⟩
  have f8 := same_new hP2 (.lst [.ref p1, .ref p2])
  have f48 := f4.trans (f5.trans (f6.trans (f7.trans f8)))
  refine ne2_to (xs := a) (ys := b) (zs := ma) (us := mb) (f48 _ _ upd_same) upd_same (f48 _ _ (f3 _ _ (f2 _ _ upd_same))) (f48 _ _ (f3 _ _ upd_same)) (f8 _ _ (f7 _ _ (f6 _ _ upd_same))) (f8 _ _ upd_same) ascA ascB (ea ▸ ascA) (eb ▸ ascB) ?_
  rw [decide_eq_true ea, decide_eq_true eb]
  refine ⟨_, rfl, iteF ?_⟩
  have g8 := g3.trans f48
  have s18 := s17.trans g8
  have s28 := s27.trans g8
  have hA8 := s28 _ _ hA
  have hB8 := s28 _ _ hB
  refine ⟨_, rfl, B, _, rfl, .inr (SqT.of hB8), rfl, flat_strs _, _, rfl, ?_⟩
  show if inV (V.str "") (b.map V.str) = true then _ else _
  rw [inV_memS, show memS "" b = false from memS_false.mpr fun z => by obtain ⟨n, _, h1, h2⟩ := good.inB _ z; exact h1 h2.symm]
  refine iteF ?_
  refine ⟨_, rfl, _, rfl, _, rfl, _, rfl, v, u, A, B, g, ws, a, b, rfl, GrA.mn.mono _ _ _ _ (Same.kt s18) hg, gd.sm, OptsA.mn.mono _ _ _ _ (Same.kt s18) hw, wok, hA8, hB8, fun H9 s9 => ?_⟩
  have s29 := s28.trans s9
  rw [show ((fitP g ws).all fun n => memS (nmW ws n) a || memS (wn ws n).2.1 b) = true from List.all_eq_true.mpr fun n hn => by
    rw [Bool.or_eq_true, memS_iff, memS_iff]
    exact good.cov n hn]
  refine ⟨_, rfl, iteF ?_⟩
  have hr9 : H9 r = some (.tup (natsV cn)) := by
    have := s29 _ _ hr12
    unfold natsV
    rw [List.map_map] at this
    exact this
  refine ⟨_, rfl, A, _, rfl, .inr (SqT.of (s29 _ _ hA)), _, rfl, B, _, rfl, .inr (SqT.of (s29 _ _ hB)), _, _, rfl, rfl, _, rfl, r, _, rfl, .inr (SqT.of hr9), rfl, _, rfl, ?_⟩
  rw [natsV_len, List.length_map, List.length_map]
  rw [decide_eq_true (show V.int ((a.length : Int) + (b.length : Int)) = V.int (cn.length : Int) from congrArg V.int (by omega))]
  refine iteF ?_
  refine ⟨_, rfl, r, _, rfl, .inr (SqT.of hr9), ?_⟩
  have q0 := q H9 (s18.trans s9) good.dual
  rw [natsV_len, clen]
  exact q0
end
end W31

set_option maxHeartbeats 4000000
/-! law. -/
namespace W31
open PySem PySem.Spec PyProof.Rows L2
theorem cutV_whole {xs : List V} {lo hi : Option Int} (h : HT.sIx xs.length 0 lo = 0 ∧ HT.sIx xs.length xs.length hi = xs.length) : cutV xs lo hi = xs := by
  unfold cutV
  rw [h.1, h.2, List.drop_zero, Nat.sub_zero, List.take_length]
theorem cutV_drop (xs : List V) (k : Nat) : cutV xs (some (k : Int)) none = xs.drop k := by
  unfold cutV
  rw [HT.sIx_none, HT.sIx_nat]
  by_cases h : k ≤ xs.length
  · rw [Nat.min_eq_left h, List.take_of_length_le (by rw [List.length_drop]; exact Nat.le_refl _)]
  · rw [Nat.min_eq_right (by omega), List.drop_length, List.drop_eq_nil_of_le (by omega), List.take_nil]
theorem noPart_to {σ : L2.St} {H : Hp} {Q : Option Int → Hp → Prop} (h : Q none H) : tNoPart σ H Q := h
theorem slA_to {K : PySem.W.Frag} {H : Hp} {a : Addr} {xs : List V} {lo hi : Option Int} {Q : VK} (ha : H a = some (.tup xs)) (k : ∀ c H', Same H H' → H' c = some (.tup (cutV xs lo hi)) → Q (.ref c) H') : rSlA K (.ref a) lo hi H Q :=
  ⟨a, xs, rfl, SqT.of ha, fun h => k a H (Same.refl _) (by rw [cutV_whole h]; exact ha), fun _ p hp => k p _ (same_new hp _) upd_same⟩
def spLaw (K : PySem.W.Frag) : Sp := fun vs H Q _ => ∃ (l : Addr) (ns : List Int), vs = [.ref l] ∧ SqL K H l (ns.map V.int) ∧ ns.length ≤ 63 ∧ ∀ H', Q (.bl true) H'
theorem size_eq {g : Gr} {ws ws' : List Opt} (f1 : ws.length ≤ 16) (f2 : ws'.length ≤ 16) (h : ∀ w, w ∈ ws ↔ w ∈ ws') (d1 : Dual ws (fitP g ws)) (d2 : Dual ws' (fitP g ws')) : (tkW ws (fitP g ws)).length = (tkW ws' (fitP g ws')).length :=
  Nat.le_antisymm (size_le f1 (fun w hw => (h w).mp hw) d2) (size_le f2 (fun w hw => (h w).mpr hw) d1)
def g0 : Gr := ⟨[], [], true, true, true⟩
theorem g0_ok : GrGd g0 := ⟨⟨⟨(fun o ho => by cases ho), (fun o ho => by cases ho), Nat.zero_le _, trivial⟩, Nat.zero_le _⟩, rfl⟩
theorem tk0 : (tkW [] (fitP g0 [])).length = 0 := Nat.le_zero.mp (Nat.le_trans (tkW_ok [] (fitP g0 []) _).len (fitP_len g0 []))
theorem ch0 {c : List Int} (h : ChOk [] (fitP g0 []) c) : c = [] := List.eq_nil_of_length_eq_zero (by rw [h.perm.length_eq, List.length_map, tk0])
theorem cov0 {a b : List Str} (h : CovOk [] (fitP g0 []) a b) : a = [] ∧ b = [] := by
  have c := (h.good (fitP_lok ⟨(fun w hw => by cases hw), Nat.zero_le _⟩)).count
  rw [tk0] at c
  exact ⟨List.eq_nil_of_length_eq_zero (by omega), List.eq_nil_of_length_eq_zero (by omega)⟩
theorem dp_both {K : PySem.W.Frag} {H : Hp} {P r1 r2 A B : Addr} {c : List Int} {a b : List Str} (hP : H P = some (.lst [.ref r1, .ref r2])) (h1 : H r1 = some (.tup (c.map V.int))) (h2 : H r2 = some (.tup [.ref A, .ref B])) (hA : H A = some (.tup (a.map V.str))) (hB : H B = some (.tup (b.map V.str))) :
    Dp K H (.ref P) (bothD c a b) :=
  .lst (SqL.of hP) (.cons (.tup (SqT.of h1) (dp_ints c)) (.cons (.tup (SqT.of h2) (.cons (.tup (SqT.of hA) (dp_strs a)) (.cons (.tup (SqT.of hB) (dp_strs b)) .nil))) .nil))
theorem both_shows {g : Gr} {ws : List Opt} {c : List Int} {a b : List Str} (wok : WsOk ws) (hc : ChOk ws (fitP g ws) c) (hcov : CovOk ws (fitP g ws) a b) :
    (bothD c a b).showable = true ∧ (bothD c a b).hasDict = false ∧ (bothD c a b).depth ≤ 100 ∧ (bothD c a b).shown.length ≤ sizeLine := by
  have k := fitP_lok (g := g) wok
  obtain ⟨tko, inj⟩ := tk_ok (ws := ws) k.few
  have good := hcov.good k
  have tl := tko.len
  have few := k.few
  have count := good.count
  refine both_ok (fun i hi => ?_) (fun x hx => ?_) (fun x hx => ?_) (by rw [hc.perm.length_eq, List.length_map]; omega) (by omega) (by omega)
  · obtain ⟨e, he, rfl⟩ := List.mem_map.mp (hc.perm.mem_iff.mp hi)
    have := k.low _ (tko.all e he).1
    have := k.ws16
    omega
  · obtain ⟨n, hn, rfl⟩ := good.inA x hx
    have ok := wok.ok _ (wn_mem (fitP_low n hn))
    exact ⟨ok.name.asc, ok.name.hi⟩
  · obtain ⟨n, hn, _, rfl⟩ := good.inB x hx
    have ok := wok.ok _ (wn_mem (fitP_low n hn))
    exact ⟨ok.letter.asc, Nat.le_trans (letter_short ok.letter) (by decide)⟩
theorem empty_args {I : Hp} {t1 t2 t3 t4 t5 : Addr} (h2 : (upd I t1 (.tup [])) t2 = none) (h3 : (upd (upd I t1 (.tup [])) t2 (.tup [])) t3 = none) (h4 : (upd (upd (upd I t1 (.tup [])) t2 (.tup [])) t3 (.tup [.bl true, .bl true, .bl true])) t4 = none)
    (h5 : (upd (upd (upd (upd I t1 (.tup [])) t2 (.tup [])) t3 (.tup [.bl true, .bl true, .bl true])) t4 (.tup [.ref t1, .ref t2, .ref t3])) t5 = none) :
    GrA (upd (upd (upd (upd (upd I t1 (.tup [])) t2 (.tup [])) t3 (.tup [.bl true, .bl true, .bl true])) t4 (.tup [.ref t1, .ref t2, .ref t3])) t5 (.tup [])) (.ref t4) g0 ∧ OptsA (upd (upd (upd (upd (upd I t1 (.tup [])) t2 (.tup [])) t3 (.tup [.bl true, .bl true, .bl true])) t4 (.tup [.ref t1, .ref t2, .ref t3])) t5 (.tup [])) (.ref t5) [] := by
  have u2 := same_new h2 (.tup [])
  have u3 := same_new h3 (.tup [.bl true, .bl true, .bl true])
  have u4 := same_new h4 (.tup [.ref t1, .ref t2, .ref t3])
  have u5 := same_new h5 (.tup [])
  exact ⟨⟨t4, .ref t1, .ref t2, t3, rfl, u5 _ _ upd_same, ⟨t1, [], rfl, u5 _ _ (u4 _ _ (u3 _ _ (u2 _ _ upd_same))), .nil⟩, ⟨t2, [], rfl, u5 _ _ (u4 _ _ (u3 _ _ upd_same)), .nil⟩, u5 _ _ (u4 _ _ upd_same)⟩, ⟨t5, [], rfl, upd_same, .nil⟩⟩
section
variable {P : Program} {w : World} {K : PySem.W.Frag} {mg : Str → Option Value} {base : Heap} {C aK aA : Addr}
abbrev s_law : Stmt := top 64
abbrev N_law : List Str := ["script", "state", "turn", "grammar", "few", "many", "much", "at"]
theorem sc_law : FnScope N_law ["script"] (defScope s_law) := ⟨rfl, rfl, rfl, by decide +kernel, rfl, by decide +kernel, by decide +kernel⟩
theorem law_body {f : Addr} (T : Txt K mg C aK aA) (Dchoice : DefAt P w K mg base "choice" 20 ["grammar", "wishes"] spChoice) (Dcover : DefAt P w K mg base "cover" 20 ["grammar", "wishes"] spCover) (Dlaw_begin : DefAt P w K mg base "_law_begin" 1 ["script"] (spBegin K)) (Dlaw_draw : DefAt P w K mg base "_law_draw" 2 ["state", "many"] spDraw)
    (Dlaw_grammar : DefAt P w K mg base "_law_grammar" 6 ["state", "most"] spGrammarL) (Dlaw_clashing : DefAt P w K mg base "_law_clashing" 4 ["state", "many"] spClash) (Dlaw_right : DefAt P w K mg base "_law_right" 21 ["grammar", "wishes"] spRight) (Dlaw_greatest : DefAt P w K mg base "_law_greatest" 5 ["grammar", "wishes"] spGreatest)
    (cdv : Value) (A : Around) (outer : List Env) (s : Shared) (H : Hp) (vs : List V) (Q : VK) (E : XK) (hr : Room 21 (A.deeper (envOfC "law" (defScope s_law) s.heap.objs.size f cdv))) (hgd : (A.deeper (envOfC "law" (defScope s_law) s.heap.objs.size f cdv)).guards = some []) (h : spLaw K vs H Q E) :
    ∃ t, PSs (cxOf CX0 P w K mg base N_law "law" (defScope s_law) f cdv A outer s H E).nox (defBody s_law) t ∧ t { nx := fun _ H' => Q .non H', rt := Q } (start N_law vs) H := by
  obtain ⟨l, ns, rfl, hl, few, q⟩ := h
  have nd := sc_law.nd
  refine ⟨_, (pss_cons (ps_set (i := 1) nd rfl (Or.inl rfl) (pe_callD Dlaw_begin (hr.mono (by decide)) rfl (pa_cons (pv 0) pa_nil)))
    (pss_cons (ps_for PassesOwn.never rfl (pi_range1 (by rfl) T.n_range (pa_cons pe_int pa_nil)) (pg_name (i := 2) nd rfl (Or.inl rfl))
    (pss_cons (ps_par (i := 3) (j := 4) rfl nd rfl rfl (by decide) rfl rfl (pa_cons (pe_callD Dlaw_grammar (hr.mono (by decide)) rfl (pa_cons (pv 1) (pa_cons pe_int pa_nil))) (pa_cons (pe_callD Dlaw_clashing (hr.mono (by decide)) rfl (pa_cons (pv 1) (pa_cons (pe_callD Dlaw_draw (hr.mono (by decide)) rfl (pa_cons (pv 1) (pa_cons pe_int pa_nil))) pa_nil))) pa_nil)) (by rfl))
    (pss_one (ps_if (pt_cmpR op_ne (pe_callD Dlaw_right (hr.mono (by decide)) rfl (pa_cons (pv 3) (pa_cons (pv 4) pa_nil))) (pe_callD Dlaw_greatest (hr.mono (by decide)) rfl (pa_cons (pv 3) (pa_cons (pv 4) pa_nil))) (nomark _))
    (pss_one (ps_ret pe_bl))
    pss_nil))))
    (pss_cons (ps_set (i := 5) nd rfl (Or.inl rfl) (pe_callD Dlaw_clashing (hr.mono (by decide)) rfl (pa_cons (pv 1) (pa_cons (pe_op op_add pe_int (pe_callD Dlaw_draw (hr.mono (by decide)) rfl (pa_cons (pv 1) (pa_cons pe_int pa_nil)))) pa_nil))))
    (pss_cons (ps_par (i := 6) (j := 7) rfl nd rfl rfl (by decide) rfl rfl (pa_cons (pe_callD Dlaw_right (hr.mono (by decide)) rfl (pa_cons (pv 3) (pa_cons (pv 5) pa_nil))) (pa_cons (pe_callD Dlaw_draw (hr.mono (by decide)) rfl (pa_cons (pv 1) (pa_cons (pe_callB (call_lenK K rfl) (by rfl) T.n_len W31.boot_len (pa_cons (pv 5) pa_nil)) pa_nil))) pa_nil)) (by rfl))
    (pss_cons (ps_if (PW.pt (pw_or (pt_cmpR op_lt (pv 6) pe_int (nomark _)) (pw_or1 (pt_cmpR op_ne (pe_callD Dlaw_right (hr.mono (by decide)) rfl (pa_cons (pv 3) (pa_cons (pe_backT (pe_op (op_catAK K rfl) (pe_slice (sl_tupAK K rfl) (pv 5) (po_some (pv 7)) po_none) (pe_slice (sl_tupAK K rfl) (pv 5) po_none (po_some (pv 7))))) pa_nil))) (pv 6) (nomark _)))))
    (pss_one (ps_ret pe_bl))
    pss_nil)
    (pss_cons (ps_if (PW.pt (pw_and (pt_cmpR op_lt (pe_callB (call_lenK K rfl) (by rfl) T.n_len W31.boot_len (pa_cons (pv 5) pa_nil)) pe_int (nomark _)) (pw_and1 (pt_cmpR op_ne (pe_callD Dlaw_right (hr.mono (by decide)) rfl (pa_cons (pv 3) (pa_cons (pe_op (op_catAK K rfl) (pv 5) (pe_slice (sl_tupAK K rfl) (pv 5) po_none (po_some pe_int))) pa_nil))) (pv 6) (nomark _)))))
    (pss_one (ps_ret pe_bl))
    pss_nil)
    (pss_cons (ps_if (pt_cmpR op_ne (pe_callB (call_reprD hgd hr) (by rfl) T.n_repr W31.boot_repr (pa_cons (pe_lst (pa_cons (pe_callD Dchoice (hr.mono (by decide)) rfl (pa_cons (pv 3) (pa_cons (pv 5) pa_nil))) (pa_cons (pe_callD Dcover (hr.mono (by decide)) rfl (pa_cons (pv 3) (pa_cons (pv 5) pa_nil))) pa_nil))) pa_nil)) (pe_callB (call_reprD hgd hr) (by rfl) T.n_repr W31.boot_repr (pa_cons (pe_lst (pa_cons (pe_callD Dchoice (hr.mono (by decide)) rfl (pa_cons (pv 3) (pa_cons (pv 5) pa_nil))) (pa_cons (pe_callD Dcover (hr.mono (by decide)) rfl (pa_cons (pv 3) (pa_cons (pv 5) pa_nil))) pa_nil))) pa_nil)) (nomark _))
    (pss_one (ps_ret pe_bl))
    pss_nil)
    (pss_one (ps_ret (pe_and (pe_cmpR (op_eqDK K rfl hr.units) (pe_callD Dchoice (hr.mono (by decide)) rfl (pa_cons (pe_tup (pa_cons (pe_tup pa_nil) (pa_cons (pe_tup pa_nil) (pa_cons (pe_tup (pa_cons pe_bl (pa_cons pe_bl (pa_cons pe_bl pa_nil)))) pa_nil)))) (pa_cons (pe_tup pa_nil) pa_nil))) (pe_tup pa_nil) (nomark _)) (pe_one (pe_cmpR (op_eqDK K rfl hr.units) (pe_callD Dcover (hr.mono (by decide)) rfl (pa_cons (pe_tup (pa_cons (pe_tup pa_nil) (pa_cons (pe_tup pa_nil) (pa_cons (pe_tup (pa_cons pe_bl (pa_cons pe_bl (pa_cons pe_bl pa_nil)))) pa_nil)))) (pa_cons (pe_tup pa_nil) pa_nil))) (pe_tup (pa_cons (pe_tup pa_nil) (pa_cons (pe_tup pa_nil) pa_nil))) (nomark _))))))))))))), ?_⟩
  refine ⟨_, rfl, l, ns, rfl, hl, few, fun st la ca H1 e1 hst0 hla0 hca0 s1 => ?_⟩
  refine ⟨_, rfl, by decide, by decide, ?_⟩
  refine for_it walk_range (fun i σ H' => ∃ (o2 o3 o4 o5 o6 o7 : Option V) (a : Nat), σ = [some (.ref l), some (.ref st), o2, o3, o4, o5, o6, o7] ∧ StA H' st la ca a ∧ a ≤ 200 * i ∧ (i = 0 ∨ ∃ vg g, o3 = some vg ∧ GrA H' vg g ∧ GrGd g))
    ⟨none, none, none, none, none, none, 0, rfl, s1, Nat.le_refl _, .inl rfl⟩ (fun i σ H' _ _ => trivial) ?_ ?_
  · rintro i x σ H3 H2 hi ⟨o2, o3, o4, o5, o6, o7, a, rfl, s2, la2, _⟩ ⟨rfl, rfl⟩
    have hi : i < 2 := hi
    refine ⟨_, rfl, st, la, ca, a, 3, rfl, s2, by omega, by decide, fun H4 vg g a4 f4 s4 l4 hg gd => ?_⟩
    refine ⟨_, rfl, _, rfl, st, la, ca, a4, 9, rfl, s4, by omega, by decide, by decide, fun H5 mv hmv f5 s5 => ?_⟩
    refine ⟨st, la, ca, a4 + 1, mv, rfl, s5, by omega, by omega, fun H6 vw ws a6 f6 s6 l6 hw wok len => ⟨_, _, rfl, ?_⟩⟩
    have hg6 := GrA.mn.mono _ _ _ _ ((f5.trans f6).ktS s4) hg
    refine ⟨_, rfl, _, rfl, vg, vw, g, ws, rfl, hg6, gd, hw, wok, fun H7 s7 dual => ?_⟩
    have hg7 := GrA.mn.mono _ _ _ _ (Same.kt s7) hg6
    refine ⟨_, rfl, _, rfl, vg, vw, g, ws, rfl, hg7, gd.sm, OptsA.mn.mono _ _ _ _ (Same.kt s7) hw, wok, by omega, fun H8 s8 => ?_⟩
    rw [best_is (fitP_lok (g := g) wok).few (fitP_nd g ws) dual]
    refine ⟨rfl, _, rfl, ?_⟩
    rw [decide_eq_true rfl]
    refine iteF ?_
    exact ⟨_, _, _, _, _, _, a6, rfl, s6.same (s7.trans s8), by omega, .inr ⟨vg, g, rfl, GrA.mn.mono _ _ _ _ (Same.kt s8) hg7, gd⟩⟩
  rintro σ H2 ⟨o2, o3, o4, o5, o6, o7, a, rfl, s2, la2, hgr⟩
  have la2 : a ≤ 400 := la2
  obtain ⟨vg, g, rfl, hg, gd⟩ := hgr.resolve_left (by decide)
  refine ⟨_, rfl, _, rfl, st, la, ca, a, 8, rfl, s2, by omega, by decide, by decide, fun H3 dv hdv f3 s3 => ?_⟩
  refine ⟨_, _, rfl, rfl, st, la, ca, a + 1, 9 + dv, rfl, s3, by omega, by omega, fun H4 vw ws a4 f4 s4 l4 hw wok len => ?_⟩
  have hg4 := GrA.mn.mono _ _ _ _ ((f3.trans f4).ktS s2) hg
  have f16 := wok.few
  refine ⟨_, rfl, _, rfl, vg, vw, g, ws, rfl, hg4, gd, hw, wok, fun H5 s5 dual => ?_⟩
  have hw5 := OptsA.mn.mono _ _ _ _ (Same.kt s5) hw
  have hg5 := GrA.mn.mono _ _ _ _ (Same.kt s5) hg4
  obtain ⟨wa, vs, rfl, hwa5, pr5⟩ := hw5
  have vl := Paired.len pr5
  have s5' := s4.same s5
  refine ⟨_, rfl, _, rfl, wa, _, rfl, .inr (SqT.of hwa5), st, la, ca, a4, vs.length, rfl, s5', by omega, by omega, by omega, fun H6 kv hkv f6 s6 => ⟨_, _, rfl, ?_⟩⟩
  have k6 := f6.ktS s5'
  have hg6 := GrA.mn.mono _ _ _ _ k6 hg5
  have hwa6 := k6 _ _ hwa5
  have pr6 := Paired.mono OptA.mn k6 pr5
  refine ⟨_, rfl, _, _, rfl, rfl, _, rfl, ?_⟩
  rw [decide_eq_false (by omega)]
  refine iteF ?_
  refine ⟨_, rfl, _, rfl, _, rfl, kv, rfl, ?_⟩
  refine noPart_to ?_
  refine slA_to hwa6 fun c1 J1 j1 h1 => ?_
  rw [cutV_drop] at h1
  refine ⟨_, rfl, _, rfl, kv, rfl, ?_⟩
  refine slA_to (j1 _ _ hwa6) fun c2 J2 j2 h2 => ?_
  rw [cutV_take] at h2
  have kl : (vs.drop kv).length + (vs.take kv).length ≤ 16 := by rw [List.length_drop, List.length_take]; omega
  refine catA_to (j2 _ _ h1) h2 (by omega) fun c3 J3 j3 h3 => ?_
  refine ⟨c3, _, rfl, SqT.of h3, fun c4 hc4 => ?_⟩
  have j4 := same_new hc4 (.tup (vs.drop kv ++ vs.take kv).reverse)
  have j14 := j1.trans (j2.trans (j3.trans j4))
  have memR : ∀ w, w ∈ ws ↔ w ∈ (ws.drop kv ++ ws.take kv).reverse := fun w => by
    rw [List.mem_reverse, List.mem_append, Or.comm, ← List.mem_append, List.take_append_drop]
  have lenR : (ws.drop kv ++ ws.take kv).reverse.length ≤ 16 := by rw [List.length_reverse, List.length_append, List.length_drop, List.length_take]; omega
  have wokR : WsOk (ws.drop kv ++ ws.take kv).reverse := ⟨fun w hw => wok.ok w ((memR w).mpr hw), lenR⟩
  have prR : Paired (OptA J3) (vs.drop kv ++ vs.take kv).reverse (ws.drop kv ++ ws.take kv).reverse := Paired.rev (Paired.app (Paired.drop kv (Paired.mono OptA.mn (Same.kt (j1.trans (j2.trans j3))) pr6)) (Paired.take kv (Paired.mono OptA.mn (Same.kt (j1.trans (j2.trans j3))) pr6)))
  refine ⟨vg, .ref c4, g, (ws.drop kv ++ ws.take kv).reverse, rfl, GrA.mn.mono _ _ _ _ (Same.kt j14) hg6, gd, ⟨c4, _, rfl, upd_same, Paired.mono OptA.mn (Same.kt j4) prR⟩, wokR, fun H7 s7 dualR => ?_⟩
  rw [← size_eq f16 lenR memR dual dualR]
  refine ⟨_, rfl, rfl, _, rfl, ?_⟩
  rw [decide_eq_true rfl]
  refine iteF ?_
  have t7 := j14.trans s7
  have hg7 := GrA.mn.mono _ _ _ _ (Same.kt t7) hg6
  have hwa7 := t7 _ _ hwa6
  have pr7 := Paired.mono OptA.mn (Same.kt t7) pr6
  have rest : ∀ H8, Same H7 H8 → tSeq (tIfS (tTest (tOp rNe (tCB (rRepr K) (tCons (tLst (tCons (tCall spChoice [] E0 (tCons (tVar 3) (tCons (tVar 5) tNil))) (tCons (tCall spCover [] E0 (tCons (tVar 3) (tCons (tVar 5) tNil))) tNil))) tNil)) (tCB (rRepr K) (tCons (tLst (tCons (tCall spChoice [] E0 (tCons (tVar 3) (tCons (tVar 5) tNil))) (tCons (tCall spCover [] E0 (tCons (tVar 3) (tCons (tVar 5) tNil))) tNil))) tNil)))) (tRet (tC (.bl false))) tNext)
      (tRet (tAndV (tOp (rEqD K) (tCall spChoice [] E0 (tCons (tTup (tCons (tTup tNil) (tCons (tTup tNil) (tCons (tTup (tCons (tC (.bl true)) (tCons (tC (.bl true)) (tCons (tC (.bl true)) tNil)))) tNil)))) (tCons (tTup tNil) tNil))) (tTup tNil)) (tOp (rEqD K) (tCall spCover [] E0 (tCons (tTup (tCons (tTup tNil) (tCons (tTup tNil) (tCons (tTup (tCons (tC (.bl true)) (tCons (tC (.bl true)) (tCons (tC (.bl true)) tNil)))) tNil)))) (tCons (tTup tNil) tNil))) (tTup (tCons (tTup tNil) (tCons (tTup tNil) tNil))))))
      { nx := fun _ H' => Q .non H', rt := Q } [some (.ref l), some (.ref st), o2, some vg, o4, some (.ref wa), some (.int ((tkW ws (fitP g ws)).length : Nat)), some (.int (kv : Nat))] H8 := fun H8 s8 => by
    have hg8 := GrA.mn.mono _ _ _ _ (Same.kt s8) hg7
    have hw8 : OptsA H8 (.ref wa) ws := ⟨wa, vs, rfl, s8 _ _ hwa7, Paired.mono OptA.mn (Same.kt s8) pr7⟩
    refine ⟨_, rfl, _, rfl, vg, .ref wa, g, ws, rfl, hg8, gd, hw8, wok, fun r1 I1 x1 i1 hr1 hc1 => ?_⟩
    refine ⟨_, rfl, _, rfl, vg, .ref wa, g, ws, rfl, GrA.mn.mono _ _ _ _ (Same.kt i1) hg8, gd, OptsA.mn.mono _ _ _ _ (Same.kt i1) hw8, wok, fun r2 A2 B2 I2 a2 b2 i2 hr2 hA2 hB2 hcov2 => ?_⟩
    refine ⟨by show 2 ≤ sizeLine; decide, fun P2 hP2 => ?_⟩
    have e2 := same_new hP2 (.lst [.ref r1, .ref r2])
    obtain ⟨sh1, sh2, sh3, sh4⟩ := both_shows wok hc1 hcov2
    refine ⟨.ref P2, P2, bothD x1 a2 b2, rfl, rfl, dp_both upd_same (e2 _ _ (i2 _ _ hr1)) (e2 _ _ hr2) (e2 _ _ hA2) (e2 _ _ hB2), sh1, sh2, sh3, sh4, ?_⟩
    have i02 := i1.trans (i2.trans e2)
    have hg9 := GrA.mn.mono _ _ _ _ (Same.kt i02) hg8
    have hw9 := OptsA.mn.mono _ _ _ _ (Same.kt i02) hw8
    refine ⟨_, rfl, _, rfl, vg, .ref wa, g, ws, rfl, hg9, gd, hw9, wok, fun r3 I3 x3 i3 hr3 hc3 => ?_⟩
    refine ⟨_, rfl, _, rfl, vg, .ref wa, g, ws, rfl, GrA.mn.mono _ _ _ _ (Same.kt i3) hg9, gd, OptsA.mn.mono _ _ _ _ (Same.kt i3) hw9, wok, fun r4 A4 B4 I4 a4 b4 i4 hr4 hA4 hB4 hcov4 => ?_⟩
    refine ⟨by show 2 ≤ sizeLine; decide, fun P4 hP4 => ?_⟩
    have e4 := same_new hP4 (.lst [.ref r3, .ref r4])
    have ex : x1 = x3 := hc1.uniq (fitP_lok wok) hc3
    obtain ⟨ea, eb⟩ := hcov2.uniq hcov4
    subst ex ea eb
    refine ⟨.ref P4, P4, bothD x1 a2 b2, rfl, rfl, dp_both upd_same (e4 _ _ (i4 _ _ hr3)) (e4 _ _ hr4) (e4 _ _ hA4) (e4 _ _ hB4), sh1, sh2, sh3, sh4, ?_⟩
    refine ⟨rfl, _, rfl, ?_⟩
    rw [decide_eq_true rfl]
    refine iteF ?_
    obtain ⟨I5, e5⟩ : ∃ I5, I5 = upd I4 P4 (.lst [.ref r3, .ref r4]) := ⟨_, rfl⟩
    rw [← e5]
    refine ⟨Nat.zero_le _, fun t1 h1 => ⟨Nat.zero_le _, fun t2 h2 => ⟨by show 3 ≤ sizeLine; decide, fun t3 h3 => ⟨by show 3 ≤ sizeLine; decide, fun t4 h4 => ⟨Nat.zero_le _, fun t5 h5 => ?_⟩⟩⟩⟩⟩
    obtain ⟨gA, oA⟩ := empty_args h2 h3 h4 h5
    have wok0 : WsOk [] := ⟨(fun w hw => by cases hw), Nat.zero_le _⟩
    refine ⟨.ref t4, .ref t5, g0, [], rfl, gA, g0_ok, oA, wok0, fun r I6 c s6 hr6 hc6 => ?_⟩
    have c0 := ch0 hc6
    subst c0
    refine ⟨Nat.zero_le _, fun t6 h6 => ?_⟩
    refine eqT_to (n := 0) (ds := []) (xs := []) (SqT.of ((same_new h6 (.tup [])) _ _ hr6)) .nil upd_same (fun d hd => by cases hd) (by decide) ?_
    refine ⟨true, rfl, iteT ?_⟩
    refine ⟨Nat.zero_le _, fun y1 k1 => ⟨Nat.zero_le _, fun y2 k2 => ⟨by show 3 ≤ sizeLine; decide, fun y3 k3 => ⟨by show 3 ≤ sizeLine; decide, fun y4 k4 => ⟨Nat.zero_le _, fun y5 k5 => ?_⟩⟩⟩⟩⟩
    obtain ⟨gA2, oA2⟩ := empty_args k2 k3 k4 k5
    refine ⟨.ref y4, .ref y5, g0, [], rfl, gA2, g0_ok, oA2, wok0, fun r' A' B' I7 a' b' s7 hr7 hA7 hB7 hcov7 => ?_⟩
    obtain ⟨ea, eb⟩ := cov0 hcov7
    subst ea eb
    refine ⟨Nat.zero_le _, fun z1 m1 => ⟨Nat.zero_le _, fun z2 m2 => ⟨by show 2 ≤ sizeLine; decide, fun z3 m3 => ?_⟩⟩⟩
    have n1 := same_new m1 (.tup [])
    have n2 := same_new m2 (.tup [])
    have n3 := same_new m3 (.tup [.ref z1, .ref z2])
    have n123 := n1.trans (n2.trans n3)
    have lay0 : Lay (.tuple [.tuple [], .tuple []]) 2 := lay_tuple fun d hd => by
      rcases List.mem_cons.mp hd with rfl | hd
      · exact lay_tuple (n := 0) (fun d hd => by cases hd)
      · rw [List.mem_singleton.mp hd]; exact lay_tuple (n := 0) (fun d hd => by cases hd)
    refine ⟨.tuple [.tuple [], .tuple []], .tuple [.tuple [], .tuple []], .tup (SqT.of (n123 _ _ hr7)) (.cons (.tup (SqT.of (n123 _ _ hA7)) .nil) (.cons (.tup (SqT.of (n123 _ _ hB7)) .nil) .nil)), .tup (SqT.of upd_same) (.cons (.tup (SqT.of (n3 _ _ (n2 _ _ upd_same))) .nil) (.cons (.tup (SqT.of (n3 _ _ upd_same)) .nil) .nil)), lay0.shaped (by decide), lay0.shaped (by decide), ?_⟩
    have e : PyData.eqv (.tuple [.tuple [], .tuple []]) (.tuple [.tuple [], .tuple []]) = true := by simp [PyData.eqv, PyData.eqvAll]
    rw [e]
    exact q _
  refine ⟨_, rfl, wa, _, rfl, .inr (SqT.of hwa7), _, _, rfl, rfl, _, rfl, ?_⟩
  refine ite2 (fun c => ?_) (fun c => ?_)
  · have lt : vs.length < 16 := by have := of_decide_eq_true c; omega
    refine ⟨_, rfl, _, rfl, _, rfl, 1, rfl, ?_⟩
    refine slA_to hwa7 fun c5 J5 j5 h5 => ?_
    have ct : cutV vs none (some 1) = vs.take 1 := cutV_take vs 1
    rw [ct] at h5
    refine catA_to (j5 _ _ hwa7) h5 (by rw [List.length_take]; omega) fun c6 J6 j6 h6 => ?_
    have j56 := j5.trans j6
    have memD : ∀ w, w ∈ ws ↔ w ∈ ws ++ ws.take 1 := fun w => by
      rw [List.mem_append]
      exact ⟨.inl, fun z => z.elim id fun y => List.mem_of_mem_take y⟩
    have lenD : (ws ++ ws.take 1).length ≤ 16 := by rw [List.length_append, List.length_take]; omega
    refine ⟨vg, .ref c6, g, ws ++ ws.take 1, rfl, GrA.mn.mono _ _ _ _ (Same.kt j56) hg7, gd, ⟨c6, _, rfl, h6, ?_⟩, ⟨fun w hw => wok.ok w ((memD w).mpr hw), lenD⟩, fun H8 s8 dualD => ?_⟩
    · have := Paired.mono OptA.mn (Same.kt j56) pr7
      exact Paired.app this (Paired.take 1 this)
    · rw [← size_eq f16 lenD memD dual dualD]
      refine ⟨_, rfl, rfl, _, rfl, ?_⟩
      rw [decide_eq_true rfl]
      refine iteF ?_
      exact rest _ (j56.trans s8)
  · exact iteF (rest _ (Same.refl _))
end
end W31

set_option maxHeartbeats 4000000
/-! The law called from outside: there no repr is under way (FnOk does not say so). -/
namespace W31
open PySem PySem.Spec PyProof.Rows L2
section
variable {P : Program} {w : World} {K : PySem.W.Frag} {mg mb : Str → Option Value} {base : Heap}
theorem run_law {f a : Addr} {fd : FuncData} (F : Fun K "law" "law" s_law f fd) {s : Shared} {H : Hp} {Q : VK} {E : XK} (hr : Room 22 callerA) (e0 : Env0 P w K mg base callerA [] s H) (hb : ∀ (s : Shared) (u : Value), BindsTo s fd ⟨[u], []⟩ [("script", u)])
    (body : ∀ cdv, Room 21 (callerA.deeper (envOfC "law" (defScope s_law) s.heap.objs.size f cdv)) → (callerA.deeper (envOfC "law" (defScope s_law) s.heap.objs.size f cdv)).guards = some [] →
      ∃ t, PSs (cxOf CX0 P w K mg base N_law "law" (defScope s_law) f cdv callerA [] s H E).nox (defBody s_law) t ∧ t { nx := fun _ H' => Q .non H', rt := Q } (start N_law [.ref a]) H) :
    codeAny (model P w) callerA (.call (.ref f) ⟨[.ref a], []⟩) (CR CX0 [] P w H s Q E) s := by
  have S := sc_law
  obtain ⟨_, _, _, _, _, _, _, _, _, rfl, lk, hcd⟩ := F.ex
  have up : ∀ b o, base.get? b = some o → s.heap.get? b = some o := fun b o e => (e0.bs b o e).1
  refine codeAny_call_function hr.depth ((e0.mod.kin.keeps up) _ _ lk) rfl S.co S.gen rfl (PySem.W.codeRec_of (e0.mod.kin.keeps up) hcd) (hb s (.ref a) _ _ _ _ ?_)
  refine wpAny_newFunctionEnv_cells S.kind (fun y hy => ?_) fun env he s1 x => ?_
  · obtain rfl : y = (("script" : Str), Value.ref a) := List.mem_singleton.mp hy
    rcases S.par "script" (by simp) with z | z
    · exact .inl z
    · exact .inr ⟨z, PySem.W.cellsFrom_some _ _ _ (.inl z)⟩
  subst he
  refine ⟨(e0.mod.nolimit.keeps up).keeps x.toInCall.keep, codeAny_func ?_⟩
  obtain ⟨t, ht, hq⟩ := body _ (hr.deeper _) rfl
  have I := inv_start (CX := CX0) (E := E) (vs := [V.ref a]) (us := [Value.ref a]) S hr.hd e0 rfl (.cons rfl .nil) x
  refine wpAny_mono (ht.nox.run [] s1 _ H _ I hq) (fun fl s2 hs => ?_) fun _ _ hs => hs
  match fl, hs with
  | .ret u, ⟨v, σ2, H2, J, rv, q⟩ => exact ⟨v, H2, J.os, J.bare, J.base, J.hok, rv, q⟩
  | .next, ⟨σ2, H2, J, q⟩ => exact ⟨V.non, H2, J.os, J.bare, J.base, J.hok, rfl, q⟩
  | .brk, ⟨_, _, _, q⟩ => exact q.elim
  | .cont, ⟨_, _, _, q⟩ => exact q.elim
/-- what is tracked at the entry: the script, unless the text itself holds it -/
def trkS (K : PySem.W.Frag) (a : Addr) (ob : Obj) (ns : List Int) : Hp := fun b => if b = a ∧ K.lookup a = none then some (.frz ob (.lst (ns.map V.int))) else none
theorem trkS_some {a b : Addr} {ob : Obj} {ns : List Int} {u : HO} (h : trkS K a ob ns b = some u) : b = a ∧ K.lookup a = none ∧ u = .frz ob (.lst (ns.map V.int)) := by
  unfold trkS at h
  split at h
  · next c => exact ⟨c.1, c.2, (Option.some.inj h).symm⟩
  · cases h
theorem trkS_none {a b : Addr} {ob : Obj} {ns : List Int} (h : b = a → K.lookup a = none → False) : trkS K a ob ns b = none := by
  cases e : trkS K a ob ns b with
  | none => rfl
  | some u => exact (h (trkS_some e).1 (trkS_some e).2.1).elim
theorem call_law {fa a : Addr} {fd : FuncData} {s : Shared} {vs : List Value} {ns : List Int} (F : Fun K "law" "law" s_law fa fd) (hb : ∀ (s : Shared) (u : Value), BindsTo s fd ⟨[u], []⟩ [("script", u)]) (hr : Room 22 callerA)
    (KX : K.In s.heap) (hns : s.heap.Ns mainGlobals mg) (hbn : s.heap.Ns builtinsNs mb) (hbb : ∀ x : Str, x ≠ "__name__" → mb x = bootBuiltins x) (hlim : s.heap.NoLimit) (hg : s.gens = #[])
    (ha : s.heap.get? a = some { cls := .type "list", data := .seq vs.toArray }) (hi : IntsAre vs ns) (hl : ns.length ≤ 63)
    (body : ∀ base : Heap, K.In base → base.Ns mainGlobals mg → ∀ (cdv : Value) (s : Shared) (H : Hp) (us : List V) (Q : VK) (E : XK), Room 21 (callerA.deeper (envOfC "law" (defScope s_law) s.heap.objs.size fa cdv)) → (callerA.deeper (envOfC "law" (defScope s_law) s.heap.objs.size fa cdv)).guards = some [] → spLaw K us H Q E →
      ∃ t, PSs (cxOf CX0 P w K mg base N_law "law" (defScope s_law) fa cdv callerA [] s H E).nox (defBody s_law) t ∧ t { nx := fun _ H' => Q .non H', rt := Q } (start N_law us) H) :
    codeAny (model P w) callerA (.call (.ref fa) ⟨[.ref a], []⟩) (fun r s' => r = .ok (.ret (.bool true)) ∧ OldK s.heap s'.heap ∧ s'.os = s.os ∧ AllBare s'.gens) s := by
  obtain ⟨T, eT⟩ : ∃ T, T = trkS K a { cls := .type "list", data := .seq vs.toArray } ns := ⟨_, rfl⟩
  have T1 : ∀ {b u}, T b = some u → b = a ∧ K.lookup a = none ∧ u = .frz { cls := .type "list", data := .seq vs.toArray } (.lst (ns.map V.int)) := fun h => by rw [eT] at h; exact trkS_some h
  have big : ns.length ≤ sizeLine := by rw [sizeLine_eq]; omega
  have rv := vals_ints hi
  have hok : HOk P w T s.heap := fun b u h => by
    obtain ⟨rfl, _, rfl⟩ := T1 h
    exact ⟨ha, by rw [List.length_map]; exact big, vs, _, rv, ha⟩
  have seq : SqL K T a (ns.map V.int) := by
    cases hk : K.lookup a with
    | none => exact .inl (.inr ⟨{ cls := .type "list", data := .seq vs.toArray }, by rw [eT]; exact if_pos ⟨rfl, hk⟩⟩)
    | some o =>
      have e := KX a o hk
      rw [ha] at e
      cases e
      exact .inr ⟨_, vs.toArray, _, hk, rfl, rfl, rfl, by rw [List.size_toArray, hi.length]; exact big, by simpa using rv⟩
  have free : ∀ {b o}, K.lookup b = some o → T b = none := fun h => by
    rw [eT]
    exact trkS_none fun e z => by rw [e, z] at h; cases h
  have stay : ∀ {b : Addr} {m : Str → Option Value}, s.heap.Ns b m → (hidT s.heap T).Ns b m := fun {b m} ⟨o, es, ep, e, d, r⟩ => by
    refine ⟨o, es, ep, hidT_get e ?_, d, r⟩
    rw [eT]
    refine trkS_none fun z _ => ?_
    rw [z, ha] at e
    cases e
    cases d
  have kin : K.In (hidT s.heap T) := fun b o e => hidT_get (KX b o e) (free e)
  obtain ⟨mc, l1, l2⟩ := hlim
  have e0 : Env0 P w K mg (hidT s.heap T) callerA [] s T := ⟨rfl, ⟨kin, stay hns, ⟨mb, stay hbn, hbb⟩, mc, stay l1, l2⟩, fun b o e => of_hidT e, Nat.le_of_eq (hidT_size _ _), trivial, (fun b z => by cases z), hok, .of_eq hg⟩
  refine codeAny_mono (run_law (Q := fun v _ => v = .bl true) (E := fun _ _ _ => False) F hr e0 hb fun cdv h1 h2 => body _ kin (stay hns) cdv s T [.ref a] (fun v _ => v = .bl true) (fun _ _ _ => False) h1 h2 ⟨a, ns, rfl, seq, hl, fun _ => rfl⟩) fun r s2 h => ?_
  match r, h with
  | .ok (.ret u), ⟨v, H2, os, bare, un, ok2, rv2, q⟩ =>
    obtain rfl : v = .bl true := q
    obtain rfl : u = Value.bool true := rv2
    refine ⟨rfl, OldK.of_keep fun b o e => ?_, os, bare⟩
    cases hT : T b with
    | none => exact un.keep b o e hT (fun z => by cases z) (by simp)
    | some u =>
      obtain ⟨rfl, _, rfl⟩ := T1 hT
      obtain ⟨e2, _⟩ := ok2 b _ (un.frzs b _ _ hT)
      rw [ha] at e
      cases e
      exact e2
  | .error e, h => exact h.elim
/-- the goal that the head leaves -/
structure LawG (P : Program) (w : World) (K : PySem.W.Frag) (mg : Str → Option Value) (fa : Addr) : Prop where
  ex : ∃ fd, Fun K "law" "law" s_law fa fd ∧ (∀ (s : Shared) (u : Value), BindsTo s fd ⟨[u], []⟩ [("script", u)]) ∧
    ∀ base : Heap, K.In base → base.Ns mainGlobals mg → ∀ (cdv : Value) (s : Shared) (H : Hp) (us : List V) (Q : VK) (E : XK), Room 21 (callerA.deeper (envOfC "law" (defScope s_law) s.heap.objs.size fa cdv)) → (callerA.deeper (envOfC "law" (defScope s_law) s.heap.objs.size fa cdv)).guards = some [] → spLaw K us H Q E →
      ∃ t, PSs (cxOf CX0 P w K mg base N_law "law" (defScope s_law) fa cdv callerA [] s H E).nox (defBody s_law) t ∧ t { nx := fun _ H' => Q .non H', rt := Q } (start N_law us) H
theorem walk_g {l : PySem.W.OpenLaw} {q : Program} {loose : List Str} {XP : (Str → Option Value) → Heap → Prop} {YP : World → Heap → Prop} {d : DefRec} {K : Params → PySem.W.Frag} (hn : l.most = some 63) (hdf : d.params.defaults = []) (hr : Room 22 callerA)
    (hY : ∀ (w : World) (h : Heap), YP w h → (K w.params).In h)
    (F : ∀ (w : World) (mg : Str → Option Value) (fa : Addr) (h : Heap), (K w.params).In h → h.Ns mainGlobals mg → mg d.name = some (.ref fa) → LawG l.prog w (K w.params) mg fa) :
    PySem.W.WalkO q loose XP YP l.row.toRowW d [] (fun f vs => PySem.call f vs) := by
  refine Att.attach_call hn hdf fun w s0 s1 mg mb fa o pm cd doc a vs ns G Y ho hd hcd hmg hobj hints hlen hg => ?_
  obtain ⟨fd, h1, h2, h3⟩ := F w mg fa _ (hY w _ Y) G.T.g hmg
  exact call_law h1 h2 hr (hY w _ Y) G.T.g G.T.b G.T.builtins G.T.nolimit hg hobj hints hlen h3
end
end W31

set_option maxHeartbeats 4000000
/-! What the top has written; the end. -/
namespace W31
open PySem PySem.Spec PyProof.Rows L2
theorem all_mk {l : PySem.W.OpenLaw} {w : World} {K : PySem.W.Frag} {h : Heap} {mg : Str → Option Value} {fa C aK aA : Addr} (X : K.In h) (G : h.Ns mainGlobals mg) (hfa : mg "law" = some (.ref fa))
    {f_init : Addr} {oc_init kV_init dc_init pm_init cd_init ct_init : Value} {od_init an_init : Option Addr} {sl_init : Array (Option Value)}
    {f_find : Addr} {oc_find kV_find dc_find pm_find cd_find ct_find : Value} {od_find an_find : Option Addr} {sl_find : Array (Option Value)}
    {f_reached : Addr} {oc_reached kV_reached dc_reached pm_reached cd_reached ct_reached : Value} {od_reached an_reached : Option Addr} {sl_reached : Array (Option Value)}
    {f_is_of : Addr} {oc_is_of kV_is_of dc_is_of pm_is_of cd_is_of ct_is_of : Value} {od_is_of an_is_of : Option Addr} {sl_is_of : Array (Option Value)}
    {f_is_name : Addr} {oc_is_name kV_is_name dc_is_name pm_is_name cd_is_name ct_is_name : Value} {od_is_name an_is_name : Option Addr} {sl_is_name : Array (Option Value)}
    {f_is_letter : Addr} {oc_is_letter kV_is_letter dc_is_letter pm_is_letter cd_is_letter ct_is_letter : Value} {od_is_letter an_is_letter : Option Addr} {sl_is_letter : Array (Option Value)}
    {f_is_option : Addr} {oc_is_option kV_is_option dc_is_option pm_is_option cd_is_option ct_is_option : Value} {od_is_option an_is_option : Option Addr} {sl_is_option : Array (Option Value)}
    {f_is_place : Addr} {oc_is_place kV_is_place dc_is_place pm_is_place cd_is_place ct_is_place : Value} {od_is_place an_is_place : Option Addr} {sl_is_place : Array (Option Value)}
    {f_option_fault : Addr} {oc_option_fault kV_option_fault dc_option_fault pm_option_fault cd_option_fault ct_option_fault : Value} {od_option_fault an_option_fault : Option Addr} {sl_option_fault : Array (Option Value)}
    {f_place_fault : Addr} {oc_place_fault kV_place_fault dc_place_fault pm_place_fault cd_place_fault ct_place_fault : Value} {od_place_fault an_place_fault : Option Addr} {sl_place_fault : Array (Option Value)}
    {f_fault : Addr} {oc_fault kV_fault dc_fault pm_fault cd_fault ct_fault : Value} {od_fault an_fault : Option Addr} {sl_fault : Array (Option Value)}
    {f_need_grammar : Addr} {oc_need_grammar kV_need_grammar dc_need_grammar pm_need_grammar cd_need_grammar ct_need_grammar : Value} {od_need_grammar an_need_grammar : Option Addr} {sl_need_grammar : Array (Option Value)}
    {f_is_grammar : Addr} {oc_is_grammar kV_is_grammar dc_is_grammar pm_is_grammar cd_is_grammar ct_is_grammar : Value} {od_is_grammar an_is_grammar : Option Addr} {sl_is_grammar : Array (Option Value)}
    {f_option_told : Addr} {oc_option_told kV_option_told dc_option_told pm_option_told cd_option_told ct_option_told : Value} {od_option_told an_option_told : Option Addr} {sl_option_told : Array (Option Value)}
    {f_has_figure : Addr} {oc_has_figure kV_has_figure dc_has_figure pm_has_figure cd_has_figure ct_has_figure : Value} {od_has_figure an_has_figure : Option Addr} {sl_has_figure : Array (Option Value)}
    {f_takes_numbers : Addr} {oc_takes_numbers kV_takes_numbers dc_takes_numbers pm_takes_numbers cd_takes_numbers ct_takes_numbers : Value} {od_takes_numbers an_takes_numbers : Option Addr} {sl_takes_numbers : Array (Option Value)}
    {f_tellings_of : Addr} {oc_tellings_of kV_tellings_of dc_tellings_of pm_tellings_of cd_tellings_of ct_tellings_of : Value} {od_tellings_of an_tellings_of : Option Addr} {sl_tellings_of : Array (Option Value)}
    {f_shortenings : Addr} {oc_shortenings kV_shortenings dc_shortenings pm_shortenings cd_shortenings ct_shortenings : Value} {od_shortenings an_shortenings : Option Addr} {sl_shortenings : Array (Option Value)}
    {f_need_wishes : Addr} {oc_need_wishes kV_need_wishes dc_need_wishes pm_need_wishes cd_need_wishes ct_need_wishes : Value} {od_need_wishes an_need_wishes : Option Addr} {sl_need_wishes : Array (Option Value)}
    {f_with_wishes : Addr} {oc_with_wishes kV_with_wishes dc_with_wishes pm_with_wishes cd_with_wishes ct_with_wishes : Value} {od_with_wishes an_with_wishes : Option Addr} {sl_with_wishes : Array (Option Value)}
    {f_fitting : Addr} {oc_fitting kV_fitting dc_fitting pm_fitting cd_fitting ct_fitting : Value} {od_fitting an_fitting : Option Addr} {sl_fitting : Array (Option Value)}
    {f_choice : Addr} {oc_choice kV_choice dc_choice pm_choice cd_choice ct_choice : Value} {od_choice an_choice : Option Addr} {sl_choice : Array (Option Value)}
    {f_cover : Addr} {oc_cover kV_cover dc_cover pm_cover cd_cover ct_cover : Value} {od_cover an_cover : Option Addr} {sl_cover : Array (Option Value)}
    {f_law_mixed : Addr} {oc_law_mixed kV_law_mixed dc_law_mixed pm_law_mixed cd_law_mixed ct_law_mixed : Value} {od_law_mixed an_law_mixed : Option Addr} {sl_law_mixed : Array (Option Value)}
    {f_law_begin : Addr} {oc_law_begin kV_law_begin dc_law_begin pm_law_begin cd_law_begin ct_law_begin : Value} {od_law_begin an_law_begin : Option Addr} {sl_law_begin : Array (Option Value)}
    {f_law_draw : Addr} {oc_law_draw kV_law_draw dc_law_draw pm_law_draw cd_law_draw ct_law_draw : Value} {od_law_draw an_law_draw : Option Addr} {sl_law_draw : Array (Option Value)}
    {f_law_of : Addr} {oc_law_of kV_law_of dc_law_of pm_law_of cd_law_of ct_law_of : Value} {od_law_of an_law_of : Option Addr} {sl_law_of : Array (Option Value)}
    {f_law_option_name : Addr} {oc_law_option_name kV_law_option_name dc_law_option_name pm_law_option_name cd_law_option_name ct_law_option_name : Value} {od_law_option_name an_law_option_name : Option Addr} {sl_law_option_name : Array (Option Value)}
    {f_law_letter : Addr} {oc_law_letter kV_law_letter dc_law_letter pm_law_letter cd_law_letter ct_law_letter : Value} {od_law_letter an_law_letter : Option Addr} {sl_law_letter : Array (Option Value)}
    {f_law_clashing : Addr} {oc_law_clashing kV_law_clashing dc_law_clashing pm_law_clashing cd_law_clashing ct_law_clashing : Value} {od_law_clashing an_law_clashing : Option Addr} {sl_law_clashing : Array (Option Value)}
    {f_law_more : Addr} {oc_law_more kV_law_more dc_law_more pm_law_more cd_law_more ct_law_more : Value} {od_law_more an_law_more : Option Addr} {sl_law_more : Array (Option Value)}
    {f_law_places : Addr} {oc_law_places kV_law_places dc_law_places pm_law_places cd_law_places ct_law_places : Value} {od_law_places an_law_places : Option Addr} {sl_law_places : Array (Option Value)}
    {f_law_grammar : Addr} {oc_law_grammar kV_law_grammar dc_law_grammar pm_law_grammar cd_law_grammar ct_law_grammar : Value} {od_law_grammar an_law_grammar : Option Addr} {sl_law_grammar : Array (Option Value)}
    {f_law_option : Addr} {oc_law_option kV_law_option dc_law_option pm_law_option cd_law_option ct_law_option : Value} {od_law_option an_law_option : Option Addr} {sl_law_option : Array (Option Value)}
    {f_law_is_number : Addr} {oc_law_is_number kV_law_is_number dc_law_is_number pm_law_is_number cd_law_is_number ct_law_is_number : Value} {od_law_is_number an_law_is_number : Option Addr} {sl_law_is_number : Array (Option Value)}
    {f_law_shortened : Addr} {oc_law_shortened kV_law_shortened dc_law_shortened pm_law_shortened cd_law_shortened ct_law_shortened : Value} {od_law_shortened an_law_shortened : Option Addr} {sl_law_shortened : Array (Option Value)}
    {f_law_alone : Addr} {oc_law_alone kV_law_alone dc_law_alone pm_law_alone cd_law_alone ct_law_alone : Value} {od_law_alone an_law_alone : Option Addr} {sl_law_alone : Array (Option Value)}
    {f_law_fitting : Addr} {oc_law_fitting kV_law_fitting dc_law_fitting pm_law_fitting cd_law_fitting ct_law_fitting : Value} {od_law_fitting an_law_fitting : Option Addr} {sl_law_fitting : Array (Option Value)}
    {f_law_apart : Addr} {oc_law_apart kV_law_apart dc_law_apart pm_law_apart cd_law_apart ct_law_apart : Value} {od_law_apart an_law_apart : Option Addr} {sl_law_apart : Array (Option Value)}
    {f_law_covers : Addr} {oc_law_covers kV_law_covers dc_law_covers pm_law_covers cd_law_covers ct_law_covers : Value} {od_law_covers an_law_covers : Option Addr} {sl_law_covers : Array (Option Value)}
    {f_law_greatest : Addr} {oc_law_greatest kV_law_greatest dc_law_greatest pm_law_greatest cd_law_greatest ct_law_greatest : Value} {od_law_greatest an_law_greatest : Option Addr} {sl_law_greatest : Array (Option Value)}
    {f_law_right : Addr} {oc_law_right kV_law_right dc_law_right pm_law_right cd_law_right ct_law_right : Value} {od_law_right an_law_right : Option Addr} {sl_law_right : Array (Option Value)}
    {f_law : Addr} {oc_law kV_law dc_law pm_law cd_law ct_law : Value} {od_law an_law : Option Addr} {sl_law : Array (Option Value)} {t_LETTERS : Tok} {t_FIGURES : Tok} {t_MOST_IN_NAME : Tok} {t_MOST_OPTIONS : Tok} {t_MOST_PLACES : Tok} {t_SHORT : Tok} {t_MINUS : Tok} {t_MOST_WISHES : Tok} {od_KINDS : Option Addr} {n_KINDS : Nat} {sl_KINDS : Array (Option Value)} {t_KINDS0 t_KINDS1 t_KINDS2 t_KINDS3 t_KINDS4 t_KINDS5 : Tok} {od_ARITIES : Option Addr} {n_ARITIES : Nat} {sl_ARITIES : Array (Option Value)} {t_ARITIES0 t_ARITIES1 t_ARITIES2 : Tok}
    (aC : PySem.W.nsIn K mainGlobals "Pairing" = some (some (.ref C)))
    (a_init : PySem.W.findIn K (.ref C) "__init__" = some (some (.ref f_init)))
    (i_init : PySem.W.isFn K (.ref f_init) = true)
    (l_init : K.lookup f_init = some ⟨oc_init, od_init, .func (PySem.W.fnOf "__init__" "Pairing.__init__" (defArgs s_init) (defBody s_init) (defScope s_init) .none kV_init dc_init pm_init an_init cd_init ct_init), sl_init⟩)
    (c_init : PySem.W.codeIn K cd_init "Pairing.__init__" = true)
    (k_init : PySem.W.keepIn K (.ref f_init) = true)
    (a_find : PySem.W.findIn K (.ref C) "find" = some (some (.ref f_find)))
    (i_find : PySem.W.isFn K (.ref f_find) = true)
    (l_find : K.lookup f_find = some ⟨oc_find, od_find, .func (PySem.W.fnOf "find" "Pairing.find" (defArgs s_find) (defBody s_find) (defScope s_find) .none kV_find dc_find pm_find an_find cd_find ct_find), sl_find⟩)
    (c_find : PySem.W.codeIn K cd_find "Pairing.find" = true)
    (k_find : PySem.W.keepIn K (.ref f_find) = true)
    (a_reached : PySem.W.findIn K (.ref C) "reached" = some (some (.ref f_reached)))
    (i_reached : PySem.W.isFn K (.ref f_reached) = true)
    (l_reached : K.lookup f_reached = some ⟨oc_reached, od_reached, .func (PySem.W.fnOf "reached" "Pairing.reached" (defArgs s_reached) (defBody s_reached) (defScope s_reached) .none kV_reached dc_reached pm_reached an_reached cd_reached ct_reached), sl_reached⟩)
    (c_reached : PySem.W.codeIn K cd_reached "Pairing.reached" = true)
    (k_reached : PySem.W.keepIn K (.ref f_reached) = true)
    (a_is_of : PySem.W.nsIn K mainGlobals "is_of" = some (some (.ref f_is_of)))
    (l_is_of : K.lookup f_is_of = some ⟨oc_is_of, od_is_of, .func (PySem.W.fnOf "is_of" "is_of" (defArgs s_is_of) (defBody s_is_of) (defScope s_is_of) .none kV_is_of dc_is_of pm_is_of an_is_of cd_is_of ct_is_of), sl_is_of⟩)
    (c_is_of : PySem.W.codeIn K cd_is_of "is_of" = true)
    (k_is_of : PySem.W.keepIn K (.ref f_is_of) = true)
    (a_is_name : PySem.W.nsIn K mainGlobals "is_name" = some (some (.ref f_is_name)))
    (l_is_name : K.lookup f_is_name = some ⟨oc_is_name, od_is_name, .func (PySem.W.fnOf "is_name" "is_name" (defArgs s_is_name) (defBody s_is_name) (defScope s_is_name) .none kV_is_name dc_is_name pm_is_name an_is_name cd_is_name ct_is_name), sl_is_name⟩)
    (c_is_name : PySem.W.codeIn K cd_is_name "is_name" = true)
    (k_is_name : PySem.W.keepIn K (.ref f_is_name) = true)
    (a_is_letter : PySem.W.nsIn K mainGlobals "is_letter" = some (some (.ref f_is_letter)))
    (l_is_letter : K.lookup f_is_letter = some ⟨oc_is_letter, od_is_letter, .func (PySem.W.fnOf "is_letter" "is_letter" (defArgs s_is_letter) (defBody s_is_letter) (defScope s_is_letter) .none kV_is_letter dc_is_letter pm_is_letter an_is_letter cd_is_letter ct_is_letter), sl_is_letter⟩)
    (c_is_letter : PySem.W.codeIn K cd_is_letter "is_letter" = true)
    (k_is_letter : PySem.W.keepIn K (.ref f_is_letter) = true)
    (a_is_option : PySem.W.nsIn K mainGlobals "is_option" = some (some (.ref f_is_option)))
    (l_is_option : K.lookup f_is_option = some ⟨oc_is_option, od_is_option, .func (PySem.W.fnOf "is_option" "is_option" (defArgs s_is_option) (defBody s_is_option) (defScope s_is_option) .none kV_is_option dc_is_option pm_is_option an_is_option cd_is_option ct_is_option), sl_is_option⟩)
    (c_is_option : PySem.W.codeIn K cd_is_option "is_option" = true)
    (k_is_option : PySem.W.keepIn K (.ref f_is_option) = true)
    (a_is_place : PySem.W.nsIn K mainGlobals "is_place" = some (some (.ref f_is_place)))
    (l_is_place : K.lookup f_is_place = some ⟨oc_is_place, od_is_place, .func (PySem.W.fnOf "is_place" "is_place" (defArgs s_is_place) (defBody s_is_place) (defScope s_is_place) .none kV_is_place dc_is_place pm_is_place an_is_place cd_is_place ct_is_place), sl_is_place⟩)
    (c_is_place : PySem.W.codeIn K cd_is_place "is_place" = true)
    (k_is_place : PySem.W.keepIn K (.ref f_is_place) = true)
    (a_option_fault : PySem.W.nsIn K mainGlobals "option_fault" = some (some (.ref f_option_fault)))
    (l_option_fault : K.lookup f_option_fault = some ⟨oc_option_fault, od_option_fault, .func (PySem.W.fnOf "option_fault" "option_fault" (defArgs s_option_fault) (defBody s_option_fault) (defScope s_option_fault) .none kV_option_fault dc_option_fault pm_option_fault an_option_fault cd_option_fault ct_option_fault), sl_option_fault⟩)
    (c_option_fault : PySem.W.codeIn K cd_option_fault "option_fault" = true)
    (k_option_fault : PySem.W.keepIn K (.ref f_option_fault) = true)
    (a_place_fault : PySem.W.nsIn K mainGlobals "place_fault" = some (some (.ref f_place_fault)))
    (l_place_fault : K.lookup f_place_fault = some ⟨oc_place_fault, od_place_fault, .func (PySem.W.fnOf "place_fault" "place_fault" (defArgs s_place_fault) (defBody s_place_fault) (defScope s_place_fault) .none kV_place_fault dc_place_fault pm_place_fault an_place_fault cd_place_fault ct_place_fault), sl_place_fault⟩)
    (c_place_fault : PySem.W.codeIn K cd_place_fault "place_fault" = true)
    (k_place_fault : PySem.W.keepIn K (.ref f_place_fault) = true)
    (a_fault : PySem.W.nsIn K mainGlobals "fault" = some (some (.ref f_fault)))
    (l_fault : K.lookup f_fault = some ⟨oc_fault, od_fault, .func (PySem.W.fnOf "fault" "fault" (defArgs s_fault) (defBody s_fault) (defScope s_fault) .none kV_fault dc_fault pm_fault an_fault cd_fault ct_fault), sl_fault⟩)
    (c_fault : PySem.W.codeIn K cd_fault "fault" = true)
    (k_fault : PySem.W.keepIn K (.ref f_fault) = true)
    (a_need_grammar : PySem.W.nsIn K mainGlobals "need_grammar" = some (some (.ref f_need_grammar)))
    (l_need_grammar : K.lookup f_need_grammar = some ⟨oc_need_grammar, od_need_grammar, .func (PySem.W.fnOf "need_grammar" "need_grammar" (defArgs s_need_grammar) (defBody s_need_grammar) (defScope s_need_grammar) .none kV_need_grammar dc_need_grammar pm_need_grammar an_need_grammar cd_need_grammar ct_need_grammar), sl_need_grammar⟩)
    (c_need_grammar : PySem.W.codeIn K cd_need_grammar "need_grammar" = true)
    (k_need_grammar : PySem.W.keepIn K (.ref f_need_grammar) = true)
    (a_is_grammar : PySem.W.nsIn K mainGlobals "is_grammar" = some (some (.ref f_is_grammar)))
    (l_is_grammar : K.lookup f_is_grammar = some ⟨oc_is_grammar, od_is_grammar, .func (PySem.W.fnOf "is_grammar" "is_grammar" (defArgs s_is_grammar) (defBody s_is_grammar) (defScope s_is_grammar) .none kV_is_grammar dc_is_grammar pm_is_grammar an_is_grammar cd_is_grammar ct_is_grammar), sl_is_grammar⟩)
    (c_is_grammar : PySem.W.codeIn K cd_is_grammar "is_grammar" = true)
    (k_is_grammar : PySem.W.keepIn K (.ref f_is_grammar) = true)
    (a_option_told : PySem.W.nsIn K mainGlobals "option_told" = some (some (.ref f_option_told)))
    (l_option_told : K.lookup f_option_told = some ⟨oc_option_told, od_option_told, .func (PySem.W.fnOf "option_told" "option_told" (defArgs s_option_told) (defBody s_option_told) (defScope s_option_told) .none kV_option_told dc_option_told pm_option_told an_option_told cd_option_told ct_option_told), sl_option_told⟩)
    (c_option_told : PySem.W.codeIn K cd_option_told "option_told" = true)
    (k_option_told : PySem.W.keepIn K (.ref f_option_told) = true)
    (a_has_figure : PySem.W.nsIn K mainGlobals "has_figure" = some (some (.ref f_has_figure)))
    (l_has_figure : K.lookup f_has_figure = some ⟨oc_has_figure, od_has_figure, .func (PySem.W.fnOf "has_figure" "has_figure" (defArgs s_has_figure) (defBody s_has_figure) (defScope s_has_figure) .none kV_has_figure dc_has_figure pm_has_figure an_has_figure cd_has_figure ct_has_figure), sl_has_figure⟩)
    (c_has_figure : PySem.W.codeIn K cd_has_figure "has_figure" = true)
    (k_has_figure : PySem.W.keepIn K (.ref f_has_figure) = true)
    (a_takes_numbers : PySem.W.nsIn K mainGlobals "takes_numbers" = some (some (.ref f_takes_numbers)))
    (l_takes_numbers : K.lookup f_takes_numbers = some ⟨oc_takes_numbers, od_takes_numbers, .func (PySem.W.fnOf "takes_numbers" "takes_numbers" (defArgs s_takes_numbers) (defBody s_takes_numbers) (defScope s_takes_numbers) .none kV_takes_numbers dc_takes_numbers pm_takes_numbers an_takes_numbers cd_takes_numbers ct_takes_numbers), sl_takes_numbers⟩)
    (c_takes_numbers : PySem.W.codeIn K cd_takes_numbers "takes_numbers" = true)
    (k_takes_numbers : PySem.W.keepIn K (.ref f_takes_numbers) = true)
    (a_tellings_of : PySem.W.nsIn K mainGlobals "tellings_of" = some (some (.ref f_tellings_of)))
    (l_tellings_of : K.lookup f_tellings_of = some ⟨oc_tellings_of, od_tellings_of, .func (PySem.W.fnOf "tellings_of" "tellings_of" (defArgs s_tellings_of) (defBody s_tellings_of) (defScope s_tellings_of) .none kV_tellings_of dc_tellings_of pm_tellings_of an_tellings_of cd_tellings_of ct_tellings_of), sl_tellings_of⟩)
    (c_tellings_of : PySem.W.codeIn K cd_tellings_of "tellings_of" = true)
    (k_tellings_of : PySem.W.keepIn K (.ref f_tellings_of) = true)
    (a_shortenings : PySem.W.nsIn K mainGlobals "shortenings" = some (some (.ref f_shortenings)))
    (l_shortenings : K.lookup f_shortenings = some ⟨oc_shortenings, od_shortenings, .func (PySem.W.fnOf "shortenings" "shortenings" (defArgs s_shortenings) (defBody s_shortenings) (defScope s_shortenings) .none kV_shortenings dc_shortenings pm_shortenings an_shortenings cd_shortenings ct_shortenings), sl_shortenings⟩)
    (c_shortenings : PySem.W.codeIn K cd_shortenings "shortenings" = true)
    (k_shortenings : PySem.W.keepIn K (.ref f_shortenings) = true)
    (a_need_wishes : PySem.W.nsIn K mainGlobals "need_wishes" = some (some (.ref f_need_wishes)))
    (l_need_wishes : K.lookup f_need_wishes = some ⟨oc_need_wishes, od_need_wishes, .func (PySem.W.fnOf "need_wishes" "need_wishes" (defArgs s_need_wishes) (defBody s_need_wishes) (defScope s_need_wishes) .none kV_need_wishes dc_need_wishes pm_need_wishes an_need_wishes cd_need_wishes ct_need_wishes), sl_need_wishes⟩)
    (c_need_wishes : PySem.W.codeIn K cd_need_wishes "need_wishes" = true)
    (k_need_wishes : PySem.W.keepIn K (.ref f_need_wishes) = true)
    (a_with_wishes : PySem.W.nsIn K mainGlobals "with_wishes" = some (some (.ref f_with_wishes)))
    (l_with_wishes : K.lookup f_with_wishes = some ⟨oc_with_wishes, od_with_wishes, .func (PySem.W.fnOf "with_wishes" "with_wishes" (defArgs s_with_wishes) (defBody s_with_wishes) (defScope s_with_wishes) .none kV_with_wishes dc_with_wishes pm_with_wishes an_with_wishes cd_with_wishes ct_with_wishes), sl_with_wishes⟩)
    (c_with_wishes : PySem.W.codeIn K cd_with_wishes "with_wishes" = true)
    (k_with_wishes : PySem.W.keepIn K (.ref f_with_wishes) = true)
    (a_fitting : PySem.W.nsIn K mainGlobals "fitting" = some (some (.ref f_fitting)))
    (l_fitting : K.lookup f_fitting = some ⟨oc_fitting, od_fitting, .func (PySem.W.fnOf "fitting" "fitting" (defArgs s_fitting) (defBody s_fitting) (defScope s_fitting) .none kV_fitting dc_fitting pm_fitting an_fitting cd_fitting ct_fitting), sl_fitting⟩)
    (c_fitting : PySem.W.codeIn K cd_fitting "fitting" = true)
    (k_fitting : PySem.W.keepIn K (.ref f_fitting) = true)
    (a_choice : PySem.W.nsIn K mainGlobals "choice" = some (some (.ref f_choice)))
    (l_choice : K.lookup f_choice = some ⟨oc_choice, od_choice, .func (PySem.W.fnOf "choice" "choice" (defArgs s_choice) (defBody s_choice) (defScope s_choice) .none kV_choice dc_choice pm_choice an_choice cd_choice ct_choice), sl_choice⟩)
    (c_choice : PySem.W.codeIn K cd_choice "choice" = true)
    (k_choice : PySem.W.keepIn K (.ref f_choice) = true)
    (a_cover : PySem.W.nsIn K mainGlobals "cover" = some (some (.ref f_cover)))
    (l_cover : K.lookup f_cover = some ⟨oc_cover, od_cover, .func (PySem.W.fnOf "cover" "cover" (defArgs s_cover) (defBody s_cover) (defScope s_cover) .none kV_cover dc_cover pm_cover an_cover cd_cover ct_cover), sl_cover⟩)
    (c_cover : PySem.W.codeIn K cd_cover "cover" = true)
    (k_cover : PySem.W.keepIn K (.ref f_cover) = true)
    (a_law_mixed : PySem.W.nsIn K mainGlobals "_law_mixed" = some (some (.ref f_law_mixed)))
    (l_law_mixed : K.lookup f_law_mixed = some ⟨oc_law_mixed, od_law_mixed, .func (PySem.W.fnOf "_law_mixed" "_law_mixed" (defArgs s_law_mixed) (defBody s_law_mixed) (defScope s_law_mixed) .none kV_law_mixed dc_law_mixed pm_law_mixed an_law_mixed cd_law_mixed ct_law_mixed), sl_law_mixed⟩)
    (c_law_mixed : PySem.W.codeIn K cd_law_mixed "_law_mixed" = true)
    (k_law_mixed : PySem.W.keepIn K (.ref f_law_mixed) = true)
    (a_law_begin : PySem.W.nsIn K mainGlobals "_law_begin" = some (some (.ref f_law_begin)))
    (l_law_begin : K.lookup f_law_begin = some ⟨oc_law_begin, od_law_begin, .func (PySem.W.fnOf "_law_begin" "_law_begin" (defArgs s_law_begin) (defBody s_law_begin) (defScope s_law_begin) .none kV_law_begin dc_law_begin pm_law_begin an_law_begin cd_law_begin ct_law_begin), sl_law_begin⟩)
    (c_law_begin : PySem.W.codeIn K cd_law_begin "_law_begin" = true)
    (k_law_begin : PySem.W.keepIn K (.ref f_law_begin) = true)
    (a_law_draw : PySem.W.nsIn K mainGlobals "_law_draw" = some (some (.ref f_law_draw)))
    (l_law_draw : K.lookup f_law_draw = some ⟨oc_law_draw, od_law_draw, .func (PySem.W.fnOf "_law_draw" "_law_draw" (defArgs s_law_draw) (defBody s_law_draw) (defScope s_law_draw) .none kV_law_draw dc_law_draw pm_law_draw an_law_draw cd_law_draw ct_law_draw), sl_law_draw⟩)
    (c_law_draw : PySem.W.codeIn K cd_law_draw "_law_draw" = true)
    (k_law_draw : PySem.W.keepIn K (.ref f_law_draw) = true)
    (a_law_of : PySem.W.nsIn K mainGlobals "_law_of" = some (some (.ref f_law_of)))
    (l_law_of : K.lookup f_law_of = some ⟨oc_law_of, od_law_of, .func (PySem.W.fnOf "_law_of" "_law_of" (defArgs s_law_of) (defBody s_law_of) (defScope s_law_of) .none kV_law_of dc_law_of pm_law_of an_law_of cd_law_of ct_law_of), sl_law_of⟩)
    (c_law_of : PySem.W.codeIn K cd_law_of "_law_of" = true)
    (k_law_of : PySem.W.keepIn K (.ref f_law_of) = true)
    (a_law_option_name : PySem.W.nsIn K mainGlobals "_law_option_name" = some (some (.ref f_law_option_name)))
    (l_law_option_name : K.lookup f_law_option_name = some ⟨oc_law_option_name, od_law_option_name, .func (PySem.W.fnOf "_law_option_name" "_law_option_name" (defArgs s_law_option_name) (defBody s_law_option_name) (defScope s_law_option_name) .none kV_law_option_name dc_law_option_name pm_law_option_name an_law_option_name cd_law_option_name ct_law_option_name), sl_law_option_name⟩)
    (c_law_option_name : PySem.W.codeIn K cd_law_option_name "_law_option_name" = true)
    (k_law_option_name : PySem.W.keepIn K (.ref f_law_option_name) = true)
    (a_law_letter : PySem.W.nsIn K mainGlobals "_law_letter" = some (some (.ref f_law_letter)))
    (l_law_letter : K.lookup f_law_letter = some ⟨oc_law_letter, od_law_letter, .func (PySem.W.fnOf "_law_letter" "_law_letter" (defArgs s_law_letter) (defBody s_law_letter) (defScope s_law_letter) .none kV_law_letter dc_law_letter pm_law_letter an_law_letter cd_law_letter ct_law_letter), sl_law_letter⟩)
    (c_law_letter : PySem.W.codeIn K cd_law_letter "_law_letter" = true)
    (k_law_letter : PySem.W.keepIn K (.ref f_law_letter) = true)
    (a_law_clashing : PySem.W.nsIn K mainGlobals "_law_clashing" = some (some (.ref f_law_clashing)))
    (l_law_clashing : K.lookup f_law_clashing = some ⟨oc_law_clashing, od_law_clashing, .func (PySem.W.fnOf "_law_clashing" "_law_clashing" (defArgs s_law_clashing) (defBody s_law_clashing) (defScope s_law_clashing) .none kV_law_clashing dc_law_clashing pm_law_clashing an_law_clashing cd_law_clashing ct_law_clashing), sl_law_clashing⟩)
    (c_law_clashing : PySem.W.codeIn K cd_law_clashing "_law_clashing" = true)
    (k_law_clashing : PySem.W.keepIn K (.ref f_law_clashing) = true)
    (a_law_more : PySem.W.nsIn K mainGlobals "_law_more" = some (some (.ref f_law_more)))
    (l_law_more : K.lookup f_law_more = some ⟨oc_law_more, od_law_more, .func (PySem.W.fnOf "_law_more" "_law_more" (defArgs s_law_more) (defBody s_law_more) (defScope s_law_more) .none kV_law_more dc_law_more pm_law_more an_law_more cd_law_more ct_law_more), sl_law_more⟩)
    (c_law_more : PySem.W.codeIn K cd_law_more "_law_more" = true)
    (k_law_more : PySem.W.keepIn K (.ref f_law_more) = true)
    (a_law_places : PySem.W.nsIn K mainGlobals "_law_places" = some (some (.ref f_law_places)))
    (l_law_places : K.lookup f_law_places = some ⟨oc_law_places, od_law_places, .func (PySem.W.fnOf "_law_places" "_law_places" (defArgs s_law_places) (defBody s_law_places) (defScope s_law_places) .none kV_law_places dc_law_places pm_law_places an_law_places cd_law_places ct_law_places), sl_law_places⟩)
    (c_law_places : PySem.W.codeIn K cd_law_places "_law_places" = true)
    (k_law_places : PySem.W.keepIn K (.ref f_law_places) = true)
    (a_law_grammar : PySem.W.nsIn K mainGlobals "_law_grammar" = some (some (.ref f_law_grammar)))
    (l_law_grammar : K.lookup f_law_grammar = some ⟨oc_law_grammar, od_law_grammar, .func (PySem.W.fnOf "_law_grammar" "_law_grammar" (defArgs s_law_grammar) (defBody s_law_grammar) (defScope s_law_grammar) .none kV_law_grammar dc_law_grammar pm_law_grammar an_law_grammar cd_law_grammar ct_law_grammar), sl_law_grammar⟩)
    (c_law_grammar : PySem.W.codeIn K cd_law_grammar "_law_grammar" = true)
    (k_law_grammar : PySem.W.keepIn K (.ref f_law_grammar) = true)
    (a_law_option : PySem.W.nsIn K mainGlobals "_law_option" = some (some (.ref f_law_option)))
    (l_law_option : K.lookup f_law_option = some ⟨oc_law_option, od_law_option, .func (PySem.W.fnOf "_law_option" "_law_option" (defArgs s_law_option) (defBody s_law_option) (defScope s_law_option) .none kV_law_option dc_law_option pm_law_option an_law_option cd_law_option ct_law_option), sl_law_option⟩)
    (c_law_option : PySem.W.codeIn K cd_law_option "_law_option" = true)
    (k_law_option : PySem.W.keepIn K (.ref f_law_option) = true)
    (a_law_is_number : PySem.W.nsIn K mainGlobals "_law_is_number" = some (some (.ref f_law_is_number)))
    (l_law_is_number : K.lookup f_law_is_number = some ⟨oc_law_is_number, od_law_is_number, .func (PySem.W.fnOf "_law_is_number" "_law_is_number" (defArgs s_law_is_number) (defBody s_law_is_number) (defScope s_law_is_number) .none kV_law_is_number dc_law_is_number pm_law_is_number an_law_is_number cd_law_is_number ct_law_is_number), sl_law_is_number⟩)
    (c_law_is_number : PySem.W.codeIn K cd_law_is_number "_law_is_number" = true)
    (k_law_is_number : PySem.W.keepIn K (.ref f_law_is_number) = true)
    (a_law_shortened : PySem.W.nsIn K mainGlobals "_law_shortened" = some (some (.ref f_law_shortened)))
    (l_law_shortened : K.lookup f_law_shortened = some ⟨oc_law_shortened, od_law_shortened, .func (PySem.W.fnOf "_law_shortened" "_law_shortened" (defArgs s_law_shortened) (defBody s_law_shortened) (defScope s_law_shortened) .none kV_law_shortened dc_law_shortened pm_law_shortened an_law_shortened cd_law_shortened ct_law_shortened), sl_law_shortened⟩)
    (c_law_shortened : PySem.W.codeIn K cd_law_shortened "_law_shortened" = true)
    (k_law_shortened : PySem.W.keepIn K (.ref f_law_shortened) = true)
    (a_law_alone : PySem.W.nsIn K mainGlobals "_law_alone" = some (some (.ref f_law_alone)))
    (l_law_alone : K.lookup f_law_alone = some ⟨oc_law_alone, od_law_alone, .func (PySem.W.fnOf "_law_alone" "_law_alone" (defArgs s_law_alone) (defBody s_law_alone) (defScope s_law_alone) .none kV_law_alone dc_law_alone pm_law_alone an_law_alone cd_law_alone ct_law_alone), sl_law_alone⟩)
    (c_law_alone : PySem.W.codeIn K cd_law_alone "_law_alone" = true)
    (k_law_alone : PySem.W.keepIn K (.ref f_law_alone) = true)
    (a_law_fitting : PySem.W.nsIn K mainGlobals "_law_fitting" = some (some (.ref f_law_fitting)))
    (l_law_fitting : K.lookup f_law_fitting = some ⟨oc_law_fitting, od_law_fitting, .func (PySem.W.fnOf "_law_fitting" "_law_fitting" (defArgs s_law_fitting) (defBody s_law_fitting) (defScope s_law_fitting) .none kV_law_fitting dc_law_fitting pm_law_fitting an_law_fitting cd_law_fitting ct_law_fitting), sl_law_fitting⟩)
    (c_law_fitting : PySem.W.codeIn K cd_law_fitting "_law_fitting" = true)
    (k_law_fitting : PySem.W.keepIn K (.ref f_law_fitting) = true)
    (a_law_apart : PySem.W.nsIn K mainGlobals "_law_apart" = some (some (.ref f_law_apart)))
    (l_law_apart : K.lookup f_law_apart = some ⟨oc_law_apart, od_law_apart, .func (PySem.W.fnOf "_law_apart" "_law_apart" (defArgs s_law_apart) (defBody s_law_apart) (defScope s_law_apart) .none kV_law_apart dc_law_apart pm_law_apart an_law_apart cd_law_apart ct_law_apart), sl_law_apart⟩)
    (c_law_apart : PySem.W.codeIn K cd_law_apart "_law_apart" = true)
    (k_law_apart : PySem.W.keepIn K (.ref f_law_apart) = true)
    (a_law_covers : PySem.W.nsIn K mainGlobals "_law_covers" = some (some (.ref f_law_covers)))
    (l_law_covers : K.lookup f_law_covers = some ⟨oc_law_covers, od_law_covers, .func (PySem.W.fnOf "_law_covers" "_law_covers" (defArgs s_law_covers) (defBody s_law_covers) (defScope s_law_covers) .none kV_law_covers dc_law_covers pm_law_covers an_law_covers cd_law_covers ct_law_covers), sl_law_covers⟩)
    (c_law_covers : PySem.W.codeIn K cd_law_covers "_law_covers" = true)
    (k_law_covers : PySem.W.keepIn K (.ref f_law_covers) = true)
    (a_law_greatest : PySem.W.nsIn K mainGlobals "_law_greatest" = some (some (.ref f_law_greatest)))
    (l_law_greatest : K.lookup f_law_greatest = some ⟨oc_law_greatest, od_law_greatest, .func (PySem.W.fnOf "_law_greatest" "_law_greatest" (defArgs s_law_greatest) (defBody s_law_greatest) (defScope s_law_greatest) .none kV_law_greatest dc_law_greatest pm_law_greatest an_law_greatest cd_law_greatest ct_law_greatest), sl_law_greatest⟩)
    (c_law_greatest : PySem.W.codeIn K cd_law_greatest "_law_greatest" = true)
    (k_law_greatest : PySem.W.keepIn K (.ref f_law_greatest) = true)
    (a_law_right : PySem.W.nsIn K mainGlobals "_law_right" = some (some (.ref f_law_right)))
    (l_law_right : K.lookup f_law_right = some ⟨oc_law_right, od_law_right, .func (PySem.W.fnOf "_law_right" "_law_right" (defArgs s_law_right) (defBody s_law_right) (defScope s_law_right) .none kV_law_right dc_law_right pm_law_right an_law_right cd_law_right ct_law_right), sl_law_right⟩)
    (c_law_right : PySem.W.codeIn K cd_law_right "_law_right" = true)
    (k_law_right : PySem.W.keepIn K (.ref f_law_right) = true)
    (a_law : PySem.W.nsIn K mainGlobals "law" = some (some (.ref f_law)))
    (l_law : K.lookup f_law = some ⟨oc_law, od_law, .func (PySem.W.fnOf "law" "law" (defArgs s_law) (defBody s_law) (defScope s_law) .none kV_law dc_law pm_law an_law cd_law ct_law), sl_law⟩)
    (c_law : PySem.W.codeIn K cd_law "law" = true)
    (k_law : PySem.W.keepIn K (.ref f_law) = true)
    (n_isinstance : PySem.W.nsIn K mainGlobals "isinstance" = some none)
    (n_str : PySem.W.nsIn K mainGlobals "str" = some none)
    (n_tuple : PySem.W.nsIn K mainGlobals "tuple" = some none)
    (n_bool : PySem.W.nsIn K mainGlobals "bool" = some none)
    (n_int : PySem.W.nsIn K mainGlobals "int" = some none)
    (n_list : PySem.W.nsIn K mainGlobals "list" = some none)
    (n_set : PySem.W.nsIn K mainGlobals "set" = some none)
    (n_len : PySem.W.nsIn K mainGlobals "len" = some none)
    (n_all : PySem.W.nsIn K mainGlobals "all" = some none)
    (n_any : PySem.W.nsIn K mainGlobals "any" = some none)
    (n_sorted : PySem.W.nsIn K mainGlobals "sorted" = some none)
    (n_range : PySem.W.nsIn K mainGlobals "range" = some none)
    (n_enumerate : PySem.W.nsIn K mainGlobals "enumerate" = some none)
    (n_repr : PySem.W.nsIn K mainGlobals "repr" = some none)
    (g_LETTERS : PySem.W.nsIn K mainGlobals "LETTERS" = some (some (.str "abcdefghijklmnopqrstuvwxyz" t_LETTERS)))
    (g_FIGURES : PySem.W.nsIn K mainGlobals "FIGURES" = some (some (.str "0123456789" t_FIGURES)))
    (g_MOST_IN_NAME : PySem.W.nsIn K mainGlobals "MOST_IN_NAME" = some (some (.int 12 t_MOST_IN_NAME)))
    (g_MOST_OPTIONS : PySem.W.nsIn K mainGlobals "MOST_OPTIONS" = some (some (.int 24 t_MOST_OPTIONS)))
    (g_MOST_PLACES : PySem.W.nsIn K mainGlobals "MOST_PLACES" = some (some (.int 5 t_MOST_PLACES)))
    (g_SHORT : PySem.W.nsIn K mainGlobals "SHORT" = some (some (.int 0 t_SHORT)))
    (g_MINUS : PySem.W.nsIn K mainGlobals "MINUS" = some (some (.int 2 t_MINUS)))
    (g_MOST_WISHES : PySem.W.nsIn K mainGlobals "MOST_WISHES" = some (some (.int 16 t_MOST_WISHES)))
    (g_KINDS : PySem.W.nsIn K mainGlobals "KINDS" = some (some (.ref aK)))
    (s_KINDS : K.lookup aK = some ⟨.type "tuple", od_KINDS, .seq #[.str "flag" t_KINDS0, .str "count" t_KINDS1, .str "once" t_KINDS2, .str "last" t_KINDS3, .str "all" t_KINDS4, .str "maybe" t_KINDS5] n_KINDS, sl_KINDS⟩)
    (g_ARITIES : PySem.W.nsIn K mainGlobals "ARITIES" = some (some (.ref aA)))
    (s_ARITIES : K.lookup aA = some ⟨.type "tuple", od_ARITIES, .seq #[.str "one" t_ARITIES0, .str "may" t_ARITIES1, .str "many" t_ARITIES2] n_ARITIES, sl_ARITIES⟩)
    (pg : PySem.W.plainGet K C Str.empty = true)
    (hd : PySem.W.hasDictIn K C = true)
    (po : PySem.W.plainOver K C = true)
    (sa : PySem.W.findIn K (.ref C) "__setattr__" = some (some (.builtin "object.__setattr__")))
    (mk : PySem.W.makesIn K C = true)
    (kc : PySem.W.keepIn K (.ref C) = true)
    (nW : PySem.W.findIn K (.ref C) "wishes" = some none)
    (nE : PySem.W.findIn K (.ref C) "edges" = some none)
    (nT : PySem.W.findIn K (.ref C) "taken" = some none) :
    LawG l.prog w K mg fa := by
  have e := hfa.symm.trans (PySem.W.mg_of X G a_law)
  cases e
  have T : Txt K mg C aK aA := ⟨PySem.W.mg_none_of X G n_isinstance, PySem.W.mg_none_of X G n_str, PySem.W.mg_none_of X G n_tuple, PySem.W.mg_none_of X G n_bool, PySem.W.mg_none_of X G n_int, PySem.W.mg_none_of X G n_list, PySem.W.mg_none_of X G n_set, PySem.W.mg_none_of X G n_len, PySem.W.mg_none_of X G n_all, PySem.W.mg_none_of X G n_any, PySem.W.mg_none_of X G n_sorted, PySem.W.mg_none_of X G n_range, PySem.W.mg_none_of X G n_enumerate, PySem.W.mg_none_of X G n_repr, ⟨_, PySem.W.mg_of X G g_LETTERS⟩, ⟨_, PySem.W.mg_of X G g_FIGURES⟩, ⟨_, PySem.W.mg_of X G g_MOST_IN_NAME⟩, ⟨_, PySem.W.mg_of X G g_MOST_OPTIONS⟩, ⟨_, PySem.W.mg_of X G g_MOST_PLACES⟩, ⟨_, PySem.W.mg_of X G g_SHORT⟩, ⟨_, PySem.W.mg_of X G g_MINUS⟩, ⟨_, PySem.W.mg_of X G g_MOST_WISHES⟩, PySem.W.mg_of X G g_KINDS, PySem.W.mg_of X G g_ARITIES, fun H => .inr ⟨_, _, _, s_KINDS, rfl, rfl, by show 6 ≤ sizeLine; decide, .cons ⟨_, rfl⟩ (.cons ⟨_, rfl⟩ (.cons ⟨_, rfl⟩ (.cons ⟨_, rfl⟩ (.cons ⟨_, rfl⟩ (.cons ⟨_, rfl⟩ (.nil))))))⟩, fun H => .inr ⟨_, _, _, s_ARITIES, rfl, rfl, by show 3 ≤ sizeLine; decide, .cons ⟨_, rfl⟩ (.cons ⟨_, rfl⟩ (.cons ⟨_, rfl⟩ (.nil)))⟩, ⟨pg, hd, po, sa⟩, PySem.W.mg_of X G aC, nW, nE, nT⟩
  have F_init := fun_mk (st := s_init) l_init c_init k_init
  have b_init := F_init.binds (ps := ["self", "wishes", "numbers"]) fun _ _ _ _ _ _ us hl => match us, hl with | [_, _, _], _ => rfl
  have F_find := fun_mk (st := s_find) l_find c_find k_find
  have b_find := F_find.binds (ps := ["self", "name", "seen"]) fun _ _ _ _ _ _ us hl => match us, hl with | [_, _, _], _ => rfl
  have F_reached := fun_mk (st := s_reached) l_reached c_reached k_reached
  have b_reached := F_reached.binds (ps := ["self"]) fun _ _ _ _ _ _ us hl => match us, hl with | [_], _ => rfl
  have F_is_of := fun_mk (st := s_is_of) l_is_of c_is_of k_is_of
  have b_is_of := F_is_of.binds (ps := ["thing", "signs", "least", "most"]) fun _ _ _ _ _ _ us hl => match us, hl with | [_, _, _, _], _ => rfl
  have F_is_name := fun_mk (st := s_is_name) l_is_name c_is_name k_is_name
  have b_is_name := F_is_name.binds (ps := ["thing"]) fun _ _ _ _ _ _ us hl => match us, hl with | [_], _ => rfl
  have F_is_letter := fun_mk (st := s_is_letter) l_is_letter c_is_letter k_is_letter
  have b_is_letter := F_is_letter.binds (ps := ["thing"]) fun _ _ _ _ _ _ us hl => match us, hl with | [_], _ => rfl
  have F_is_option := fun_mk (st := s_is_option) l_is_option c_is_option k_is_option
  have b_is_option := F_is_option.binds (ps := ["thing"]) fun _ _ _ _ _ _ us hl => match us, hl with | [_], _ => rfl
  have F_is_place := fun_mk (st := s_is_place) l_is_place c_is_place k_is_place
  have b_is_place := F_is_place.binds (ps := ["thing"]) fun _ _ _ _ _ _ us hl => match us, hl with | [_], _ => rfl
  have F_option_fault := fun_mk (st := s_option_fault) l_option_fault c_option_fault k_option_fault
  have b_option_fault := F_option_fault.binds (ps := ["options"]) fun _ _ _ _ _ _ us hl => match us, hl with | [_], _ => rfl
  have F_place_fault := fun_mk (st := s_place_fault) l_place_fault c_place_fault k_place_fault
  have b_place_fault := F_place_fault.binds (ps := ["places"]) fun _ _ _ _ _ _ us hl => match us, hl with | [_], _ => rfl
  have F_fault := fun_mk (st := s_fault) l_fault c_fault k_fault
  have b_fault := F_fault.binds (ps := ["thing"]) fun _ _ _ _ _ _ us hl => match us, hl with | [_], _ => rfl
  have F_need_grammar := fun_mk (st := s_need_grammar) l_need_grammar c_need_grammar k_need_grammar
  have b_need_grammar := F_need_grammar.binds (ps := ["thing"]) fun _ _ _ _ _ _ us hl => match us, hl with | [_], _ => rfl
  have F_is_grammar := fun_mk (st := s_is_grammar) l_is_grammar c_is_grammar k_is_grammar
  have b_is_grammar := F_is_grammar.binds (ps := ["thing"]) fun _ _ _ _ _ _ us hl => match us, hl with | [_], _ => rfl
  have F_option_told := fun_mk (st := s_option_told) l_option_told c_option_told k_option_told
  have b_option_told := F_option_told.binds (ps := ["grammar", "text"]) fun _ _ _ _ _ _ us hl => match us, hl with | [_, _], _ => rfl
  have F_has_figure := fun_mk (st := s_has_figure) l_has_figure c_has_figure k_has_figure
  have b_has_figure := F_has_figure.binds (ps := ["grammar"]) fun _ _ _ _ _ _ us hl => match us, hl with | [_], _ => rfl
  have F_takes_numbers := fun_mk (st := s_takes_numbers) l_takes_numbers c_takes_numbers k_takes_numbers
  have b_takes_numbers := F_takes_numbers.binds (ps := ["grammar"]) fun _ _ _ _ _ _ us hl => match us, hl with | [_], _ => rfl
  have F_tellings_of := fun_mk (st := s_tellings_of) l_tellings_of c_tellings_of k_tellings_of
  have b_tellings_of := F_tellings_of.binds (ps := ["grammar"]) fun _ _ _ _ _ _ us hl => match us, hl with | [_], _ => rfl
  have F_shortenings := fun_mk (st := s_shortenings) l_shortenings c_shortenings k_shortenings
  have b_shortenings := F_shortenings.binds (ps := ["grammar"]) fun _ _ _ _ _ _ us hl => match us, hl with | [_], _ => rfl
  have F_need_wishes := fun_mk (st := s_need_wishes) l_need_wishes c_need_wishes k_need_wishes
  have b_need_wishes := F_need_wishes.binds (ps := ["grammar", "wishes"]) fun _ _ _ _ _ _ us hl => match us, hl with | [_, _], _ => rfl
  have F_with_wishes := fun_mk (st := s_with_wishes) l_with_wishes c_with_wishes k_with_wishes
  have b_with_wishes := F_with_wishes.binds (ps := ["grammar", "wishes"]) fun _ _ _ _ _ _ us hl => match us, hl with | [_, _], _ => rfl
  have F_fitting := fun_mk (st := s_fitting) l_fitting c_fitting k_fitting
  have b_fitting := F_fitting.binds (ps := ["grammar", "wishes"]) fun _ _ _ _ _ _ us hl => match us, hl with | [_, _], _ => rfl
  have F_choice := fun_mk (st := s_choice) l_choice c_choice k_choice
  have b_choice := F_choice.binds (ps := ["grammar", "wishes"]) fun _ _ _ _ _ _ us hl => match us, hl with | [_, _], _ => rfl
  have F_cover := fun_mk (st := s_cover) l_cover c_cover k_cover
  have b_cover := F_cover.binds (ps := ["grammar", "wishes"]) fun _ _ _ _ _ _ us hl => match us, hl with | [_, _], _ => rfl
  have F_law_mixed := fun_mk (st := s_law_mixed) l_law_mixed c_law_mixed k_law_mixed
  have b_law_mixed := F_law_mixed.binds (ps := ["cell", "k"]) fun _ _ _ _ _ _ us hl => match us, hl with | [_, _], _ => rfl
  have F_law_begin := fun_mk (st := s_law_begin) l_law_begin c_law_begin k_law_begin
  have b_law_begin := F_law_begin.binds (ps := ["script"]) fun _ _ _ _ _ _ us hl => match us, hl with | [_], _ => rfl
  have F_law_draw := fun_mk (st := s_law_draw) l_law_draw c_law_draw k_law_draw
  have b_law_draw := F_law_draw.binds (ps := ["state", "many"]) fun _ _ _ _ _ _ us hl => match us, hl with | [_, _], _ => rfl
  have F_law_of := fun_mk (st := s_law_of) l_law_of c_law_of k_law_of
  have b_law_of := F_law_of.binds (ps := ["state", "some"]) fun _ _ _ _ _ _ us hl => match us, hl with | [_, _], _ => rfl
  have F_law_option_name := fun_mk (st := s_law_option_name) l_law_option_name c_law_option_name k_law_option_name
  have b_law_option_name := F_law_option_name.binds (ps := ["state"]) fun _ _ _ _ _ _ us hl => match us, hl with | [_], _ => rfl
  have F_law_letter := fun_mk (st := s_law_letter) l_law_letter c_law_letter k_law_letter
  have b_law_letter := F_law_letter.binds (ps := ["state"]) fun _ _ _ _ _ _ us hl => match us, hl with | [_], _ => rfl
  have F_law_clashing := fun_mk (st := s_law_clashing) l_law_clashing c_law_clashing k_law_clashing
  have b_law_clashing := F_law_clashing.binds (ps := ["state", "many"]) fun _ _ _ _ _ _ us hl => match us, hl with | [_, _], _ => rfl
  have F_law_more := fun_mk (st := s_law_more) l_law_more c_law_more k_law_more
  have b_law_more := F_law_more.binds (ps := ["state", "options", "many"]) fun _ _ _ _ _ _ us hl => match us, hl with | [_, _, _], _ => rfl
  have F_law_places := fun_mk (st := s_law_places) l_law_places c_law_places k_law_places
  have b_law_places := F_law_places.binds (ps := ["state"]) fun _ _ _ _ _ _ us hl => match us, hl with | [_], _ => rfl
  have F_law_grammar := fun_mk (st := s_law_grammar) l_law_grammar c_law_grammar k_law_grammar
  have b_law_grammar := F_law_grammar.binds (ps := ["state", "most"]) fun _ _ _ _ _ _ us hl => match us, hl with | [_, _], _ => rfl
  have F_law_option := fun_mk (st := s_law_option) l_law_option c_law_option k_law_option
  have b_law_option := F_law_option.binds (ps := ["grammar", "told"]) fun _ _ _ _ _ _ us hl => match us, hl with | [_, _], _ => rfl
  have F_law_is_number := fun_mk (st := s_law_is_number) l_law_is_number c_law_is_number k_law_is_number
  have b_law_is_number := F_law_is_number.binds (ps := ["grammar", "word"]) fun _ _ _ _ _ _ us hl => match us, hl with | [_, _], _ => rfl
  have F_law_shortened := fun_mk (st := s_law_shortened) l_law_shortened c_law_shortened k_law_shortened
  have b_law_shortened := F_law_shortened.binds (ps := ["grammar"]) fun _ _ _ _ _ _ us hl => match us, hl with | [_], _ => rfl
  have F_law_alone := fun_mk (st := s_law_alone) l_law_alone c_law_alone k_law_alone
  have b_law_alone := F_law_alone.binds (ps := ["grammar", "wish"]) fun _ _ _ _ _ _ us hl => match us, hl with | [_, _], _ => rfl
  have F_law_fitting := fun_mk (st := s_law_fitting) l_law_fitting c_law_fitting k_law_fitting
  have b_law_fitting := F_law_fitting.binds (ps := ["grammar", "wishes"]) fun _ _ _ _ _ _ us hl => match us, hl with | [_, _], _ => rfl
  have F_law_apart := fun_mk (st := s_law_apart) l_law_apart c_law_apart k_law_apart
  have b_law_apart := F_law_apart.binds (ps := ["wishes"]) fun _ _ _ _ _ _ us hl => match us, hl with | [_], _ => rfl
  have F_law_covers := fun_mk (st := s_law_covers) l_law_covers c_law_covers k_law_covers
  have b_law_covers := F_law_covers.binds (ps := ["grammar", "wishes", "names", "letters"]) fun _ _ _ _ _ _ us hl => match us, hl with | [_, _, _, _], _ => rfl
  have F_law_greatest := fun_mk (st := s_law_greatest) l_law_greatest c_law_greatest k_law_greatest
  have b_law_greatest := F_law_greatest.binds (ps := ["grammar", "wishes"]) fun _ _ _ _ _ _ us hl => match us, hl with | [_, _], _ => rfl
  have F_law_right := fun_mk (st := s_law_right) l_law_right c_law_right k_law_right
  have b_law_right := F_law_right.binds (ps := ["grammar", "wishes"]) fun _ _ _ _ _ _ us hl => match us, hl with | [_, _], _ => rfl
  have F_law := fun_mk (st := s_law) l_law c_law k_law
  have b_law := F_law.binds (ps := ["script"]) fun _ _ _ _ _ _ us hl => match us, hl with | [_], _ => rfl
  refine ⟨_, F_law, fun s v => .of_eq rfl, fun base kb nb cdv s H us Q E hr hgd hs => ?_⟩
  have GF := ok_find (P := l.prog) (w := w) (base := base) F_find b_find ⟨a_find, i_find, k_find⟩ T 17
  have GI := ok_init F_init GF b_find ⟨a_find, i_find, k_find⟩ T
  have GR := ok_reached (P := l.prog) (w := w) (base := base) F_reached T
  have MP : Mk K C f_init := ⟨mk, a_init, i_init, kc⟩
  have Dis_of := ok_is_of (P := l.prog) (w := w) (base := base) F_is_of b_is_of (PySem.W.mg_of X G a_is_of) T 
  have Dis_name := ok_is_name (P := l.prog) (w := w) (base := base) F_is_name b_is_name (PySem.W.mg_of X G a_is_name) T Dis_of
  have Dis_letter := ok_is_letter (P := l.prog) (w := w) (base := base) F_is_letter b_is_letter (PySem.W.mg_of X G a_is_letter) T 
  have Dis_option := ok_is_option (P := l.prog) (w := w) (base := base) F_is_option b_is_option (PySem.W.mg_of X G a_is_option) T Dis_letter Dis_name
  have Dis_place := ok_is_place (P := l.prog) (w := w) (base := base) F_is_place b_is_place (PySem.W.mg_of X G a_is_place) T Dis_name
  have Doption_fault := ok_option_fault (P := l.prog) (w := w) (base := base) F_option_fault b_option_fault (PySem.W.mg_of X G a_option_fault) T Dis_option
  have Dplace_fault := ok_place_fault (P := l.prog) (w := w) (base := base) F_place_fault b_place_fault (PySem.W.mg_of X G a_place_fault) T Dis_place
  have Dfault := ok_fault (P := l.prog) (w := w) (base := base) F_fault b_fault (PySem.W.mg_of X G a_fault) T Doption_fault Dplace_fault
  have Dneed_grammar := ok_need_grammar (P := l.prog) (w := w) (base := base) F_need_grammar b_need_grammar (PySem.W.mg_of X G a_need_grammar) T Dfault
  have Dis_grammar := ok_is_grammar (P := l.prog) (w := w) (base := base) F_is_grammar b_is_grammar (PySem.W.mg_of X G a_is_grammar) T Dfault
  have Doption_told := ok_option_told (P := l.prog) (w := w) (base := base) F_option_told b_option_told (PySem.W.mg_of X G a_option_told) T 
  have Dhas_figure := ok_has_figure (P := l.prog) (w := w) (base := base) F_has_figure b_has_figure (PySem.W.mg_of X G a_has_figure) T 
  have Dtakes_numbers := ok_takes_numbers (P := l.prog) (w := w) (base := base) F_takes_numbers b_takes_numbers (PySem.W.mg_of X G a_takes_numbers) T Dhas_figure
  have Dtellings_of := ok_tellings_of (P := l.prog) (w := w) (base := base) F_tellings_of b_tellings_of (PySem.W.mg_of X G a_tellings_of) T Doption_told
  have Dshortenings := ok_shortenings (P := l.prog) (w := w) (base := base) F_shortenings b_shortenings (PySem.W.mg_of X G a_shortenings) T Dtellings_of
  have Dneed_wishes := ok_need_wishes (P := l.prog) (w := w) (base := base) F_need_wishes b_need_wishes (PySem.W.mg_of X G a_need_wishes) T Dis_option Dneed_grammar
  have Dwith_wishes := ok_with_wishes (P := l.prog) (w := w) (base := base) F_with_wishes b_with_wishes (PySem.W.mg_of X G a_with_wishes) T Dis_grammar
  have Dfitting := ok_fitting (P := l.prog) (w := w) (base := base) F_fitting b_fitting (PySem.W.mg_of X G a_fitting) T Dshortenings Dtakes_numbers Dwith_wishes
  have Dchoice := ok_choice (P := l.prog) (w := w) (base := base) F_choice b_choice (PySem.W.mg_of X G a_choice) T Dfitting Dneed_wishes MP GI b_init
  have Dcover := ok_cover (P := l.prog) (w := w) (base := base) F_cover b_cover (PySem.W.mg_of X G a_cover) T Dfitting Dneed_wishes MP GI b_init ⟨a_reached, i_reached, k_reached⟩ GR b_reached
  have Dlaw_mixed := ok_law_mixed (P := l.prog) (w := w) (base := base) F_law_mixed b_law_mixed (PySem.W.mg_of X G a_law_mixed) T 
  have Dlaw_begin := ok_law_begin (P := l.prog) (w := w) (base := base) F_law_begin b_law_begin (PySem.W.mg_of X G a_law_begin) T 
  have Dlaw_draw := ok_law_draw (P := l.prog) (w := w) (base := base) F_law_draw b_law_draw (PySem.W.mg_of X G a_law_draw) T Dlaw_mixed
  have Dlaw_of := ok_law_of (P := l.prog) (w := w) (base := base) F_law_of b_law_of (PySem.W.mg_of X G a_law_of) T Dlaw_draw
  have Dlaw_option_name := ok_law_option_name (P := l.prog) (w := w) (base := base) F_law_option_name b_law_option_name (PySem.W.mg_of X G a_law_option_name) T Dlaw_draw
  have Dlaw_letter := ok_law_letter (P := l.prog) (w := w) (base := base) F_law_letter b_law_letter (PySem.W.mg_of X G a_law_letter) T Dlaw_draw
  have Dlaw_clashing := ok_law_clashing (P := l.prog) (w := w) (base := base) F_law_clashing b_law_clashing (PySem.W.mg_of X G a_law_clashing) T Dlaw_of
  have Dlaw_more := ok_law_more (P := l.prog) (w := w) (base := base) F_law_more b_law_more (PySem.W.mg_of X G a_law_more) T Dlaw_draw Dlaw_letter Dlaw_option_name
  have Dlaw_places := ok_law_places (P := l.prog) (w := w) (base := base) F_law_places b_law_places (PySem.W.mg_of X G a_law_places) T Dlaw_draw
  have Dlaw_grammar := ok_law_grammar (P := l.prog) (w := w) (base := base) F_law_grammar b_law_grammar (PySem.W.mg_of X G a_law_grammar) T Dlaw_draw Dlaw_more Dlaw_places
  have Dlaw_option := ok_law_option (P := l.prog) (w := w) (base := base) F_law_option b_law_option (PySem.W.mg_of X G a_law_option) T 
  have Dlaw_is_number := ok_law_is_number (P := l.prog) (w := w) (base := base) F_law_is_number b_law_is_number (PySem.W.mg_of X G a_law_is_number) T 
  have Dlaw_shortened := ok_law_shortened (P := l.prog) (w := w) (base := base) F_law_shortened b_law_shortened (PySem.W.mg_of X G a_law_shortened) T Dlaw_option
  have Dlaw_alone := ok_law_alone (P := l.prog) (w := w) (base := base) F_law_alone b_law_alone (PySem.W.mg_of X G a_law_alone) T Dlaw_is_number Dlaw_shortened
  have Dlaw_fitting := ok_law_fitting (P := l.prog) (w := w) (base := base) F_law_fitting b_law_fitting (PySem.W.mg_of X G a_law_fitting) T Dlaw_alone
  have Dlaw_apart := ok_law_apart (P := l.prog) (w := w) (base := base) F_law_apart b_law_apart (PySem.W.mg_of X G a_law_apart) T 
  have Dlaw_covers := ok_law_covers (P := l.prog) (w := w) (base := base) F_law_covers b_law_covers (PySem.W.mg_of X G a_law_covers) T Dlaw_fitting
  have Dlaw_greatest := ok_law_greatest (P := l.prog) (w := w) (base := base) F_law_greatest b_law_greatest (PySem.W.mg_of X G a_law_greatest) T Dlaw_apart Dlaw_fitting
  have Dlaw_right := ok_law_right (P := l.prog) (w := w) (base := base) F_law_right b_law_right (PySem.W.mg_of X G a_law_right) T Dchoice Dcover Dlaw_apart Dlaw_covers Dlaw_fitting
  exact law_body T Dchoice Dcover Dlaw_begin Dlaw_draw Dlaw_grammar Dlaw_clashing Dlaw_right Dlaw_greatest cdv callerA [] s H us Q E hr hgd hs
end W31

open PySem PySem.W PyProof.Rows in
set_option maxRecDepth 100000 in
set_option maxHeartbeats 0 in
theorem PySem.Challenge.cw_keptlines_k31_whole_greatest_choices_and_holds : PySem.Challenge.rw_keptlines_k31_whole_greatest_choices_and.Holds := by
  w_on; o_law; k_head; (case hw => w_witness2)
  k_fill
  refine W31.walk_g (l := PySem.Challenge.rw_keptlines_k31_whole_greatest_choices_and) rfl rfl ⟨rfl, by decide, by decide⟩ (fun w h Y => PySem.W.kIn_of Y) ?F
  case F =>
    intro w mg fa h KX G hmg
    refine' W31.all_mk KX G hmg ?aC ?a_init ?i_init ?l_init ?c_init ?k_init ?a_find ?i_find ?l_find ?c_find ?k_find ?a_reached ?i_reached ?l_reached ?c_reached ?k_reached ?a_is_of ?l_is_of ?c_is_of ?k_is_of ?a_is_name ?l_is_name ?c_is_name ?k_is_name ?a_is_letter ?l_is_letter ?c_is_letter ?k_is_letter ?a_is_option ?l_is_option ?c_is_option ?k_is_option ?a_is_place ?l_is_place ?c_is_place ?k_is_place ?a_option_fault ?l_option_fault ?c_option_fault ?k_option_fault ?a_place_fault ?l_place_fault ?c_place_fault ?k_place_fault ?a_fault ?l_fault ?c_fault ?k_fault ?a_need_grammar ?l_need_grammar ?c_need_grammar ?k_need_grammar ?a_is_grammar ?l_is_grammar ?c_is_grammar ?k_is_grammar ?a_option_told ?l_option_told ?c_option_told ?k_option_told ?a_has_figure ?l_has_figure ?c_has_figure ?k_has_figure ?a_takes_numbers ?l_takes_numbers ?c_takes_numbers ?k_takes_numbers ?a_tellings_of ?l_tellings_of ?c_tellings_of ?k_tellings_of ?a_shortenings ?l_shortenings ?c_shortenings ?k_shortenings ?a_need_wishes ?l_need_wishes ?c_need_wishes ?k_need_wishes ?a_with_wishes ?l_with_wishes ?c_with_wishes ?k_with_wishes ?a_fitting ?l_fitting ?c_fitting ?k_fitting ?a_choice ?l_choice ?c_choice ?k_choice ?a_cover ?l_cover ?c_cover ?k_cover ?a_law_mixed ?l_law_mixed ?c_law_mixed ?k_law_mixed ?a_law_begin ?l_law_begin ?c_law_begin ?k_law_begin ?a_law_draw ?l_law_draw ?c_law_draw ?k_law_draw ?a_law_of ?l_law_of ?c_law_of ?k_law_of ?a_law_option_name ?l_law_option_name ?c_law_option_name ?k_law_option_name ?a_law_letter ?l_law_letter ?c_law_letter ?k_law_letter ?a_law_clashing ?l_law_clashing ?c_law_clashing ?k_law_clashing ?a_law_more ?l_law_more ?c_law_more ?k_law_more ?a_law_places ?l_law_places ?c_law_places ?k_law_places ?a_law_grammar ?l_law_grammar ?c_law_grammar ?k_law_grammar ?a_law_option ?l_law_option ?c_law_option ?k_law_option ?a_law_is_number ?l_law_is_number ?c_law_is_number ?k_law_is_number ?a_law_shortened ?l_law_shortened ?c_law_shortened ?k_law_shortened ?a_law_alone ?l_law_alone ?c_law_alone ?k_law_alone ?a_law_fitting ?l_law_fitting ?c_law_fitting ?k_law_fitting ?a_law_apart ?l_law_apart ?c_law_apart ?k_law_apart ?a_law_covers ?l_law_covers ?c_law_covers ?k_law_covers ?a_law_greatest ?l_law_greatest ?c_law_greatest ?k_law_greatest ?a_law_right ?l_law_right ?c_law_right ?k_law_right ?a_law ?l_law ?c_law ?k_law ?n_isinstance ?n_str ?n_tuple ?n_bool ?n_int ?n_list ?n_set ?n_len ?n_all ?n_any ?n_sorted ?n_range ?n_enumerate ?n_repr ?g_LETTERS ?g_FIGURES ?g_MOST_IN_NAME ?g_MOST_OPTIONS ?g_MOST_PLACES ?g_SHORT ?g_MINUS ?g_MOST_WISHES ?g_KINDS ?s_KINDS ?g_ARITIES ?s_ARITIES ?pg ?hd ?po ?sa ?mk ?kc ?nW ?nE ?nT
    (case aC => k_is)
    (case a_init => k_is)
    (case i_init => k_is)
    (case l_init => k_is)
    (case c_init => k_is)
    (case k_init => k_is)
    (case a_find => k_is)
    (case i_find => k_is)
    (case l_find => k_is)
    (case c_find => k_is)
    (case k_find => k_is)
    (case a_reached => k_is)
    (case i_reached => k_is)
    (case l_reached => k_is)
    (case c_reached => k_is)
    (case k_reached => k_is)
    (case a_is_of => k_is)
    (case l_is_of => k_is)
    (case c_is_of => k_is)
    (case k_is_of => k_is)
    (case a_is_name => k_is)
    (case l_is_name => k_is)
    (case c_is_name => k_is)
    (case k_is_name => k_is)
    (case a_is_letter => k_is)
    (case l_is_letter => k_is)
    (case c_is_letter => k_is)
    (case k_is_letter => k_is)
    (case a_is_option => k_is)
    (case l_is_option => k_is)
    (case c_is_option => k_is)
    (case k_is_option => k_is)
    (case a_is_place => k_is)
    (case l_is_place => k_is)
    (case c_is_place => k_is)
    (case k_is_place => k_is)
    (case a_option_fault => k_is)
    (case l_option_fault => k_is)
    (case c_option_fault => k_is)
    (case k_option_fault => k_is)
    (case a_place_fault => k_is)
    (case l_place_fault => k_is)
    (case c_place_fault => k_is)
    (case k_place_fault => k_is)
    (case a_fault => k_is)
    (case l_fault => k_is)
    (case c_fault => k_is)
    (case k_fault => k_is)
    (case a_need_grammar => k_is)
    (case l_need_grammar => k_is)
    (case c_need_grammar => k_is)
    (case k_need_grammar => k_is)
    (case a_is_grammar => k_is)
    (case l_is_grammar => k_is)
    (case c_is_grammar => k_is)
    (case k_is_grammar => k_is)
    (case a_option_told => k_is)
    (case l_option_told => k_is)
    (case c_option_told => k_is)
    (case k_option_told => k_is)
    (case a_has_figure => k_is)
    (case l_has_figure => k_is)
    (case c_has_figure => k_is)
    (case k_has_figure => k_is)
    (case a_takes_numbers => k_is)
    (case l_takes_numbers => k_is)
    (case c_takes_numbers => k_is)
    (case k_takes_numbers => k_is)
    (case a_tellings_of => k_is)
    (case l_tellings_of => k_is)
    (case c_tellings_of => k_is)
    (case k_tellings_of => k_is)
    (case a_shortenings => k_is)
    (case l_shortenings => k_is)
    (case c_shortenings => k_is)
    (case k_shortenings => k_is)
    (case a_need_wishes => k_is)
    (case l_need_wishes => k_is)
    (case c_need_wishes => k_is)
    (case k_need_wishes => k_is)
    (case a_with_wishes => k_is)
    (case l_with_wishes => k_is)
    (case c_with_wishes => k_is)
    (case k_with_wishes => k_is)
    (case a_fitting => k_is)
    (case l_fitting => k_is)
    (case c_fitting => k_is)
    (case k_fitting => k_is)
    (case a_choice => k_is)
    (case l_choice => k_is)
    (case c_choice => k_is)
    (case k_choice => k_is)
    (case a_cover => k_is)
    (case l_cover => k_is)
    (case c_cover => k_is)
    (case k_cover => k_is)
    (case a_law_mixed => k_is)
    (case l_law_mixed => k_is)
    (case c_law_mixed => k_is)
    (case k_law_mixed => k_is)
    (case a_law_begin => k_is)
    (case l_law_begin => k_is)
    (case c_law_begin => k_is)
    (case k_law_begin => k_is)
    (case a_law_draw => k_is)
    (case l_law_draw => k_is)
    (case c_law_draw => k_is)
    (case k_law_draw => k_is)
    (case a_law_of => k_is)
    (case l_law_of => k_is)
    (case c_law_of => k_is)
    (case k_law_of => k_is)
    (case a_law_option_name => k_is)
    (case l_law_option_name => k_is)
    (case c_law_option_name => k_is)
    (case k_law_option_name => k_is)
    (case a_law_letter => k_is)
    (case l_law_letter => k_is)
    (case c_law_letter => k_is)
    (case k_law_letter => k_is)
    (case a_law_clashing => k_is)
    (case l_law_clashing => k_is)
    (case c_law_clashing => k_is)
    (case k_law_clashing => k_is)
    (case a_law_more => k_is)
    (case l_law_more => k_is)
    (case c_law_more => k_is)
    (case k_law_more => k_is)
    (case a_law_places => k_is)
    (case l_law_places => k_is)
    (case c_law_places => k_is)
    (case k_law_places => k_is)
    (case a_law_grammar => k_is)
    (case l_law_grammar => k_is)
    (case c_law_grammar => k_is)
    (case k_law_grammar => k_is)
    (case a_law_option => k_is)
    (case l_law_option => k_is)
    (case c_law_option => k_is)
    (case k_law_option => k_is)
    (case a_law_is_number => k_is)
    (case l_law_is_number => k_is)
    (case c_law_is_number => k_is)
    (case k_law_is_number => k_is)
    (case a_law_shortened => k_is)
    (case l_law_shortened => k_is)
    (case c_law_shortened => k_is)
    (case k_law_shortened => k_is)
    (case a_law_alone => k_is)
    (case l_law_alone => k_is)
    (case c_law_alone => k_is)
    (case k_law_alone => k_is)
    (case a_law_fitting => k_is)
    (case l_law_fitting => k_is)
    (case c_law_fitting => k_is)
    (case k_law_fitting => k_is)
    (case a_law_apart => k_is)
    (case l_law_apart => k_is)
    (case c_law_apart => k_is)
    (case k_law_apart => k_is)
    (case a_law_covers => k_is)
    (case l_law_covers => k_is)
    (case c_law_covers => k_is)
    (case k_law_covers => k_is)
    (case a_law_greatest => k_is)
    (case l_law_greatest => k_is)
    (case c_law_greatest => k_is)
    (case k_law_greatest => k_is)
    (case a_law_right => k_is)
    (case l_law_right => k_is)
    (case c_law_right => k_is)
    (case k_law_right => k_is)
    (case a_law => k_is)
    (case l_law => k_is)
    (case c_law => k_is)
    (case k_law => k_is)
    (case n_isinstance => k_is)
    (case n_str => k_is)
    (case n_tuple => k_is)
    (case n_bool => k_is)
    (case n_int => k_is)
    (case n_list => k_is)
    (case n_set => k_is)
    (case n_len => k_is)
    (case n_all => k_is)
    (case n_any => k_is)
    (case n_sorted => k_is)
    (case n_range => k_is)
    (case n_enumerate => k_is)
    (case n_repr => k_is)
    (case g_LETTERS => k_is)
    (case g_FIGURES => k_is)
    (case g_MOST_IN_NAME => k_is)
    (case g_MOST_OPTIONS => k_is)
    (case g_MOST_PLACES => k_is)
    (case g_SHORT => k_is)
    (case g_MINUS => k_is)
    (case g_MOST_WISHES => k_is)
    (case g_KINDS => k_is)
    (case s_KINDS => k_is)
    (case g_ARITIES => k_is)
    (case s_ARITIES => k_is)
    (case pg => k_is)
    (case hd => k_is)
    (case po => k_is)
    (case sa => k_is)
    (case mk => k_is)
    (case kc => k_is)
    (case nW => k_is)
    (case nE => k_is)
    (case nT => k_is)
