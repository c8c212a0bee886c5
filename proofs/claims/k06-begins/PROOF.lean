import PyProof.Rows.All
import Wide.All
import OpenK.AllK
import Wide.FinOn
import HandS.ForMost
import HandS.ForExc
import HandS.Wide
import HandS.Set
import HandS.SetFor
import HandS.Strs
import HandS.Sort
import HandS.SortOrd
import KE.SortData
import HandS.Zip
import KE.GoesZip
import HandS.TupAny
import HandS.Deep
import HandS.TupLen
import HandS.IsInst
import HandS.More
import HandS.Conv
import HandS.Walk
import HandS.Flow
import HandS.WordsExc
import HandS.ExcIs
import PySem.Challenge.RW_keptreading_k06_begins
set_option Elab.async false
set_option maxRecDepth 100000
set_option linter.all false
/-! KS1: a set of whole numbers and texts, with the facts of its table, so that it can be walked. -/
namespace Mn
open PySem PySem.Spec PyProof.Rows L2
section
variable {P : Program} {w : World}
/-- a row of the table that holds a key -/
def KRow (P : Program) (w : World) (e : Int × Value) (k : Key) : Prop := e.1 = (mixKind P w).hash k ∧ RelV (kV k) e.2
inductive KRows (P : Program) (w : World) : List (Int × Value) → List Key → Prop
  | nil : KRows P w [] []
  | cons {e x es xs} : KRow P w e x → KRows P w es xs → KRows P w (e :: es) (x :: xs)
structure KSet (P : Program) (w : World) (h : Heap) (a : Addr) (L : List Key) : Prop where
  ex : ∃ o es ep t, h.get? a = some o ∧ o.ExactSet ∧ o.data = .set es ep t ∧ KRows P w es.toList L ∧ t.fits es.size = true ∧ Ris t.place.toList ∧ (w.params.followText "set-order" = true ∨ t.led = true)
  nd : L.Nodup
  few : L.length < scanBound
theorem KSet.at {h h' : Heap} {a : Addr} {L : List Key} (R : KSet P w h a L) (k : ∀ o, h.get? a = some o → h'.get? a = some o) : KSet P w h' a L :=
  ⟨match R.ex with | ⟨o, es, ep, t, ho, r⟩ => ⟨o, es, ep, t, k o ho, r⟩, R.nd, R.few⟩
theorem KRows.len : ∀ {es : List (Int × Value)} {L : List Key}, KRows P w es L → es.length = L.length
  | _, _, .nil => rfl
  | _, _, .cons _ r => by simp [r.len]
theorem KRows.mem : ∀ {es : List (Int × Value)} {L : List Key} {e : Int × Value}, KRows P w es L → e ∈ es → ∃ x ∈ L, KRow P w e x
  | _, _, _, .nil, h => by simp at h
  | _, _, _, .cons a r, h => by
    rcases List.mem_cons.mp h with rfl | h
    · exact ⟨_, List.mem_cons_self, a⟩
    · obtain ⟨x, h1, h2⟩ := r.mem h
      exact ⟨x, List.mem_cons_of_mem _ h1, h2⟩
theorem KRows.of : ∀ {es : List (Int × Value)} {L : List Key} {x : Key}, KRows P w es L → x ∈ L → ∃ e ∈ es, KRow P w e x
  | _, _, _, .nil, h => by simp at h
  | _, _, _, .cons a r, h => by
    rcases List.mem_cons.mp h with rfl | h
    · exact ⟨_, List.mem_cons_self, a⟩
    · obtain ⟨e, h1, h2⟩ := r.of h
      exact ⟨e, List.mem_cons_of_mem _ h1, h2⟩
/-- the rows in another order -/
theorem KRows.perm {es es' : List (Int × Value)} (p : es'.Perm es) : ∀ {L : List Key}, KRows P w es L → ∃ L', KRows P w es' L' ∧ L'.Perm L := by
  induction p with
  | nil => exact fun h => ⟨_, h, .refl _⟩
  | cons x _ ih =>
    intro L h
    cases h with
    | cons a r =>
      obtain ⟨L', h1, h2⟩ := ih r
      exact ⟨_, .cons a h1, h2.cons _⟩
  | swap x y l =>
    intro L h
    cases h with
    | cons a r =>
      cases r with
      | cons b r => exact ⟨_, .cons b (.cons a r), .swap _ _ _⟩
  | trans _ _ ih1 ih2 =>
    intro L h
    obtain ⟨L1, h1, h2⟩ := ih2 h
    obtain ⟨L2, h3, h4⟩ := ih1 h1
    exact ⟨L2, h3, h4.trans h2⟩
theorem kscan {k : Key} {u : Value} (r : RelV (kV k) u) : u.scannable = true := by
  rcases k with i | x <;> (obtain ⟨t, rfl⟩ := r; rfl)
theorem KRows.elems {es : List (Int × Value)} {L : List Key} (h : KRows P w es L) : ElemsOf (mixKind P w) es := fun e he => by
  obtain ⟨x, _, e1, e2⟩ := h.mem he
  exact ⟨⟨x, kV_is e2, e1⟩, kscan e2⟩
variable {A : Around} {E : Value → Shared → Prop} {s : Shared} {a : Addr} {L : List Key}
theorem KRows.is {es : List (Int × Value)} {L : List Key} {x : Key} (h : KRows P w es L) : x ∈ L ↔ ∃ e ∈ es, (mixKind P w).is x e.2 = true := by
  constructor
  · intro hx
    obtain ⟨e, h1, _, h2⟩ := h.of hx
    exact ⟨e, h1, kV_is h2⟩
  · rintro ⟨e, h1, h2⟩
    obtain ⟨y, hy, _, e2⟩ := h.mem h1
    have : y = x := (mixKind P w).inj _ _ _ (kV_is e2) h2
    exact this ▸ hy
theorem ks_tail {g : Bool → Sem Unit} (hg : ∀ (b : Bool) (s1 : Shared) (Q1 : Unit → Shared → Prop), Q1 () s1 → wpAny (model P w) A (g b) Q1 E s1) {o : Obj} {es : Array (Int × Value)} {ep : Nat} {t : SetTable}
    (ho : s.heap.get? a = some o) (hx : o.ExactSet) (hd : o.data = .set es ep t) {es1 : Array (Int × Value)} {t1 : SetTable} {L1 : List Key} (r1 : KRows P w es1.toList L1) (nd : L1.Nodup) (few : L1.length < scanBound) (hf : t1.fits es1.size = true) (hr : Ris t1.place.toList)
    (hl : w.params.followText "set-order" = true ∨ t1.led = true) {wasDummy : Bool} {R : Option Bool → Shared → Prop} (hR : ∀ (h' : Heap) (L' : List Key), Heap.SameBut a s.heap h' → KSet P w h' a L' → L'.Perm L1 → R (some true) { s with heap := h' }) :
    wpAny (model P w) A (do
        storeSet a es1 t1
        if (!wasDummy && t1.tooFull) = true then do
            g (relayAll t1 es1 (SetTable.grown es1.size)).2.2
            (storeSet a (relayAll t1 es1 (SetTable.grown es1.size)).1 (relayAll t1 es1 (SetTable.grown es1.size)).2.1)
            pure (some true)
          else pure (some true)) R E s := by
  have hz : es1.size = L1.length := by rw [← Array.length_toList, r1.len]
  refine wpAny_bind (wpAny_storeSet_of ho hd ?_ (fits_of_scanBound (by rw [hz]; exact few)))
  have o1 := store_at (es' := es1) (t' := t1) ho hd
  have sb := Heap.SameBut.update s.heap a (Obj.putSet es1 t1)
  split
  · have pm := relayAll_perm t1 es1 (SetTable.grown es1.size)
    have f3 := relayAll_fits t1 es1 (SetTable.grown es1.size)
    have r3 := relayAll_ris t1 es1 (SetTable.grown es1.size)
    have l3 := relayAll_led t1 es1 (SetTable.grown es1.size)
    generalize relayAll t1 es1 (SetTable.grown es1.size) = Z at pm f3 r3 l3 ⊢
    obtain ⟨es2, t3, gave⟩ := Z
    obtain ⟨L2, q1, q2⟩ := r1.perm pm
    refine wpAny_bind (hg _ _ _ ?_)
    have z2 : es2.size < scanBound := by rw [← Array.length_toList, q1.len, q2.length_eq]; exact few
    refine wpAny_bind (wpAny_storeSet_of o1 rfl ?_ (fits_of_scanBound z2))
    have o2 := store_at (es' := es2) (t' := t3) o1 rfl
    exact wpAny_pure (hR _ L2 (sb.trans (Heap.SameBut.update _ a _)) ⟨⟨_, es2, _, t3, o2, hx, rfl, q1, f3, r3, hl.imp id fun e => l3.trans e⟩, q2.nodup_iff.mpr nd, by rw [q2.length_eq]; exact few⟩ q2)
  · exact wpAny_pure (hR _ L1 sb ⟨⟨_, es1, _, t1, o1, hx, rfl, r1, hf, hr, hl⟩, nd, few⟩ (.refl _))
theorem ks_gave {Q1 : Unit → Shared → Prop} (b : Bool) {s1 : Shared} (q : Q1 () s1) : wpAny (model P w) A (match b with | true => rule "set.scan.the-table-gave-way" | false => pure ()) Q1 E s1 := by
  cases b
  · exact wpAny_pure q
  · exact wpAny_rule q
/-- the members behind an add -/
def hasK (x : Key) (L : List Key) : Bool := L.any fun y => decide (y = x)
theorem hasK_t {x : Key} {L : List Key} : hasK x L = true ↔ x ∈ L := by simp [hasK]
theorem hasK_f {x : Key} {L : List Key} (h : ¬ x ∈ L) : hasK x L = false := by
  cases e : hasK x L with
  | false => rfl
  | true => exact absurd (hasK_t.1 e) h
def addK (x : Key) (L : List Key) : List Key := if hasK x L = true then L else x :: L
theorem ks_add {x : Key} {v : Value} {Q : Bool → Shared → Prop} (hv : RelV (kV x) v) (R : KSet P w s.heap a L) (room : L.length + 1 < scanBound)
    (hQ : ∀ (h' : Heap) (L' : List Key), Heap.SameBut a s.heap h' → KSet P w h' a L' → L'.Perm (addK x L) → Q (!hasK x L) { s with heap := h' }) :
    wpAny (model P w) A (setAddHashed a v ((mixKind P w).hash x)) Q E s := by
  obtain ⟨⟨o, es, ep, t, ho, hx, hd, rw0, hf, hr, hl⟩, nd, few⟩ := R
  have hz : es.size = L.length := by rw [← Array.length_toList, rw0.len]
  have hk : (mixKind P w).is x v = true := kV_is hv
  have hs : v.scannable = true := kscan hv
  have el : ElemsOf (mixKind P w) es.toList := rw0.elems
  have hb : es.size < scanBound := by rw [hz]; exact few
  unfold setAddHashed setAddHashedIn
  refine wpAny_holding (wpAny_bind (wpAny_setState_of ho hd hf ?_))
  dsimp only
  rw [byScan_of (knd := mixKind P w) hs hb el]
  simp only [↓reduceIte]
  unfold setAddByScan
  refine wpAny_bind (wpAny_bind (wpAny_rule (wpAny_bind (wpAny_setScan_of hk ho hd hf el ?_))))
  cases hfi : List.findIdx? (fun e => (mixKind P w).is x e.2) es.toList with
  | some j =>
    obtain ⟨hj, pj, _⟩ := List.findIdx?_eq_some_iff_getElem.mp hfi
    have hin : x ∈ L := rw0.is.2 ⟨es.toList[j], List.getElem_mem hj, pj⟩
    have q := hQ s.heap L (Heap.SameBut.refl a s.heap) ⟨⟨o, es, ep, t, ho, hx, hd, rw0, hf, hr, hl⟩, nd, few⟩ (by unfold addK; rw [if_pos (hasK_t.2 hin)])
    rw [hasK_t.2 hin] at q
    exact wpAny_pure (wpAny_pure q)
  | none =>
    dsimp only
    have hin : x ∉ L := fun z => by
      obtain ⟨e, he, q⟩ := rw0.is.1 z
      have c := List.findIdx?_eq_none_iff.mp hfi e he
      rw [q] at c
      cases c
    have pm := layNew_perm t es ((mixKind P w).hash x) v
    have f1 := layNew_fits t es ((mixKind P w).hash x) v
    have r1 := layNew_ris t es ((mixKind P w).hash x) v hr
    have l1 := layNew_led t es ((mixKind P w).hash x) v
    generalize layNew t es ((mixKind P w).hash x) v = Z at pm f1 r1 l1 ⊢
    obtain ⟨es1, t1, wasDummy, gave⟩ := Z
    dsimp only at pm f1 r1 l1 ⊢
    rw [Array.toList_push] at pm
    have pc : es1.toList.Perm (((mixKind P w).hash x, v) :: es.toList) := pm.trans (List.perm_append_singleton _ _)
    obtain ⟨L1, q1, q2⟩ := KRows.perm pc (.cons ⟨rfl, hv⟩ rw0)
    have nd1 : L1.Nodup := q2.nodup_iff.mpr (List.nodup_cons.mpr ⟨hin, nd⟩)
    have few1 : L1.length < scanBound := by rw [q2.length_eq]; exact room
    have led1 : w.params.followText "set-order" = true ∨ t1.led = true := hl.imp id fun z => by rw [l1]; exact z
    have fin : ∀ h' L', Heap.SameBut a s.heap h' → KSet P w h' a L' → L'.Perm L1 → Q true { s with heap := h' } := fun h' L' sb r p => by
      have q := hQ h' L' sb r (by unfold addK; rw [hasK_f hin]; exact p.trans q2)
      rw [hasK_f hin] at q
      exact q
    refine wpAny_bind (ks_gave _ ?_)
    split
    · refine wpAny_bind ?_
      rw [hashByValue_scannable 8 hs]
      refine wpAny_pure ?_
      refine ks_tail (fun b s1 Q1 q => ks_gave b q) ho hx hd q1 nd1 few1 ?_ ?_ ?_ fun h' L' sb r p => wpAny_pure (fin h' L' sb r p)
      · first | (split <;> first | exact f1 | exact SetTable.fits_plain_off f1) | exact f1
      · first | (split <;> exact r1) | exact r1
      · first | (split <;> exact led1) | exact led1
    · refine wpAny_bind (wpAny_pure ?_)
      simp only [↓reduceIte]
      exact ks_tail (fun b s1 Q1 q => ks_gave b q) ho hx hd q1 nd1 few1 f1 r1 led1 fun h' L' sb r p => wpAny_pure (fin h' L' sb r p)
end
end Mn

set_option Elab.async false
set_option maxRecDepth 100000
set_option linter.all false
/-! KS2: set(x) of a list or tuple of whole numbers and texts. -/
namespace Mn
open PySem PySem.Spec PyProof.Rows L2
section
variable {P : Program} {w : World}
/-- what is met so far, each once (the order is the table's own) -/
def onceK : List Key → List Key
  | [] => []
  | x :: r => addK x (onceK r)
theorem addK_perm {x : Key} {L L' : List Key} (p : L'.Perm L) : (addK x L').Perm (addK x L) := by
  unfold addK
  by_cases h : x ∈ L
  · rw [hasK_t.2 h, hasK_t.2 (p.mem_iff.2 h)]; exact p
  · rw [hasK_f h, hasK_f fun z => h (p.mem_iff.1 z)]; exact p.cons x
theorem addK_mem {x y : Key} {L : List Key} : y ∈ addK x L ↔ y = x ∨ y ∈ L := by
  unfold addK
  by_cases h : x ∈ L
  · rw [hasK_t.2 h]; exact ⟨.inr, fun q => q.elim (fun e => e ▸ h) id⟩
  · rw [hasK_f h]; exact List.mem_cons
theorem addK_len {x : Key} {L : List Key} : (addK x L).length ≤ L.length + 1 := by
  unfold addK
  split
  · exact Nat.le_succ _
  · exact Nat.le_refl _
theorem addK_nd {x : Key} {L : List Key} (h : L.Nodup) : (addK x L).Nodup := by
  unfold addK
  by_cases q : x ∈ L
  · rw [hasK_t.2 q]; exact h
  · rw [hasK_f q]; exact List.nodup_cons.2 ⟨q, h⟩
theorem onceK_nd : ∀ L : List Key, (onceK L).Nodup
  | [] => List.nodup_nil
  | _ :: r => addK_nd (onceK_nd r)
theorem onceK_mem {y : Key} : ∀ {L : List Key}, y ∈ onceK L ↔ y ∈ L
  | [] => Iff.rfl
  | x :: r => by
    show y ∈ addK x (onceK r) ↔ _
    rw [addK_mem, onceK_mem, List.mem_cons]
theorem onceK_len : ∀ L : List Key, (onceK L).length ≤ L.length
  | [] => Nat.le_refl _
  | x :: r => Nat.le_trans addK_len (Nat.succ_le_succ (onceK_len r))
theorem kset_new {h : Heap} {a : Addr} (ho : h.get? a = some { cls := .type "set", dict := none, data := .set #[] 0 (.fresh 0 0 (!w.params.followText "set-order")) }) : KSet P w h a [] :=
  ⟨⟨_, #[], 0, _, ho, ⟨rfl, rfl, rfl⟩, rfl, .nil, rfl, List.Pairwise.nil, (by
    show _ ∨ (!w.params.followText "set-order") = true
    cases w.params.followText "set-order" <;> simp)⟩, List.nodup_nil, by decide⟩
variable {A : Around} {E : Value → Shared → Prop} {s : Shared}
/-- the loop of adds -/
theorem ks_loop {I : Addr} {fp wr : List Addr} {G : Array GenState → Array GenState → Prop} {n : Nat} {Pv : Nat → Value → Prop} {St : Nat → Shared → Prop} {R : Result → Shared → Prop}
    (W : WalksS P w A.in1 I fp wr G n Pv St) (D : Addr) (off : D ∉ fp) (ks : List Key) (hn : n = ks.length) (hb : ks.length + 1 < scanBound) (hval : ∀ i v, Pv i v → ∃ k, ks[i]? = some k ∧ RelV (kV k) v) :
    ∀ (j i : Nat) (s : Shared), n - i = j → i ≤ n → St i s → (∃ L, L.length ≤ i ∧ (∀ x, x ∈ L ↔ x ∈ ks.take i) ∧ KSet P w s.heap D L) →
      (∀ s1 L, Moved (D :: wr) G s s1 → (∀ x, x ∈ L ↔ x ∈ ks) → KSet P w s1.heap D L → R (.ok (.ret .none)) s1) →
      codeAny (model P w) A (.builtin "set.update.loop" ⟨[.ref D, .ref I], []⟩) R s := by
  have offw : D ∉ wr := fun h => off (W.sub _ h)
  have more : ∀ b ∈ wr, b ∈ D :: wr := fun b hb => List.mem_cons_of_mem _ hb
  intro j
  induction j with
  | zero =>
    intro i s e1 hi st ⟨L, hc, hm, hS⟩ hR
    obtain rfl : i = n := by omega
    refine codeAny_builtin F.entry_set_update_loop ?_
    rw [Around.under_plainId F.plain_set_update_loop _]
    show wpAny _ A.in1 (pyNext (.ref I) >>= _) _ _ s
    refine wpAny_bind (W.done s _ _ st fun s1 mv => ?_)
    show wpAny _ A.in1 (ret Value.none) _ _ s1
    have e : ks.take i = ks := List.take_of_length_le (by omega)
    rw [e] at hm
    exact wpAny_pure (hR s1 L (mv.mono more) hm (hS.at fun o e => mv.heap D o offw e))
  | succ j ih =>
    intro i s e1 hi st ⟨L, hc, hm, hS⟩ hR
    have lt : i < n := by omega
    refine codeAny_builtin F.entry_set_update_loop ?_
    rw [Around.under_plainId F.plain_set_update_loop _]
    show wpAny _ A.in1 (pyNext (.ref I) >>= _) _ _ s
    refine wpAny_bind (W.item i s _ _ lt st fun v s1 hP st1 mv => ?_)
    obtain ⟨k, hk, rv⟩ := hval i v hP
    have hS1 : KSet P w s1.heap D L := hS.at fun o e => mv.heap D o offw e
    show wpAny _ A.in1 (holding [v] (setAdd D v) >>= _) _ _ s1
    refine wpAny_bind (wpAny_holding ?_)
    unfold setAdd
    refine wpAny_holding (wpAny_bind ((mixKind P w).pyHash (k := k) (kV_is rv) ?_))
    refine ks_add (s := { s1 with toks := s1.toks + 1 }) rv hS1 (by omega) fun h2 L2 sb hS2 p => ?_
    have hm2 : ∀ x, x ∈ L2 ↔ x ∈ ks.take (i + 1) := fun x => by
      rw [p.mem_iff, addK_mem, hm x, List.take_add_one, hk, List.mem_append]
      exact Iff.trans Or.comm (or_congr_right (by simp))
    have hc2 : L2.length ≤ i + 1 := by rw [p.length_eq]; exact Nat.le_trans addK_len (by omega)
    refine wpAny_pure ⟨plainId_quiet F.plain_set_update_loop _, ih (i + 1) _ (by omega) lt (W.frame _ s1 _ _ st1 (Nat.le_succ _) fun b hb o e => ?_) ⟨L2, hc2, hm2, hS2⟩ fun s3 L3 mv3 hm3 hS3 => ?_⟩
    · rw [sb.2 b (fun h : b = D => off (by rw [← h]; exact hb))]; exact e
    · refine hR s3 L3 (Moved.trans W.gtrans ((mv.mono more).then_heap (Nat.le_succ _) fun b o hb e => ?_) mv3) hm3 hS3
      rw [sb.2 b (fun h : b = D => hb (by rw [h]; exact List.mem_cons_self))]; exact e
end
end Mn

set_option Elab.async false
set_option maxRecDepth 100000
set_option linter.all false
/-! KS3: the call set(x). -/
namespace Mn
open PySem PySem.Spec PyProof.Rows L2
section
variable {P : Program} {w : World} {A : Around} {E : Value → Shared → Prop} {s : Shared}
theorem vals_at : ∀ {xs : List V} {us : List Value} {i : Nat} {v : Value}, Vals xs us → us[i]? = some v → ∃ x, xs[i]? = some x ∧ RelV x v
  | _, _, _, _, .nil, e => by simp at e
  | _, _, 0, _, .cons r _, e => by simp at e; subst e; exact ⟨_, rfl, r⟩
  | _, _, i + 1, _, .cons _ r, e => by
    obtain ⟨x, h1, h2⟩ := vals_at (i := i) r (by simpa using e)
    exact ⟨x, by simpa using h1, h2⟩
theorem vals_len : ∀ {xs : List V} {us : List Value}, Vals xs us → xs.length = us.length
  | _, _, .nil => rfl
  | _, _, .cons _ r => by simp [vals_len r]

set_option maxHeartbeats 3200000 in
theorem ks_call_list {l : Addr} {items : Array Value} (ks : List Key) {Q : Value → Shared → Prop} (hh : A.handled = none) (hl : s.heap.IsList l items) (hit : Vals (ks.map kV) items.toList) (hb : ks.length + 1 < scanBound)
    (fin : ∀ (h1 : Heap) (tk : Nat) (L : List Key), KSet P w h1 s.heap.objs.size L → (∀ x, x ∈ L ↔ x ∈ ks) → (∀ b o, s.heap.get? b = some o → h1.get? b = some o) → Q (.ref s.heap.objs.size) { s with heap := h1, toks := tk }) :
    wpAny (model P w) A (call (.type "set") [.ref l]) Q E s := by
  have isz : items.size = ks.length := by
    have q : items.toList.length = (ks.map kV).length := (vals_len hit).symm
    simpa using q
  obtain ⟨c0, tl, hmro⟩ := F.called_set.mro
  have hmade := F.called_set.made; have hsub := F.called_set.sub
  refine wpAny_call (codeAny_of_tree ?_); show wpAny _ _ (callAny (.type "set") _) _ _ _
  refine wpAny_pure ⟨Code.quiet_builtin _ (by decide +kernel), codeAny_builtin F.entry_type_call ?_⟩
  rw [Around.under_plain (weight_type_call_type "set" [.ref l] []) rfl]
  have t1 := F.called_set.notType; have t2 := F.called_set.canCreate; have t3 := F.typeCall_set_1 (.ref l)
  repeat (any_goals (first | assumption | wp_step))
  let nw : Obj := { cls := .type "set", dict := none, data := .set #[] 0 (.fresh 0 0 (!w.params.followText "set-order")) }
  refine codeAny_mono (code_set_led1 (.ref l) (E := E) (Q₁ := fun obj s1 => obj = .ref s.heap.objs.size ∧ s1 = { s with heap := s.heap.push nw }) ⟨rfl, rfl⟩) fun r s1 hr => ?_
  rcases r with e | fl
  · exact hr
  cases fl with
  | ret obj =>
    obtain ⟨rfl, rfl⟩ := hr
    have hS : (s.heap.push nw).get? s.heap.objs.size = some nw := Heap.get?_push_size _ rfl
    have hT : Shared.TypeIs { s with heap := s.heap.push nw } (.ref s.heap.objs.size) "set" := ⟨_, hS, rfl⟩
    have u1 := F.called_set.init.lookup; have u2 := F.called_set.init.bind (.ref s.heap.objs.size)
    repeat (any_goals (first | assumption | wp_step))
    refine codeAny_mono (codeAny_call_builtin (R := wants (fun r s2 => r = .none ∧ ∃ h1 tk L, s2 = { s with heap := h1, toks := tk } ∧ KSet P w h1 s.heap.objs.size L ∧ (∀ x, x ∈ L ↔ x ∈ ks) ∧
        (∀ b o, s.heap.get? b = some o → h1.get? b = some o)) E) F.called_set.init.plain F.entry_set_init (check_set_init_1 hT ?_)) fun r2 s2 hr2 => ?_
    · obtain ⟨ol, hol, hcl, nl, hdl⟩ := hl
      obtain ⟨ocls, odict, odata, oslots⟩ := ol
      simp only at hcl hdl; subst hcl; subst hdl
      have hol1 : (s.heap.push nw).get? l = some { cls := .type "list", dict := odict, data := .seq items nl, slots := oslots } := Heap.get?_push_of_some _ hol
      have z1 := F.sub_list_set; have z2 := F.sub_list_frozenset
      have z3 : (Value.type "list" == Value.type "dict") = false := by decide
      have hl1 : (s.heap.push nw).IsList l items := ⟨_, hol1, rfl, nl, rfl⟩
      unfold Builtin.«set.__init__» noKeywords Builtin.Frozenset.updateFrom
      generalize hPI : pyIter = PI
      wp_walk
      subst hPI
      refine wpAny_pyIter_list hl1 (wpAny_bind (wpAny_runValue ?_))
      have lt0 : l < s.heap.objs.size := Heap.lt_size hol
      have hh3 : A.in1.in1.in1.handled = none := by simp [hh]
      have neI : l ≠ (s.heap.push nw).objs.size := by rw [Heap.size_push]; exact Nat.ne_of_lt (Nat.lt_succ_of_lt lt0)
      have off : s.heap.objs.size ∉ [(s.heap.push nw).objs.size, l] := by
        rw [Heap.size_push]; simp only [List.mem_cons, List.mem_singleton, List.not_mem_nil, or_false, not_or]
        exact ⟨Nat.ne_of_lt (Nat.lt_succ_self _), Nat.ne_of_gt lt0⟩
      have hval : ∀ (i : Nat) (v : Value), items[i]? = some v → ∃ k, ks[i]? = some k ∧ RelV (kV k) v := fun i v hv => by
        obtain ⟨x, e1, e2⟩ := vals_at hit (i := i) (v := v) (by rw [Array.getElem?_toList]; exact hv)
        rw [List.getElem?_map] at e1
        cases e3 : ks[i]? with
        | none => rw [e3] at e1; cases e1
        | some k => rw [e3] at e1; cases e1; exact ⟨k, rfl, e2⟩
      refine ks_loop ((Walks.list hh3 _ l neI items).toS) s.heap.objs.size off ks isz hb hval (items.size - 0) 0 _ (by omega) (Nat.zero_le _) ⟨⟨_, Heap.get?_push_size _ rfl, rfl, rfl⟩, (hl1.push _)⟩ ?hS0 ?hR
      case hS0 =>
        have g0 : ((s.heap.push nw).push { cls := .type "list_iterator", data := .fields #[.ref l, .int 0 0] }).get? s.heap.objs.size = some nw := Heap.get?_push_of_some _ hS
        exact ⟨[], Nat.le_refl 0, fun x => by simp, kset_new g0⟩
      case hR =>
        intro s3 L3 hm hm3 hS3
        obtain ⟨h1, g2, d2, tk, os2⟩ := s3
        obtain rfl : g2 = s.gens := hm.gens
        obtain rfl : d2 = s.drawn := hm.drawn
        obtain rfl : os2 = s.os := hm.os
        show wpAny _ _ _ _ _ _
        refine wpAny_pure ?_; show wpAny _ _ (ret Value.none) _ _ _
        refine wpAny_pure ⟨rfl, h1, tk, L3, rfl, hS3, hm3, fun b o e => ?_⟩
        have b0 : b < s.heap.objs.size := Heap.lt_size e
        have b2 : b ≠ (s.heap.push nw).objs.size := by rw [Heap.size_push]; exact Nat.ne_of_lt (Nat.lt_succ_of_lt b0)
        exact hm.heap b o (by simp only [List.mem_cons, List.mem_singleton, List.not_mem_nil, or_false, not_or]; exact ⟨Nat.ne_of_lt b0, b2⟩) (Heap.get?_push_of_some _ (Heap.get?_push_of_some _ e))
    · rcases r2 with e | fl2
      · exact hr2
      cases fl2 with
      | ret r =>
        obtain ⟨rfl, h1, tk, L, rfl, hS1, hm1, hk1⟩ := hr2
        repeat (any_goals (first | assumption | wp_step))
        exact fin _ _ _ hS1 hm1 hk1
      | _ => exact hr2.elim
  | _ => exact hr.elim

set_option maxHeartbeats 3200000 in
theorem ks_call_tuple {l : Addr} {items : Array Value} (ks : List Key) {Q : Value → Shared → Prop} (hh : A.handled = none) (hl : s.heap.IsTuple l items) (hit : Vals (ks.map kV) items.toList) (hb : ks.length + 1 < scanBound)
    (fin : ∀ (h1 : Heap) (tk : Nat) (L : List Key), KSet P w h1 s.heap.objs.size L → (∀ x, x ∈ L ↔ x ∈ ks) → (∀ b o, s.heap.get? b = some o → h1.get? b = some o) → Q (.ref s.heap.objs.size) { s with heap := h1, toks := tk }) :
    wpAny (model P w) A (call (.type "set") [.ref l]) Q E s := by
  have isz : items.size = ks.length := by
    have q : items.toList.length = (ks.map kV).length := (vals_len hit).symm
    simpa using q
  obtain ⟨c0, tl, hmro⟩ := F.called_set.mro
  have hmade := F.called_set.made; have hsub := F.called_set.sub
  refine wpAny_call (codeAny_of_tree ?_); show wpAny _ _ (callAny (.type "set") _) _ _ _
  refine wpAny_pure ⟨Code.quiet_builtin _ (by decide +kernel), codeAny_builtin F.entry_type_call ?_⟩
  rw [Around.under_plain (weight_type_call_type "set" [.ref l] []) rfl]
  have t1 := F.called_set.notType; have t2 := F.called_set.canCreate; have t3 := F.typeCall_set_1 (.ref l)
  repeat (any_goals (first | assumption | wp_step))
  let nw : Obj := { cls := .type "set", dict := none, data := .set #[] 0 (.fresh 0 0 (!w.params.followText "set-order")) }
  refine codeAny_mono (code_set_led1 (.ref l) (E := E) (Q₁ := fun obj s1 => obj = .ref s.heap.objs.size ∧ s1 = { s with heap := s.heap.push nw }) ⟨rfl, rfl⟩) fun r s1 hr => ?_
  rcases r with e | fl
  · exact hr
  cases fl with
  | ret obj =>
    obtain ⟨rfl, rfl⟩ := hr
    have hS : (s.heap.push nw).get? s.heap.objs.size = some nw := Heap.get?_push_size _ rfl
    have hT : Shared.TypeIs { s with heap := s.heap.push nw } (.ref s.heap.objs.size) "set" := ⟨_, hS, rfl⟩
    have u1 := F.called_set.init.lookup; have u2 := F.called_set.init.bind (.ref s.heap.objs.size)
    repeat (any_goals (first | assumption | wp_step))
    refine codeAny_mono (codeAny_call_builtin (R := wants (fun r s2 => r = .none ∧ ∃ h1 tk L, s2 = { s with heap := h1, toks := tk } ∧ KSet P w h1 s.heap.objs.size L ∧ (∀ x, x ∈ L ↔ x ∈ ks) ∧
        (∀ b o, s.heap.get? b = some o → h1.get? b = some o)) E) F.called_set.init.plain F.entry_set_init (check_set_init_1 hT ?_)) fun r2 s2 hr2 => ?_
    · obtain ⟨ol, hol, hcl, nl, hdl⟩ := hl
      obtain ⟨ocls, odict, odata, oslots⟩ := ol
      simp only at hcl hdl; subst hcl; subst hdl
      have hol1 : (s.heap.push nw).get? l = some { cls := .type "tuple", dict := odict, data := .seq items nl, slots := oslots } := Heap.get?_push_of_some _ hol
      have z1 := F.sub_tuple_set; have z2 := F.sub_tuple_frozenset
      have z3 : (Value.type "tuple" == Value.type "dict") = false := by decide
      have hl1 : (s.heap.push nw).IsTuple l items := ⟨_, hol1, rfl, nl, rfl⟩
      unfold Builtin.«set.__init__» noKeywords Builtin.Frozenset.updateFrom
      generalize hPI : pyIter = PI
      wp_walk
      subst hPI
      refine wpAny_pyIter_tuple hl1 (wpAny_bind (wpAny_runValue ?_))
      have lt0 : l < s.heap.objs.size := Heap.lt_size hol
      have hh3 : A.in1.in1.in1.handled = none := by simp [hh]
      have neI : l ≠ (s.heap.push nw).objs.size := by rw [Heap.size_push]; exact Nat.ne_of_lt (Nat.lt_succ_of_lt lt0)
      have off : s.heap.objs.size ∉ [(s.heap.push nw).objs.size, l] := by
        rw [Heap.size_push]; simp only [List.mem_cons, List.mem_singleton, List.not_mem_nil, or_false, not_or]
        exact ⟨Nat.ne_of_lt (Nat.lt_succ_self _), Nat.ne_of_gt lt0⟩
      have hval : ∀ (i : Nat) (v : Value), items[i]? = some v → ∃ k, ks[i]? = some k ∧ RelV (kV k) v := fun i v hv => by
        obtain ⟨x, e1, e2⟩ := vals_at hit (i := i) (v := v) (by rw [Array.getElem?_toList]; exact hv)
        rw [List.getElem?_map] at e1
        cases e3 : ks[i]? with
        | none => rw [e3] at e1; cases e1
        | some k => rw [e3] at e1; cases e1; exact ⟨k, rfl, e2⟩
      refine ks_loop ((Walks.tuple hh3 _ l neI items).toS) s.heap.objs.size off ks isz hb hval (items.size - 0) 0 _ (by omega) (Nat.zero_le _) ⟨⟨_, Heap.get?_push_size _ rfl, rfl, rfl⟩, (hl1.push _)⟩ ?hS0 ?hR
      case hS0 =>
        have g0 : ((s.heap.push nw).push { cls := .type "tuple_iterator", data := .fields #[.ref l, .int 0 0] }).get? s.heap.objs.size = some nw := Heap.get?_push_of_some _ hS
        exact ⟨[], Nat.le_refl 0, fun x => by simp, kset_new g0⟩
      case hR =>
        intro s3 L3 hm hm3 hS3
        obtain ⟨h1, g2, d2, tk, os2⟩ := s3
        obtain rfl : g2 = s.gens := hm.gens
        obtain rfl : d2 = s.drawn := hm.drawn
        obtain rfl : os2 = s.os := hm.os
        show wpAny _ _ _ _ _ _
        refine wpAny_pure ?_; show wpAny _ _ (ret Value.none) _ _ _
        refine wpAny_pure ⟨rfl, h1, tk, L3, rfl, hS3, hm3, fun b o e => ?_⟩
        have b0 : b < s.heap.objs.size := Heap.lt_size e
        have b2 : b ≠ (s.heap.push nw).objs.size := by rw [Heap.size_push]; exact Nat.ne_of_lt (Nat.lt_succ_of_lt b0)
        exact hm.heap b o (by simp only [List.mem_cons, List.mem_singleton, List.not_mem_nil, or_false, not_or]; exact ⟨Nat.ne_of_lt b0, b2⟩) (Heap.get?_push_of_some _ (Heap.get?_push_of_some _ e))
    · rcases r2 with e | fl2
      · exact hr2
      cases fl2 with
      | ret r =>
        obtain ⟨rfl, h1, tk, L, rfl, hS1, hm1, hk1⟩ := hr2
        repeat (any_goals (first | assumption | wp_step))
        exact fin _ _ _ hS1 hm1 hk1
      | _ => exact hr2.elim
  | _ => exact hr.elim
end
end Mn

set_option Elab.async false
set_option maxRecDepth 100000
set_option linter.all false
/-! DS1: sorted(x) of data that are alike, of any number; of sets of keys. -/
namespace Mn
open PySem PySem.Spec PyProof.Rows L2
section
variable {X : Cx}
theorem each_of {α β : Type} {R : α → β → Prop} : ∀ {as : List α} {bs : List β}, as.length = bs.length → (∀ p ∈ as.zip bs, R p.1 p.2) → PySem.W.EachIs R as bs
  | [], [], _, _ => .nil
  | [], _ :: _, h, _ => by simp at h
  | _ :: _, [], h, _ => by simp at h
  | a :: as, b :: bs, h, g => .cons (g (a, b) (by simp)) (each_of (by simpa using h) fun p hp => g p (by simp [hp]))
theorem each_vals : ∀ {us : List Value} {ps : List (PyData × V)}, Vals (ps.map (·.2)) us → PySem.W.EachIs (fun v (b : PyData × V) => RelV b.2 v) us ps
  | _, [], h => by cases h; exact .nil
  | _, p :: ps, h => by
    cases h with
    | cons r t => exact .cons r (each_vals t)
theorem vals_each : ∀ {us : List Value} {ps : List (PyData × V)}, PySem.W.EachIs (fun v (b : PyData × V) => RelV b.2 v) us ps → Vals (ps.map (·.2)) us
  | _, [], h => by cases h; exact .nil
  | _, p :: ps, h => by
    cases h with
    | cons r t => exact .cons r (vals_each t)
theorem each_imp {α β : Type} {R S : α → β → Prop} : ∀ {as : List α} {bs : List β}, PySem.W.EachIs R as bs → (∀ a b, b ∈ bs → R a b → S a b) → PySem.W.EachIs S as bs
  | _, _, .nil, _ => .nil
  | _, _, .cons r t, g => .cons (g _ _ List.mem_cons_self r) (each_imp t fun a b hb => g a b (List.mem_cons_of_mem _ hb))
/-- the order of data, upwards -/
abbrev leD (a b : PyData × V) : Bool := PySem.W.dataLe false (fun p : PyData × V => p.1) a b
/-- sorted(xs): data with their values -/
def rSortD (K : PySem.W.Frag) : List V → Hp → VK → Prop := fun vs H Q => ∃ (a : Addr) (ps : List (PyData × V)), vs = [V.ref a] ∧ SqL K H a (ps.map (·.2)) ∧ (∀ p ∈ ps, Dp K H p.2 p.1) ∧ PySem.W.AllAlike (ps.map (·.1)) ∧ PySem.W.Sortable (ps.map (·.1)) ∧
  (∀ p ∈ ps, p.1.depth ≤ 62) ∧ ∀ q, H q = none → Q (.ref q) (upd H q (.lst ((ps.mergeSort leD).map (·.2))))
theorem cr_sortD (hu : X.A.units + 65 < cLine) : CallR X (.builtin "sorted") (rSortD X.K) := by
  intro pins s σ H vs us Q I r h
  obtain ⟨a, ps, rfl, hs, hd, al, so, dp, q⟩ := h
  obtain ⟨its, rv, hl, hz⟩ := I.list hs
  rw [Vals.ref1 r]
  have e1 := each_vals rv
  have e2 : PySem.W.EachIs (fun v (b : PyData × V) => ∃ as, Reads s.heap v b.1 as) its ps := each_imp e1 fun v b hb rr => Dp.reads I b.1 b.2 v (hd b hb) rr
  have hL : ps.length ≤ sizeLine := by simpa using hz
  refine PySem.W.sorted_data (enc := fun p : PyData × V => p.1) hl.isList e1 e2 al so hL (fun b hb => by have := dp b hb; show X.A.units + 2 + b.1.depth < cLine; omega) fun out ho eo => ?_
  obtain ⟨ep, he'⟩ := sortedAll_at s.heap its out.toArray
  have hlen : ((ps.mergeSort leD).map (·.2)).length ≤ sizeLine := by simpa [List.length_mergeSort] using hL
  exact ⟨.ref _, upd H (s.heap.objs.size + 1) (.lst ((ps.mergeSort leD).map (·.2))), I.laid (t' := s.toks) (fun _ _ => sortedAll_old) (Nat.le_succ _) ⟨hlen, out, ep, vals_each eo, he'⟩, rfl, q _ (I.hok.fresh (Nat.le_succ _))⟩
/-! sets of keys -/
def KSO (P : Program) (w : World) (a : Addr) (L : List Key) : HO := .ext fun h => KSet P w h a L
theorem kso_new {w : World} {P : Program} {H : Hp} {h : Heap} {a : Addr} {L : List Key} (R : KSet P w h a L) : ObjOk P w H h a (KSO P w a L) := by
  obtain ⟨o, _, _, _, ho, _⟩ := R.ex
  exact ⟨R, ⟨o, ho⟩, fun h1 h2 p k => KSet.at p k⟩
theorem kso_get {pins : List (Addr × Obj)} {σ : L2.St} {H : Hp} {s : Shared} {a : Addr} {L : List Key} (I : Inv X pins σ H s) (ha : H a = some (KSO X.prog X.w a L)) : KSet X.prog X.w s.heap a L := (I.hok a _ ha).1
/-- set(xs) of a list or tuple of keys -/
def rSetK (K : PySem.W.Frag) (P : Program) (w : World) : List V → Hp → VK → Prop := fun vs H Q => ∃ (a : Addr) (ks : List Key), vs = [V.ref a] ∧ (SqL K H a (ks.map kV) ∨ SqT K H a (ks.map kV)) ∧ ks.length < 4000 ∧
  ∀ (p : Addr) (L : List Key), L.Nodup → (∀ x, x ∈ L ↔ x ∈ ks) → H p = none → Q (.ref p) (upd H p (KSO P w p L))
theorem cr_setK (hc : X.calm = true) : CallR X (.type "set") (rSetK X.K X.prog X.w) := by
  intro pins s σ H vs us Q I r h
  obtain ⟨a, ks, rfl, hs, few, q⟩ := h
  rw [Vals.ref1 r]
  have hb : ks.length + 1 < scanBound := by unfold scanBound; omega
  rcases hs with hs | hs
  · obtain ⟨its, rv, hl, hz⟩ := I.list hs
    refine ks_call_list ks (I.ok.hd hc) hl.isList (by simpa using rv) hb fun h1 tk L k1 k2 k3 => ?_
    exact ⟨.ref _, upd H s.heap.objs.size (KSO X.prog X.w s.heap.objs.size L), I.laid (t' := tk) k3 (Nat.le_refl _) (kso_new k1), rfl, q _ L k1.nd k2 (I.hok.fresh (Nat.le_refl _))⟩
  · obtain ⟨its, rv, hl, hz⟩ := I.tuple hs
    refine ks_call_tuple ks (I.ok.hd hc) hl (by simpa using rv) hb fun h1 tk L k1 k2 k3 => ?_
    exact ⟨.ref _, upd H s.heap.objs.size (KSO X.prog X.w s.heap.objs.size L), I.laid (t' := tk) k3 (Nat.le_refl _) (kso_new k1), rfl, q _ L k1.nd k2 (I.hok.fresh (Nat.le_refl _))⟩
def keyD : Key → PyData
  | .inl i => .int i
  | .inr x => .str x
theorem keyD_reads {h : Heap} {k : Key} {v : Value} (r : RelV (kV k) v) : ∃ as, Reads h v (keyD k) as := by
  rcases k with i | x
  · obtain ⟨t, rfl⟩ := r; exact ⟨_, .int i t⟩
  · obtain ⟨t, rfl⟩ := r; exact ⟨_, .str x t⟩
abbrev leK (a b : Key) : Bool := PySem.W.dataLe false keyD a b
def sameK (L : List Key) : Prop := (∀ k ∈ L, ∃ i, k = .inl i) ∨ (∀ k ∈ L, ∃ x, k = .inr x)
theorem sameK_alike {L : List Key} (h : sameK L) : PySem.W.AllAlike (L.map keyD) := by
  intro d hd e he
  obtain ⟨k, hk, rfl⟩ := List.mem_map.mp hd
  obtain ⟨l, hl, rfl⟩ := List.mem_map.mp he
  rcases h with h | h <;> (obtain ⟨_, rfl⟩ := h k hk; obtain ⟨_, rfl⟩ := h l hl; rfl)
theorem keyD_sortable {L : List Key} : PySem.W.Sortable (L.map keyD) := .inr fun d hd => by
  obtain ⟨k, _, rfl⟩ := List.mem_map.mp hd
  rcases k with i | x <;> exact And.intro (fun z => nomatch z) (fun _ z => nomatch z)
theorem vals_eachK : ∀ {us : List Value} {ks : List Key}, PySem.W.EachIs (fun v k => RelV (kV k) v) us ks → Vals (ks.map kV) us
  | _, [], h => by cases h; exact .nil
  | _, p :: ps, h => by
    cases h with
    | cons r t => exact .cons r (vals_eachK t)
theorem perm_keys {P : Program} {w : World} {es : List (Int × Value)} {L : List Key} (r : KRows P w es L) : ∀ {out : List Value}, out.Perm (es.map (·.2)) → ∃ L' : List Key, L'.Perm L ∧ PySem.W.EachIs (fun v k => RelV (kV k) v) out L' := by
  have h0 : PySem.W.EachIs (fun v k => RelV (kV k) v) (es.map (·.2)) L := by
    induction r with
    | nil => exact .nil
    | cons a _ ih => exact .cons a.2 ih
  have go : ∀ {a b : List Value}, a.Perm b → ∀ {L : List Key}, PySem.W.EachIs (fun v k => RelV (kV k) v) b L → ∃ L' : List Key, L'.Perm L ∧ PySem.W.EachIs (fun v k => RelV (kV k) v) a L' := by
    intro a b p
    induction p with
    | nil => exact fun h => ⟨_, .refl _, h⟩
    | cons x _ ih =>
      intro L h
      cases h with
      | cons r t =>
        obtain ⟨L', p', e'⟩ := ih t
        exact ⟨_, p'.cons _, .cons r e'⟩
    | swap x y l =>
      intro L h
      cases h with
      | cons r t =>
        cases t with
        | cons r2 t => exact ⟨_, .swap _ _ _, .cons r2 (.cons r t)⟩
    | trans _ _ ih1 ih2 =>
      intro L h
      obtain ⟨L1, p1, e1⟩ := ih2 h
      obtain ⟨L2, p2, e2⟩ := ih1 e1
      exact ⟨L2, p2.trans p1, e2⟩
  exact fun {out} p => go p h0
/-- sorted(a set of keys) -/
def rSortK (P : Program) (w : World) : List V → Hp → VK → Prop := fun vs H Q => ∃ (a : Addr) (L : List Key), vs = [V.ref a] ∧ H a = some (KSO P w a L) ∧ sameK L ∧
  ∀ (L' : List Key) (q : Addr), L'.Perm L → H q = none → Q (.ref q) (upd H q (.lst ((L'.mergeSort leK).map kV)))
theorem cr_sortK (hc : X.calm = true) (hu : X.A.units + 65 < cLine) : CallR X (.builtin "sorted") (rSortK X.prog X.w) := by
  intro pins s σ H vs us Q I r h
  obtain ⟨a, L, rfl, ha, sk, q⟩ := h
  have R := kso_get I ha
  rw [Vals.ref1 r]
  obtain ⟨⟨o, es, ep, t, ho, hx, hd, rw0, hf, hr, hl⟩, nd, few⟩ := R
  have hz : es.size = L.length := by rw [← Array.length_toList, rw0.len]
  have hb : es.size < scanBound := by rw [hz]; exact few
  refine Calls.call_function_entry kind_sorted plain_sorted entry_sorted (args_sorted1 _) ?_
  unfold Builtin.«sorted»
  refine wpAny_bind (m := checkCount "sorted" 1 1 _) (wpAny_pure (wpAny_bind (collect_set (A := X.A.in1) (I.ok.hd hc) ⟨o, ho, hx.1, hd⟩ hf hb hr hl fun s1 us k1 z1 g1 o1 pm => ?_)))
  obtain ⟨L', pL, eL⟩ := perm_keys rw0 pm
  have hlen : us.length = L.length := by rw [eL.length, pL.length_eq]
  have fewL : us.length ≤ sizeLine := by rw [hlen]; exact fits_of_scanBound few
  refine wpAny_bind (wpAny_newList ?_ fewL)
  have hoL : (s1.heap.push (seqObj "list" us.toArray 0)).get? s1.heap.objs.size = some (seqObj "list" us.toArray 0) := Heap.get?_push_size _ rfl
  have sk' : sameK L' := sk.imp (fun h k hk => h k (pL.mem_iff.mp hk)) fun h k hk => h k (pL.mem_iff.mp hk)
  have er : PySem.W.EachIs (fun v k => ∃ as, Reads (s1.heap.push (seqObj "list" us.toArray 0)) v (keyD k) as ∧ s1.heap.objs.size ∉ as) us L' := each_imp eL fun v k _ rr => by
    rcases k with i | x
    · obtain ⟨t, rfl⟩ := rr; exact ⟨_, .int i t, by simp⟩
    · obtain ⟨t, rfl⟩ := rr; exact ⟨_, .str x t, by simp⟩
  refine wpAny_bind (wpAny_holding (PySem.W.list_sort_data (s := { s1 with heap := s1.heap.push (seqObj "list" us.toArray 0) }) (enc := keyD) hoL eL er (sameK_alike sk') keyD_sortable (by rw [pL.length_eq]; exact fits_of_scanBound few) (fun b _ => by
    have : (keyD b).depth = 0 := by rcases b with i | x <;> rfl
    rw [this]; show X.A.units + 1 + 1 + 0 < cLine; omega) fun out ho' eo => ?_))
  obtain ⟨c, hc'⟩ := sortedHeap_at (vs := us) (out := out.toArray) hoL
  have kept : ∀ b u, s.heap.get? b = some u → (sortedHeap (s1.heap.push (seqObj "list" us.toArray 0)) s1.heap.objs.size us out.toArray).get? b = some u := fun b u e => by
    have q := k1 b u e
    have hlt := Heap.lt_size q
    rw [sortedHeap_old (Nat.ne_of_lt hlt) (by rw [size_push']; exact Nat.lt_succ_of_lt hlt)]
    exact Heap.get?_push_of_some _ q
  have hn : H s1.heap.objs.size = none := I.hok.fresh z1
  have hl2 : ((L'.mergeSort leK).map kV).length ≤ sizeLine := by rw [List.length_map, List.length_mergeSort, pL.length_eq]; exact fits_of_scanBound few
  have J : Inv X pins σ (upd H s1.heap.objs.size (.lst ((L'.mergeSort leK).map kV))) { s with heap := sortedHeap (s1.heap.push (seqObj "list" us.toArray 0)) s1.heap.objs.size us out.toArray, gens := s1.gens, drawn := s1.drawn, toks := s1.toks } :=
    I.call (ch := []) (Un.laid kept z1 hn) (I.hok.laid kept z1 ⟨hl2, out, c, vals_eachK eo, by simpa using hc'⟩) (by rw [g1]; exact I.bare) (fun _ z => nomatch z)
  refine wpAny_pure ⟨_, rfl, .ref _, _, ?_, rfl, q L' _ pL hn⟩
  have e : ({ s1 with heap := sortedHeap (s1.heap.push (seqObj "list" us.toArray 0)) s1.heap.objs.size us out.toArray } : Shared) = { s with heap := sortedHeap (s1.heap.push (seqObj "list" us.toArray 0)) s1.heap.objs.size us out.toArray, gens := s1.gens, drawn := s1.drawn, toks := s1.toks } := by
    cases s1; cases s; cases o1; rfl
  exact e ▸ J
end
end Mn

set_option Elab.async false
set_option maxRecDepth 100000
set_option linter.all false
/-! ZS1: zip of two texts. -/
namespace Mn
open PySem PySem.Spec PyProof.Rows L2
section
variable {prog : Program} {w : World}
theorem drawsS {A : Around} (hh : A.handled = none) (it : Addr) (x : Str) (t : Tok) :
    Draws prog w A it [it] x.cps.size (fun i v => ∃ c u, x.cps[i]? = some c ∧ v = .str ⟨#[c]⟩ u) (fun i h => h.IsStrIter it (strIterType x) x t i) := by
  unfold strIterType
  cases ha : x.cps.all (· < 128)
  · exact Draws.strWide hh it x t
  · exact Draws.strAscii hh it x t
/-- two texts sign by sign, in new pairs -/
def ItzS (x y : Str) : It := ⟨fun i _ => i < x.cps.size ∧ i < y.cps.size,
  fun i H v H' => ∃ T c d, v = .ref T ∧ H T = none ∧ H' = upd H T (.tup [.str ⟨#[c]⟩, .str ⟨#[d]⟩]) ∧ x.cps[i]? = some c ∧ y.cps[i]? = some d,
  fun i _ => i ≤ x.cps.size ∧ i ≤ y.cps.size ∧ (i = x.cps.size ∨ i = y.cps.size)⟩
theorem sep_zs {z TI TO i1 i2 : Addr} (h1 : TI ≠ z) (h2 : TO ≠ z) (h3 : TI ≠ TO) (h4 : TI ≠ i1) (h5 : z ≠ i1) (h6 : TO ≠ i1) (h7 : TI ≠ i2) (h8 : z ≠ i2) (h9 : TO ≠ i2) (ha : i1 ≠ i2) : ZipSep2 z TI TO i1 i2 [i1] [i2] :=
  ⟨h1, h2, h3, h4, by simp, by simpa using h5, by simpa using h6, h7, by simp, by simpa using h8, by simpa using h9, by simpa using ha, by simpa using ha.symm⟩
theorem turn_zs {P : Program} {K : PySem.W.Frag} {elts : List Expr} {kk : Nat} {tpos : Pos} {z TI TO i1 i2 : Addr} {x y : Str} {tx ty : Tok} (S : ZipSep2 z TI TO i1 i2 [i1] [i2]) :
    Turn P w K (.Tuple elts kk tpos) (ItzS x y) [z, TI, TO, i1, i2] z (fun i h => IsZip h z TI TO .none ∧ IsTupOf2 h TI (.ref i1) (.ref i2) ∧ (∃ a b, IsTupOf2 h TO a b) ∧ h.IsStrIter i1 (strIterType x) x tx i ∧ h.IsStrIter i2 (strIterType y) y ty i) where
  mem := by simp
  obj := fun i h st c hc => by
    obtain ⟨hz, hTI, ⟨a, b, hTO⟩, ⟨o1, e1, _, d1⟩, ⟨o2, e2, _, d2⟩⟩ := st
    have e0 : c = z ∨ c = TI ∨ c = TO ∨ c = i1 ∨ c = i2 := by simpa using hc
    rcases e0 with rfl | rfl | rfl | rfl | rfl
    · exact ⟨_, hz, fun v q => nomatch q⟩
    · exact ⟨_, hTI, fun v q => nomatch q⟩
    · exact ⟨_, hTO, fun v q => nomatch q⟩
    · exact ⟨o1, e1, fun v q => by rw [d1] at q; cases q⟩
    · exact ⟨o2, e2, fun v q => by rw [d2] at q; cases q⟩
  keep := fun i h h' st k => by
    obtain ⟨hz, hTI, ⟨a, b, hTO⟩, ⟨o1, e1, r1⟩, ⟨o2, e2, r2⟩⟩ := st
    exact ⟨k z (by simp) _ hz, k TI (by simp) _ hTI, ⟨a, b, k TO (by simp) _ hTO⟩, ⟨o1, k i1 (by simp) _ e1, r1⟩, ⟨o2, k i2 (by simp) _ e2, r2⟩⟩
  item := by
    intro X hP hw hK hc i pins s σ H E I hf st hg
    subst hP hw hK
    obtain ⟨hz, hTI, ⟨a0, b0, hTO⟩, h1, h2⟩ := st
    have hzl : z < s.heap.objs.size := Heap.lt_size hz
    refine wpAny_pyNext_zipD2_item S (drawsS (A := X.A.in1) (I.ok.hd hc) i1 x tx) (drawsS (A := X.A.in1) (I.ok.hd hc) i2 y ty) hz hTI hTO h1 h2 hg.1 hg.2 fun v1 v2 h' tk p1 p2 b1 b2 d1 d2 b5 b6 hk => ?_
    obtain ⟨c, u, hc1, rfl⟩ := p1
    obtain ⟨d, u', hc2, rfl⟩ := p2
    refine ⟨_, rfl, wpAny_letOwnedTupleGo_zip (s := { s with heap := h', toks := tk }) b1 fun h2' z2 sb => ?_⟩
    have hT2 : h2'.get? s.heap.objs.size = some { cls := .type "tuple", data := .seq #[.str ⟨#[c]⟩ u, .str ⟨#[d]⟩ u'] } := (sb.2 _ (Nat.ne_of_gt hzl)).trans b5
    have new : ObjOk X.prog X.w (upd H s.heap.objs.size (.tup [.str ⟨#[c]⟩, .str ⟨#[d]⟩])) h2' s.heap.objs.size (.tup [.str ⟨#[c]⟩, .str ⟨#[d]⟩]) :=
      ⟨by show 2 ≤ sizeLine; decide, [_, _], .cons ⟨u, rfl⟩ (.cons ⟨u', rfl⟩ .nil), ⟨_, hT2, rfl, _, rfl⟩⟩
    have I1 : Inv X pins σ (upd H s.heap.objs.size (.tup [.str ⟨#[c]⟩, .str ⟨#[d]⟩])) { s with heap := h2', toks := tk } :=
      I.turnedNew (t' := tk) (ch := [z, TI, TO, i1, i2]) (fun b o hb q => (sb.2 b (fun q' => hb (by simp [q']))).trans (hk b o (fun q' => hb (by simp [q'])) (fun q' => hb (by simp [q'])) (fun q' => hb (by simp [q'])) (fun q' => hb (by simp [q'])) q)) hf (Nat.le_refl _) new
    refine ⟨.ref s.heap.objs.size, _, I1, rfl, ⟨_, c, d, rfl, I.hok.fresh (Nat.le_refl _), rfl, hc1, hc2⟩, ⟨z2, ?_, ⟨.str ⟨#[c]⟩ u, .str ⟨#[d]⟩ u', ?_⟩, ?_, ?_⟩, fun b hbm => ?_⟩
    · exact (sb.2 _ S.TIz).trans (hk _ _ S.TIz S.TITO S.TIi1 S.TIi2 hTI)
    · exact (sb.2 _ S.TOz).trans b2
    · obtain ⟨o, e, r⟩ := d1; exact ⟨o, (sb.2 _ S.zi1.symm).trans e, r⟩
    · obtain ⟨o, e, r⟩ := d2; exact ⟨o, (sb.2 _ S.zi2.symm).trans e, r⟩
    · have hlt : b < s.heap.objs.size := by
        have e0 : b = z ∨ b = TI ∨ b = TO ∨ b = i1 ∨ b = i2 := by simpa using hbm
        rcases e0 with rfl | rfl | rfl | rfl | rfl
        · exact hzl
        · exact Heap.lt_size hTI
        · exact Heap.lt_size hTO
        · obtain ⟨_, e1, _⟩ := h1; exact Heap.lt_size e1
        · obtain ⟨_, e2, _⟩ := h2; exact Heap.lt_size e2
      rw [upd_ne (Nat.ne_of_lt hlt)]
      exact (hf b hbm).1
  done := by
    intro X hP hw hK hc i pins s σ H E I hf st hg
    subst hP hw hK
    obtain ⟨hz, hTI, ⟨a0, b0, hTO⟩, h1, h2⟩ := st
    exact wpAny_pyNext_zipD2_end S (drawsS (A := X.A.in1) (I.ok.hd hc) i1 x tx) (drawsS (A := X.A.in1) (I.ok.hd hc) i2 y ty) hz hTI hTO h1 h2 hg.1 hg.2.1 hg.2.2 fun h' tk hk => ⟨rfl, I.turnedL (t' := tk) (ch := [z, TI, TO, i1, i2]) (fun c o hb q =>
      hk c o (fun q' => hb (by simp [q'])) (fun q' => hb (by simp [q'])) (fun q' => hb (by simp [q'])) (fun q' => hb (by simp [q'])) q) hf⟩
  self := fun A i s Q E st h => wpAny_pyIter_zip st.1 h
/-! made -/
abbrev zsH1 (h : Heap) (x : Str) (t : Tok) : Heap := h.push { cls := .type (strIterType x), data := .fields #[.str x t, .int 0 0] }
abbrev zsH2 (h : Heap) (x y : Str) (t u : Tok) : Heap := (zsH1 h x t).push { cls := .type (strIterType y), data := .fields #[.str y u, .int 0 0] }
abbrev zsH3 (h : Heap) (x y : Str) (t u : Tok) : Heap := (zsH2 h x y t u).push { cls := .type "tuple", data := .seq #[.ref h.objs.size, .ref (zsH1 h x t).objs.size] }
abbrev zsH4 (h : Heap) (x y : Str) (t u : Tok) : Heap := (zsH3 h x y t u).push { cls := .type "tuple", data := .seq #[.none, .none] }
abbrev zsH5 (h : Heap) (x y : Str) (t u : Tok) : Heap := (zsH4 h x y t u).push { cls := .type "zip", data := .fields #[.none, .bool false, .bool false, .ref (zsH2 h x y t u).objs.size, .ref (zsH3 h x y t u).objs.size] }
set_option maxHeartbeats 1000000 in
theorem meets_zs_new (x y : Str) (t u : Tok) :
    Meets (Builtin.«zip.__new__» ⟨[.type "zip", .str x t, .str y u], []⟩) (fun _ R s => R (.ok (.ret (.ref (zsH4 s.heap x y t u).objs.size))) { s with heap := zsH5 s.heap x y t u }) :=
  .of_wp fun prog w A R s h => by
    obtain ⟨hp, g, d, tk, os⟩ := s
    have hsub := sub_zip
    wp_walk using wpAny_pyIter_strU
    exact ⟨_, rfl, h⟩
variable {A : Around} {E : Value → Shared → Prop} {s : Shared}
theorem call_zs {x y : Str} {t u : Tok} {Q : Value → Shared → Prop}
    (fin : ∀ h', IsZip h' (s.heap.objs.size + 4) (s.heap.objs.size + 2) (s.heap.objs.size + 3) .none → IsTupOf2 h' (s.heap.objs.size + 2) (.ref s.heap.objs.size) (.ref (s.heap.objs.size + 1)) →
      IsTupOf2 h' (s.heap.objs.size + 3) .none .none → h'.IsStrIter s.heap.objs.size (strIterType x) x t 0 → h'.IsStrIter (s.heap.objs.size + 1) (strIterType y) y u 0 → (∀ c o, s.heap.get? c = some o → h'.get? c = some o) → Q (.ref (s.heap.objs.size + 4)) { s with heap := h' }) :
    wpAny (model prog w) A (call (.type "zip") [.str x t, .str y u]) Q E s := by
  refine callType_new F.called_zip (by decide) (F.typeCall_zip_2 _ _) (F.newCall_zip_2 _ _) (fun obj => F.args_object_init_3 obj _ _) F.entry_zip_new (meets_zs_new x y t u) ?_
  have z1 : (zsH1 s.heap x t).objs.size = s.heap.objs.size + 1 := Heap.size_push ..
  have z2 : (zsH2 s.heap x y t u).objs.size = s.heap.objs.size + 2 := by rw [Heap.size_push, z1]
  have z3 : (zsH3 s.heap x y t u).objs.size = s.heap.objs.size + 3 := by rw [Heap.size_push, z2]
  have z4 : (zsH4 s.heap x y t u).objs.size = s.heap.objs.size + 4 := by rw [Heap.size_push, z3]
  have g5 : (zsH5 s.heap x y t u).get? (zsH4 s.heap x y t u).objs.size = some _ := Heap.get?_push_size _ rfl
  have g4 : (zsH5 s.heap x y t u).get? (zsH3 s.heap x y t u).objs.size = some _ := Heap.get?_push_of_some _ (Heap.get?_push_size _ rfl)
  have g3 : (zsH5 s.heap x y t u).get? (zsH2 s.heap x y t u).objs.size = some _ := Heap.get?_push_of_some _ (Heap.get?_push_of_some _ (Heap.get?_push_size _ rfl))
  have g2 : (zsH5 s.heap x y t u).get? (zsH1 s.heap x t).objs.size = some _ := Heap.get?_push_of_some _ (Heap.get?_push_of_some _ (Heap.get?_push_of_some _ (Heap.get?_push_size _ rfl)))
  have g1 : (zsH5 s.heap x y t u).get? s.heap.objs.size = some _ := Heap.get?_push_of_some _ (Heap.get?_push_of_some _ (Heap.get?_push_of_some _ (Heap.get?_push_of_some _ (Heap.get?_push_size _ rfl))))
  show _ ∧ _
  rw [z2, z3, z4] at g5
  rw [z1, z2] at g3
  rw [z3] at g4
  rw [z1] at g2
  rw [z4]
  exact ⟨⟨_, g5, rfl⟩, fin _ g5 g3 g4 ⟨_, g1, rfl, rfl⟩ ⟨_, g2, rfl, rfl⟩ fun c o q => Heap.get?_push_of_some _ (Heap.get?_push_of_some _ (Heap.get?_push_of_some _ (Heap.get?_push_of_some _ (Heap.get?_push_of_some _ q))))⟩
end
def iZipS (ta : TA) : TI := fun σ H R => ta σ H fun vs H1 => ∃ x y, vs = [.str x, .str y] ∧ R (ItzS x y) H1
theorem pi_zs {X : Cx} {e e2 : Expr} {ta : TA} {p pos tpos : Pos} {elts : List Expr} {kk : Nat} (hg : Gl X "zip") (hm : X.mg "zip" = none) (ha : PA X [e, e2] ta)
    (hs : starEach [e, e2] X.env = (false, eval e X.env) :: starEach [e2] X.env := by rfl) (hpl : (backTo pos (starEach [e2] X.env)).any (·.1) = false := by rfl) :
    PI X (.Tuple elts kk tpos) (.Call (.Name "zip" p) [e, e2] [] pos) (iZipS ta) := by
  refine ⟨fun pins s σ H R I h => ?_⟩
  refine Call_ (ld_blt I hg hm boot_zip (callWith_type1 (thn (ha.run pos pins s σ H _ I h) fun us s1 ⟨vs, H1, I1, r1, q1⟩ => ?_) hs hpl))
  obtain ⟨x, y, rfl, q⟩ := q1
  cases r1 with
  | cons r rr =>
    cases rr with
    | cons r2 rr =>
      cases rr
      obtain ⟨t, rfl⟩ := r
      obtain ⟨u, rfl⟩ := r2
      refine call_zs fun h' hz hTI hTO h1 h2 hk => wpAny_pyIter_zip hz ?_
      have fresh5 : ∀ c, c ∈ [s1.heap.objs.size + 4, s1.heap.objs.size + 2, s1.heap.objs.size + 3, s1.heap.objs.size, s1.heap.objs.size + 1] → FpOk X pins H1 c := fun c hcm => by
        have hle : s1.heap.objs.size ≤ c := by
          simp only [List.mem_cons, List.not_mem_nil, or_false] at hcm
          unfold Addr at *
          omega
        exact I1.fpOk hle (I1.hok.fresh hle)
      have I2 : Inv X pins σ H1 { s1 with heap := h' } := I1.kept (t' := s1.toks) hk
      have ne : ∀ a b : Nat, a ≠ b → (s1.heap.objs.size + a : Addr) ≠ s1.heap.objs.size + b := fun a b h e => h (Nat.add_left_cancel e)
      have sp := sep_zs (z := s1.heap.objs.size + 4) (TI := s1.heap.objs.size + 2) (TO := s1.heap.objs.size + 3) (i1 := s1.heap.objs.size) (i2 := s1.heap.objs.size + 1) (ne 2 4 (by decide)) (ne 3 4 (by decide)) (ne 2 3 (by decide)) (ne 2 0 (by decide)) (ne 4 0 (by decide)) (ne 3 0 (by decide)) (ne 2 1 (by decide)) (ne 4 1 (by decide)) (ne 3 1 (by decide)) (ne 0 1 (by decide))
      exact ⟨s1.heap.objs.size + 4, [s1.heap.objs.size + 4, s1.heap.objs.size + 2, s1.heap.objs.size + 3, s1.heap.objs.size, s1.heap.objs.size + 1], _, _, H1, rfl, I2, turn_zs sp, ⟨hz, hTI, ⟨_, _, hTO⟩, h1, h2⟩, fresh5, q⟩
end Mn

set_option Elab.async false
set_option maxRecDepth 100000
/-! Mn0a: data without addresses, and a run of the language's texts over them. -/
namespace Mn
open PySem L2

/-- data: own containers are marked true -/
inductive Val where
  | non | bl (b : Bool) | int (i : Int) | str (x : Str)
  | tup (xs : List Val)
  | lst (o : Bool) (xs : List Val)
  | dK (o : Bool) (kvs : List (Key × Val))
  | dT (o : Bool) (kvs : List (List Key × Val))
  | ins (c : Str) (fs : List (Str × Val))
  | scr (ns : List Int)
instance : Inhabited Val := ⟨.non⟩

mutual
def Val.noOwn : Val → Bool
  | .non => true | .bl _ => true | .int _ => true | .str _ => true
  | .tup xs => noOwnL xs
  | .lst o xs => !o && noOwnL xs
  | .dK o kvs => !o && noOwnK kvs
  | .dT o kvs => !o && noOwnT kvs
  | .ins _ _ => false
  | .scr _ => true
def noOwnL : List Val → Bool
  | [] => true
  | x :: r => x.noOwn && noOwnL r
def noOwnK : List (Key × Val) → Bool
  | [] => true
  | (_, x) :: r => x.noOwn && noOwnK r
def noOwnT : List (List Key × Val) → Bool
  | [] => true
  | (_, x) :: r => x.noOwn && noOwnT r
end
mutual
/-- all marks taken off; an instance stays -/
def Val.frz : Val → Val
  | .non => .non | .bl b => .bl b | .int i => .int i | .str x => .str x
  | .tup xs => .tup (frzL xs)
  | .lst _ xs => .lst false (frzL xs)
  | .dK _ kvs => .dK false (frzK kvs)
  | .dT _ kvs => .dT false (frzT kvs)
  | .ins c fs => .ins c fs
  | .scr ns => .scr ns
def frzL : List Val → List Val
  | [] => []
  | x :: r => x.frz :: frzL r
def frzK : List (Key × Val) → List (Key × Val)
  | [] => []
  | (k, x) :: r => (k, x.frz) :: frzK r
def frzT : List (List Key × Val) → List (List Key × Val)
  | [] => []
  | (k, x) :: r => (k, x.frz) :: frzT r
end
mutual
def Val.data : Val → PyData
  | .non => .none | .bl b => .bool b | .int i => .int i | .str x => .str x
  | .tup xs => .tuple (dataL xs)
  | .lst _ xs => .list (dataL xs)
  | .dK _ _ => .dict [] | .dT _ _ => .dict [] | .ins _ _ => .dict [] | .scr _ => .dict []
def dataL : List Val → List PyData
  | [] => []
  | x :: r => x.data :: dataL r
end

abbrev Env := List (Option Val)

/-- a def's outcome: the value, what became of the lent arguments; or an error's class -/
inductive FR where
  | ok (y : Val) (outs : List (Option Val))
  | exc (c : Nat) (outs : List (Option Val))
  | stuck
/-- an outcome within a def -/
inductive R (α : Type) where
  | ok (a : α) | exc (c : Nat) (env : Env) | stuck
def R.bind {α β : Type} : R α → (α → R β) → R β
  | .ok a, f => f a
  | .exc c e, _ => .exc c e
  | .stuck, _ => .stuck
@[simp] theorem R.bind_ok {α β : Type} (a : α) (f : α → R β) : R.bind (.ok a) f = f a := rfl
@[simp] theorem R.bind_exc {α β : Type} (c : Nat) (e : Env) (f : α → R β) : R.bind (.exc c e) f = .exc c e := rfl
@[simp] theorem R.bind_stuck {α β : Type} (f : α → R β) : R.bind .stuck f = .stuck := rfl

/-- one-step operations -/
inductive Op where
  | add | sub | mul | fdiv | mod | pow | addS | addL | addT
  | lt | le | gt | ge | ltS | eq | ne
  | inS | notinS | inL | notinL | inT | notinT | inD | notinD
  | isN | notN | neg
  | tup | lst | dnK | dnT
  | ix | dix | slL (lo hi : Bool) | slT (lo hi : Bool) | slS (lo hi : Bool)
  | len | lenD | max2 | min2 | intB | strI | listOf | listD | tupOf | all | any | isi (ty : String)
  | join
  | alt (a b : Op)
/-- text indices -/
def seqAt (xs : List α) (i : Int) : Option α := atI xs i
def cutL {α : Type} (xs : List α) (lo hi : Option Int) : List α := (xs.drop (HT.sIx xs.length 0 lo)).take (HT.sIx xs.length xs.length hi - HT.sIx xs.length 0 lo)
def Val.key? : Val → Option Key
  | .int i => some (.inl i)
  | .str x => some (.inr x)
  | _ => none
def keys? : List Val → Option (List Key)
  | [] => some []
  | x :: r => match x.key?, keys? r with
    | some k, some ks => some (k :: ks)
    | _, _ => none
/-- the pairs of a display -/
def pairs? : List (Val × Bool) → Option (List (Key × Val))
  | [] => some []
  | (k, _) :: (v, u) :: r => match k.key?, pairs? r with
    | some k, some kvs => if u || v.noOwn then some ((k, v) :: kvs) else none
    | _, _ => none
  | _ => none
def s_dlit (xs : List (Val × Bool)) : Option Val := (pairs? xs).bind fun kvs => if decide (kvs.length ≤ 15) && decide (kvs.map (·.1)).Nodup then some (.dK true kvs) else none
def Val.tkey? : Val → Option (List Key)
  | .tup xs => keys? xs
  | _ => none
def lk {κ : Type} [DecidableEq κ] (kvs : List (κ × Val)) (k : κ) : Option Val := (kvs.find? fun kv => decide (kv.1 = k)).map (·.2)
def pk {κ : Type} [DecidableEq κ] (kvs : List (κ × Val)) (k : κ) (v : Val) : List (κ × Val) :=
  if (kvs.any fun kv => decide (kv.1 = k)) = true then kvs.map (fun kv => if kv.1 = k then (kv.1, v) else kv) else kvs ++ [(k, v)]
def rk {κ : Type} [DecidableEq κ] (kvs : List (κ × Val)) (k : κ) : List (κ × Val) := kvs.filter fun kv => decide (kv.1 ≠ k)
def keyV : Key → Val
  | .inl i => .int i
  | .inr x => .str x
def Val.truth : Val → Option Bool
  | .non => some false
  | .bl b => some b
  | .int i => some (i != 0)
  | .str y => if y.length ≤ sizeLine then some ((y.length : Int) != 0) else none
  | .tup xs => some (!xs.isEmpty)
  | .lst _ xs => some (!xs.isEmpty)
  | .dK _ kvs => some (!kvs.isEmpty)
  | _ => none
def allB : List Val → Option (List Bool)
  | [] => some []
  | .bl b :: r => (allB r).map (b :: ·)
  | _ => none
def allStr : List Val → Option (List Str)
  | [] => some []
  | .str b :: r => (allStr r).map (b :: ·)
  | _ => none
/-- the numbers of a slice as they are given -/
def parts? (lo hi : Bool) : List Val → Option (Option Int × Option Int)
  | [] => if !lo && !hi then some (none, none) else none
  | [.int i] => if lo && !hi then some (some i, none) else if !lo && hi then some (none, some i) else none
  | [.int i, .int j] => if lo && hi then some (some i, some j) else none
  | _ => none
def tyIs (ty : String) : Val → Bool
  | .non => false
  | .bl _ => ty == "bool" || ty == "int"
  | .int _ => ty == "int"
  | .str _ => ty == "str"
  | .tup _ => ty == "tuple"
  | .lst _ _ => ty == "list"
  | .dK _ _ => ty == "dict"
  | .dT _ _ => ty == "dict"
  | .ins _ _ => false
  | .scr _ => ty == "list"
def good (d : PyData) : Bool := SeqAt.shaped d

def s_add : List (Val × Bool) → Option (Val × Bool)
  | [(.int i, _), (.int j, _)] => some (.int (i + j), true)
  | _ => none
def s_sub : List (Val × Bool) → Option (Val × Bool)
  | [(.int i, _), (.int j, _)] => some (.int (i - j), true)
  | _ => none
def s_mul : List (Val × Bool) → Option (Val × Bool)
  | [(.int i, _), (.int j, _)] => if i.natAbs.log2 + j.natAbs.log2 < 1000000 then some (.int (i * j), true) else none
  | _ => none
def s_fdiv : List (Val × Bool) → Option (Val × Bool)
  | [(.int i, _), (.int j, _)] => if 0 < j ∧ j.natAbs.log2 < 9000 then some (.int (i / j), true) else none
  | _ => none
def s_mod : List (Val × Bool) → Option (Val × Bool)
  | [(.int i, _), (.int j, _)] => if 0 < j then some (.int (i % j), true) else none
  | _ => none
def s_pow : List (Val × Bool) → Option (Val × Bool)
  | [(.int i, _), (.int j, _)] => if 0 ≤ j ∧ j ≤ 64 ∧ i.natAbs.log2 < 1000000 then some (.int (i ^ j.toNat), true) else none
  | _ => none
def s_addS : List (Val × Bool) → Option (Val × Bool)
  | [(.str a, _), (.str b, _)] => if a.length + b.length ≤ sizeLine then some (.str (a ++ b), true) else none
  | _ => none
def s_addL : List (Val × Bool) → Option (Val × Bool)
  | [(.lst _ xs, _), (.lst _ ys, _)] => if noOwnL xs && noOwnL ys && decide (xs.length + ys.length ≤ sizeLine) then some (.lst true (xs ++ ys), true) else none
  | _ => none
def s_addT : List (Val × Bool) → Option (Val × Bool)
  | [(.tup xs, _), (.tup ys, _)] => if noOwnL xs && noOwnL ys && decide (xs.length + ys.length ≤ sizeLine) then some (.tup (xs ++ ys), true) else none
  | _ => none
def s_lt : List (Val × Bool) → Option (Val × Bool)
  | [(.int i, _), (.int j, _)] => some (.bl (decide (i < j)), true)
  | _ => none
def s_le : List (Val × Bool) → Option (Val × Bool)
  | [(.int i, _), (.int j, _)] => some (.bl (decide (i ≤ j)), true)
  | _ => none
def s_gt : List (Val × Bool) → Option (Val × Bool)
  | [(.int i, _), (.int j, _)] => some (.bl (decide (j < i)), true)
  | _ => none
def s_ge : List (Val × Bool) → Option (Val × Bool)
  | [(.int i, _), (.int j, _)] => some (.bl (decide (j ≤ i)), true)
  | _ => none
def s_ltS : List (Val × Bool) → Option (Val × Bool)
  | [(.str a, _), (.str b, _)] => some (.bl (decide (a.cps.toList < b.cps.toList)), true)
  | _ => none
def s_eq : List (Val × Bool) → Option (Val × Bool)
  | [(x, _), (y, _)] => if good x.data && good y.data then some (.bl (PyData.eqv x.data y.data), true) else none
  | _ => none
def s_ne : List (Val × Bool) → Option (Val × Bool)
  | [(x, _), (y, _)] => if good x.data && good y.data then some (.bl (!PyData.eqv x.data y.data), true) else none
  | _ => none
def s_inS : List (Val × Bool) → Option (Val × Bool)
  | [(.str a, _), (.str b, _)] => match a.cps.toList with
    | [c] => some (.bl (decide (c ∈ b.cps.toList)), true)
    | _ => none
  | _ => none
def s_notinS : List (Val × Bool) → Option (Val × Bool)
  | [(.str a, _), (.str b, _)] => match a.cps.toList with
    | [c] => some (.bl (!decide (c ∈ b.cps.toList)), true)
    | _ => none
  | _ => none
def s_inL : List (Val × Bool) → Option (Val × Bool)
  | [(x, _), (.lst o ys, _)] => if good x.data && good (Val.lst o ys).data then some (.bl ((dataL ys).any fun z => PyData.eqv z x.data), true) else none
  | _ => none
def s_notinL : List (Val × Bool) → Option (Val × Bool)
  | [(x, _), (.lst o ys, _)] => if good x.data && good (Val.lst o ys).data then some (.bl (!(dataL ys).any fun z => PyData.eqv z x.data), true) else none
  | _ => none
def isFlat : Val → Bool
  | .non => true | .bl _ => true | .int _ => true | .str _ => true | _ => false
def s_inT : List (Val × Bool) → Option (Val × Bool)
  | [(x, _), (.tup ys, _)] => if isFlat x && ys.all isFlat then some (.bl (ys.any fun z => PyData.eqv z.data x.data), true) else none
  | _ => none
def s_notinT : List (Val × Bool) → Option (Val × Bool)
  | [(x, _), (.tup ys, _)] => if isFlat x && ys.all isFlat then some (.bl (!ys.any fun z => PyData.eqv z.data x.data), true) else none
  | _ => none
def s_inD : List (Val × Bool) → Option (Val × Bool)
  | [(x, _), (.dK _ kvs, _)] => x.key?.map fun k => (.bl (lk kvs k).isSome, true)
  | [(x, _), (.dT _ kvs, _)] => x.tkey?.map fun k => (.bl (lk kvs k).isSome, true)
  | _ => none
def s_notinD : List (Val × Bool) → Option (Val × Bool)
  | [(x, _), (.dK _ kvs, _)] => x.key?.map fun k => (.bl (!(lk kvs k).isSome), true)
  | [(x, _), (.dT _ kvs, _)] => x.tkey?.map fun k => (.bl (!(lk kvs k).isSome), true)
  | _ => none
def s_isN : List (Val × Bool) → Option (Val × Bool)
  | [(x, _)] => some (.bl (match x with | .non => true | _ => false), true)
  | _ => none
def s_notN : List (Val × Bool) → Option (Val × Bool)
  | [(x, _)] => some (.bl (match x with | .non => false | _ => true), true)
  | _ => none
def s_neg : List (Val × Bool) → Option (Val × Bool)
  | [(.int i, _)] => some (.int (-i), true)
  | _ => none
def s_tup : List (Val × Bool) → Option (Val × Bool)
  | xs => if xs.all (fun x => x.2 || x.1.noOwn) && decide (xs.length ≤ sizeLine) then some (.tup (xs.map (·.1)), true) else none
def s_lst : List (Val × Bool) → Option (Val × Bool)
  | xs => if xs.all (fun x => x.2 || x.1.noOwn) && decide (xs.length ≤ sizeLine) then some (.lst true (xs.map (·.1)), true) else none
def s_dnK : List (Val × Bool) → Option (Val × Bool)
  | [] => some (.dK true [], true)
  | _ => none
def s_dnT : List (Val × Bool) → Option (Val × Bool)
  | [] => some (.dT true [], true)
  | _ => none
def s_ix : List (Val × Bool) → Option (Val × Bool)
  | [(.lst _ xs, _), (.int i, _)] => (atI xs i).map fun y => (y, false)
  | [(.scr xs, _), (.int i, _)] => (atI xs i).map fun y => (.int y, true)
  | [(.tup xs, _), (.int i, _)] => (atI xs i).map fun y => (y, false)
  | [(.str z, _), (.int i, _)] => if z.length ≤ sizeLine then (atI z.cps.toList i).map fun c => (.str ⟨#[c]⟩, true) else none
  | _ => none
def s_dix : List (Val × Bool) → Option (Val × Bool)
  | [(.dK _ kvs, _), (x, _)] => x.key?.bind fun k => (lk kvs k).map fun y => (y, false)
  | [(.dT _ kvs, _), (x, _)] => x.tkey?.bind fun k => (lk kvs k).map fun y => (y, false)
  | _ => none
def s_slL (lo hi : Bool) : List (Val × Bool) → Option (Val × Bool)
  | (.lst _ xs, _) :: r => if noOwnL xs then (parts? lo hi (r.map (·.1))).map fun p => (.lst true (cutL xs p.1 p.2), true) else none
  | (.scr xs, _) :: r => (parts? lo hi (r.map (·.1))).map fun p => (.lst true ((cutL xs p.1 p.2).map Val.int), true)
  | _ => none
def s_slT (lo hi : Bool) : List (Val × Bool) → Option (Val × Bool)
  | (.tup xs, _) :: r => if noOwnL xs then (parts? lo hi (r.map (·.1))).map fun p => (.tup (cutL xs p.1 p.2), true) else none
  | _ => none
def s_slS (lo hi : Bool) : List (Val × Bool) → Option (Val × Bool)
  | (.str z, _) :: r => if z.length ≤ sizeLine then (parts? lo hi (r.map (·.1))).map fun p => (.str (cutS z p.1 p.2), true) else none
  | _ => none
def s_len : List (Val × Bool) → Option (Val × Bool)
  | [(.lst _ xs, _)] => some (.int xs.length, true)
  | [(.scr xs, _)] => some (.int xs.length, true)
  | [(.tup xs, _)] => some (.int xs.length, true)
  | [(.str z, _)] => if z.length ≤ sizeLine then some (.int z.length, true) else none
  | _ => none
def s_lenD : List (Val × Bool) → Option (Val × Bool)
  | [(.dK _ kvs, _)] => some (.int kvs.length, true)
  | [(.dT _ kvs, _)] => some (.int kvs.length, true)
  | _ => none
def s_max2 : List (Val × Bool) → Option (Val × Bool)
  | [(.int i, _), (.int j, _)] => some (.int (if j > i then j else i), true)
  | _ => none
def s_min2 : List (Val × Bool) → Option (Val × Bool)
  | [(.int i, _), (.int j, _)] => some (.int (if j < i then j else i), true)
  | _ => none
def s_intB : List (Val × Bool) → Option (Val × Bool)
  | [(.bl b, _)] => some (.int (if b then 1 else 0), true)
  | [(.int i, _)] => some (.int i, true)
  | _ => none
def s_strI : List (Val × Bool) → Option (Val × Bool)
  | [(.int i, _)] => if i.natAbs.log2 < 1920 then some (.str (Str.ofString (toString i)), true) else none
  | _ => none
def s_listOf : List (Val × Bool) → Option (Val × Bool)
  | [(.lst _ xs, _)] => if noOwnL xs then some (.lst true xs, true) else none
  | [(.tup xs, _)] => if noOwnL xs then some (.lst true xs, true) else none
  | _ => none
def s_listD : List (Val × Bool) → Option (Val × Bool)
  | [(.dK _ kvs, _)] => some (.lst true (kvs.map fun kv => keyV kv.1), true)
  | _ => none
def s_tupOf : List (Val × Bool) → Option (Val × Bool)
  | [(.lst _ xs, _)] => if noOwnL xs then some (.tup xs, true) else none
  | _ => none
def s_all : List (Val × Bool) → Option (Val × Bool)
  | [(.lst _ xs, _)] => (allB xs).map fun bs => (.bl (bs.all id), true)
  | _ => none
def s_any : List (Val × Bool) → Option (Val × Bool)
  | [(.lst _ xs, _)] => (allB xs).map fun bs => (.bl (bs.any id), true)
  | _ => none
def s_isi (ty : String) : List (Val × Bool) → Option (Val × Bool)
  | [(x, _)] => some (.bl (tyIs ty x), true)
  | _ => none
def s_join : List (Val × Bool) → Option (Val × Bool)
  | [(.str a, _), (.lst _ xs, _)] => (allStr xs).bind fun ys => if (ys.map (·.length)).sum + ys.length * a.length ≤ 16777216 then some (.str (Txt.join a ys), true) else none
  | _ => none
/-- one or the other, by the values -/
def s_alt (f g : List (Val × Bool) → Option (Val × Bool)) (xs : List (Val × Bool)) : Option (Val × Bool) := match f xs with
  | some y => some y
  | none => g xs
/-- what an operation gives: the value, and whether its own containers are its alone -/
def Op.sem : Op → List (Val × Bool) → Option (Val × Bool)
  | .add => s_add
  | .sub => s_sub
  | .mul => s_mul
  | .fdiv => s_fdiv
  | .mod => s_mod
  | .pow => s_pow
  | .addS => s_addS
  | .addL => s_addL
  | .addT => s_addT
  | .lt => s_lt
  | .le => s_le
  | .gt => s_gt
  | .ge => s_ge
  | .ltS => s_ltS
  | .eq => s_eq
  | .ne => s_ne
  | .inS => s_inS
  | .notinS => s_notinS
  | .inL => s_inL
  | .notinL => s_notinL
  | .inT => s_inT
  | .notinT => s_notinT
  | .inD => s_inD
  | .notinD => s_notinD
  | .isN => s_isN
  | .notN => s_notN
  | .neg => s_neg
  | .tup => s_tup
  | .lst => s_lst
  | .dnK => s_dnK
  | .dnT => s_dnT
  | .ix => s_ix
  | .dix => s_dix
  | .slL lo hi => s_slL lo hi
  | .slT lo hi => s_slT lo hi
  | .slS lo hi => s_slS lo hi
  | .len => s_len
  | .lenD => s_lenD
  | .max2 => s_max2
  | .min2 => s_min2
  | .intB => s_intB
  | .strI => s_strI
  | .listOf => s_listOf
  | .listD => s_listD
  | .tupOf => s_tupOf
  | .all => s_all
  | .any => s_any
  | .isi ty => s_isi ty
  | .join => s_join
  | .alt a b => s_alt a.sem b.sem

end Mn

set_option Elab.async false
set_option maxRecDepth 100000
/-! Mn2: how data lie in the abstract heap: frozen ones in F, own ones with their footprint. -/
namespace Mn
open PySem L2

abbrev FP := List (Addr × HO)
def keys (fp : FP) : List Addr := fp.map (·.1)
mutual
inductive Rep (K : PySem.W.Frag) (F : Hp) : Val → V → FP → Prop
  | non : Rep K F .non .non []
  | bl {b} : Rep K F (.bl b) (.bl b) []
  | int {i} : Rep K F (.int i) (.int i) []
  | str {x} : Rep K F (.str x) (.str x) []
  | scr {a ns} : SqL K F a (ns.map V.int) → Rep K F (.scr ns) (.ref a) []
  | tup {a vs xs fp} : F a = some (.tup vs) → Reps K F xs vs fp → Rep K F (.tup xs) (.ref a) fp
  | lstF {a vs xs} : F a = some (.lst vs) → Reps K F xs vs [] → Rep K F (.lst false xs) (.ref a) []
  | lstO {a vs xs fp} : Reps K F xs vs fp → Rep K F (.lst true xs) (.ref a) ((a, .lst vs) :: fp)
  | dKF {a kvs kws} : F a = some (.dK kws) → kvs.map (·.1) = kws.map (·.1) → Reps K F (kvs.map (·.2)) (kws.map (·.2)) [] → Rep K F (.dK false kvs) (.ref a) []
  | dKO {a kvs kws fp} : kvs.map (·.1) = kws.map (·.1) → Reps K F (kvs.map (·.2)) (kws.map (·.2)) fp → Rep K F (.dK true kvs) (.ref a) ((a, .dK kws) :: fp)
  | dTF {a kvs kws} : F a = some (.dT kws) → kvs.map (·.1) = kws.map (·.1) → Reps K F (kvs.map (·.2)) (kws.map (·.2)) [] → Rep K F (.dT false kvs) (.ref a) []
  | dTO {a kvs kws fp} : kvs.map (·.1) = kws.map (·.1) → Reps K F (kvs.map (·.2)) (kws.map (·.2)) fp → Rep K F (.dT true kvs) (.ref a) ((a, .dT kws) :: fp)
inductive Reps (K : PySem.W.Frag) (F : Hp) : List Val → List V → FP → Prop
  | nil : Reps K F [] [] []
  | cons {x v fp xs vs fps} : Rep K F x v fp → Reps K F xs vs fps → Reps K F (x :: xs) (v :: vs) (fp ++ fps)
end
section
variable {K : PySem.W.Frag} {F F' H H' : Hp}
theorem Rd.mono {a : Addr} {o : HO} (h : Same F F') (r : Rd F a o) : Rd F' a o := r.imp (h _ _) fun ⟨u, z⟩ => ⟨u, h _ _ z⟩
mutual
theorem Rep.mono (h : Same F F') : ∀ {x v fp}, Rep K F x v fp → Rep K F' x v fp
  | _, _, _, .non => .non
  | _, _, _, .bl => .bl
  | _, _, _, .int => .int
  | _, _, _, .str => .str
  | _, _, _, .tup e r => .tup (h _ _ e) (Reps.mono h r)
  | _, _, _, .lstF e r => .lstF (h _ _ e) (Reps.mono h r)
  | _, _, _, .scr e => .scr (Same.seq h e)
  | _, _, _, .lstO r => .lstO (Reps.mono h r)
  | _, _, _, .dKF e k r => .dKF (h _ _ e) k (Reps.mono h r)
  | _, _, _, .dKO k r => .dKO k (Reps.mono h r)
  | _, _, _, .dTF e k r => .dTF (h _ _ e) k (Reps.mono h r)
  | _, _, _, .dTO k r => .dTO k (Reps.mono h r)
theorem Reps.mono (h : Same F F') : ∀ {x v fp}, Reps K F x v fp → Reps K F' x v fp
  | _, _, _, .nil => .nil
  | _, _, _, .cons a b => .cons (Rep.mono h a) (Reps.mono h b)
end
theorem noOwnK_map : ∀ kvs : List (Key × Val), noOwnK kvs = noOwnL (kvs.map (·.2))
  | [] => rfl
  | (_, x) :: r => by
    show (x.noOwn && noOwnK r) = (x.noOwn && noOwnL (r.map (·.2)))
    rw [noOwnK_map r]
theorem noOwnT_map : ∀ kvs : List (List Key × Val), noOwnT kvs = noOwnL (kvs.map (·.2))
  | [] => rfl
  | (_, x) :: r => by
    show (x.noOwn && noOwnT r) = (x.noOwn && noOwnL (r.map (·.2)))
    rw [noOwnT_map r]
mutual
theorem Rep.noOwn : ∀ {x v fp}, Rep K F x v fp → x.noOwn = true → fp = []
  | _, _, _, .non, _ => rfl
  | _, _, _, .bl, _ => rfl
  | _, _, _, .int, _ => rfl
  | _, _, _, .str, _ => rfl
  | _, _, _, .tup _ r, h => Reps.noOwn r h
  | _, _, _, .lstF _ _, _ => rfl
  | _, _, _, .scr _, _ => rfl
  | _, _, _, .lstO _, h => by simp [Val.noOwn] at h
  | _, _, _, .dKF _ _ _, _ => rfl
  | _, _, _, .dKO _ _, h => by simp [Val.noOwn] at h
  | _, _, _, .dTF _ _ _, _ => rfl
  | _, _, _, .dTO _ _, h => by simp [Val.noOwn] at h
theorem Reps.noOwn : ∀ {x v fp}, Reps K F x v fp → noOwnL x = true → fp = []
  | _, _, _, .nil, _ => rfl
  | _, _, _, .cons a b, h => by
    simp only [noOwnL, Bool.and_eq_true] at h
    rw [Rep.noOwn a h.1, Reps.noOwn b h.2]; rfl
end
/-- a frozen thing has no footprint: so whatever stands behind a frozen mark is frozen -/
theorem Reps.length : ∀ {xs vs fp}, Reps K F xs vs fp → xs.length = vs.length
  | _, _, _, .nil => rfl
  | _, _, _, .cons _ b => by simp [Reps.length b]
def Hold (H : Hp) (fp : FP) : Prop := ∀ e ∈ fp, H e.1 = some e.2
theorem Hold.mono (h : Same H H') {fp : FP} (q : Hold H fp) : Hold H' fp := fun e he => h _ _ (q e he)
theorem Hold.sub {fp fp' : FP} (q : Hold H fp) (s : ∀ e ∈ fp', e ∈ fp) : Hold H fp' := fun e he => q e (s e he)
theorem Hold.nil : Hold H [] := fun _ h => nomatch h
theorem Hold.cons {e : Addr × HO} {fp : FP} (q : Hold H (e :: fp)) : H e.1 = some e.2 ∧ Hold H fp := ⟨q e List.mem_cons_self, fun e' he => q e' (List.mem_cons_of_mem _ he)⟩
theorem Hold.app {a b : FP} (q : Hold H (a ++ b)) : Hold H a ∧ Hold H b := ⟨q.sub fun _ h => List.mem_append_left _ h, q.sub fun _ h => List.mem_append_right _ h⟩
theorem Hold.app2 {a b : FP} (p : Hold H a) (q : Hold H b) : Hold H (a ++ b) := fun e he => (List.mem_append.mp he).elim (p e) (q e)
theorem Reps.get : ∀ {xs : List Val} {vs : List V} {fp : FP} {i : Nat} {x : Val}, Reps K F xs vs fp → xs[i]? = some x → ∃ v fp1, vs[i]? = some v ∧ Rep K F x v fp1 ∧ fp1.Sublist fp
  | _, _, _, _, _, .nil, e => by simp at e
  | _, _, _, 0, _, .cons a b, e => by
    simp at e; subst e
    exact ⟨_, _, rfl, a, List.sublist_append_left _ _⟩
  | _, _, _, i + 1, x, .cons a b, e => by
    obtain ⟨v, fp1, h1, h2, h3⟩ := Reps.get (i := i) (x := x) b (by simpa using e)
    exact ⟨v, fp1, by simpa using h1, h2, h3.trans (List.sublist_append_right _ _)⟩
theorem Reps.app : ∀ {xs ys : List Val} {vs ws : List V} {f g : FP}, Reps K F xs vs f → Reps K F ys ws g → Reps K F (xs ++ ys) (vs ++ ws) (f ++ g)
  | _, _, _, _, _, _, .nil, b => b
  | _, _, _, _, _, _, .cons a b, c => by
    rw [List.append_assoc]
    exact .cons a (Reps.app b c)
/-- frozen lists part by part -/
theorem Reps.of_get : ∀ {xs : List Val} {vs : List V}, xs.length = vs.length → (∀ (i : Nat) (x : Val), xs[i]? = some x → ∃ v, vs[i]? = some v ∧ Rep K F x v []) → Reps K F xs vs []
  | [], [], _, _ => .nil
  | [], _ :: _, h, _ => by simp at h
  | _ :: _, [], h, _ => by simp at h
  | x :: xs, v :: vs, h, g => by
    obtain ⟨w, e, r⟩ := g 0 x rfl
    simp at e; subst e
    exact .cons (fp := []) (fps := []) r (Reps.of_get (by simpa using h) fun i y hy => by
      obtain ⟨w, e, r⟩ := g (i + 1) y (by simpa using hy)
      exact ⟨w, by simpa using e, r⟩)
theorem Reps.take0 {xs : List Val} {vs : List V} (n : Nat) (r : Reps K F xs vs []) : Reps K F (xs.take n) (vs.take n) [] :=
  .of_get (by simp [r.length]) fun i x hx => by
    rw [List.getElem?_take] at hx
    split at hx
    · rename_i h
      obtain ⟨v, fp, e, q, s⟩ := r.get hx
      have : fp = [] := List.sublist_nil.mp s
      subst this
      exact ⟨v, by rw [List.getElem?_take, if_pos h]; exact e, q⟩
    · cases hx
theorem Reps.drop0 {xs : List Val} {vs : List V} (n : Nat) (r : Reps K F xs vs []) : Reps K F (xs.drop n) (vs.drop n) [] :=
  .of_get (by simp [r.length]) fun i x hx => by
    rw [List.getElem?_drop] at hx
    obtain ⟨v, fp, e, q, s⟩ := r.get hx
    have : fp = [] := List.sublist_nil.mp s
    subst this
    exact ⟨v, by rw [List.getElem?_drop]; exact e, q⟩
theorem Reps.cut0 {xs : List Val} {vs : List V} (lo hi : Option Int) (r : Reps K F xs vs []) : Reps K F (cutL xs lo hi) (cutV vs lo hi) [] := by
  unfold cutL cutV
  rw [r.length]
  exact (r.drop0 _).take0 _
theorem frzK_fst : ∀ kvs : List (Key × Val), (frzK kvs).map (·.1) = kvs.map (·.1)
  | [] => rfl
  | (k, x) :: r => by
    show k :: (frzK r).map (·.1) = k :: r.map (·.1)
    rw [frzK_fst r]
theorem frzK_snd : ∀ kvs : List (Key × Val), (frzK kvs).map (·.2) = frzL (kvs.map (·.2))
  | [] => rfl
  | (k, x) :: r => by
    show x.frz :: (frzK r).map (·.2) = x.frz :: frzL (r.map (·.2))
    rw [frzK_snd r]
theorem frzT_fst : ∀ kvs : List (List Key × Val), (frzT kvs).map (·.1) = kvs.map (·.1)
  | [] => rfl
  | (k, x) :: r => by
    show k :: (frzT r).map (·.1) = k :: r.map (·.1)
    rw [frzT_fst r]
theorem frzT_snd : ∀ kvs : List (List Key × Val), (frzT kvs).map (·.2) = frzL (kvs.map (·.2))
  | [] => rfl
  | (k, x) :: r => by
    show x.frz :: (frzT r).map (·.2) = x.frz :: frzL (r.map (·.2))
    rw [frzT_snd r]
mutual
theorem Rep.frz (h : Same F F') : ∀ {x v fp}, Rep K F x v fp → Hold F' fp → Rep K F' x.frz v []
  | _, _, _, .non, _ => .non
  | _, _, _, .bl, _ => .bl
  | _, _, _, .int, _ => .int
  | _, _, _, .str, _ => .str
  | _, _, _, .tup e r, q => .tup (h _ _ e) (Reps.frz h r q)
  | _, _, _, .lstF e r, q => .lstF (h _ _ e) (Reps.frz h r Hold.nil)
  | _, _, _, .scr e, _ => .scr (Same.seq h e)
  | _, _, _, .lstO r, q => .lstF q.cons.1 (Reps.frz h r q.cons.2)
  | _, _, _, .dKF e k r, q => .dKF (h _ _ e) (by rw [frzK_fst]; exact k) (by rw [frzK_snd]; exact Reps.frz h r Hold.nil)
  | _, _, _, .dKO k r, q => .dKF q.cons.1 (by rw [frzK_fst]; exact k) (by rw [frzK_snd]; exact Reps.frz h r q.cons.2)
  | _, _, _, .dTF e k r, q => .dTF (h _ _ e) (by rw [frzT_fst]; exact k) (by rw [frzT_snd]; exact Reps.frz h r Hold.nil)
  | _, _, _, .dTO k r, q => .dTF q.cons.1 (by rw [frzT_fst]; exact k) (by rw [frzT_snd]; exact Reps.frz h r q.cons.2)
theorem Reps.frz (h : Same F F') : ∀ {x v fp}, Reps K F x v fp → Hold F' fp → Reps K F' (frzL x) v []
  | _, _, _, .nil, _ => .nil
  | _, _, _, .cons a b, q => .cons (fp := []) (fps := []) (Rep.frz h a q.app.1) (Reps.frz h b q.app.2)
end

/-! own parts -/
structure Ow (F H : Hp) (fp : FP) : Prop where
  same : Same F H
  nd : (keys fp).Nodup
  hold : Hold H fp
  off : ∀ e ∈ fp, F e.1 = none
theorem Ow.perm {a b : FP} (o : Ow F H a) (p : a.Perm b) : Ow F H b :=
  ⟨o.same, (p.map _).nodup_iff.mp o.nd, fun e he => o.hold e (p.mem_iff.mpr he), fun e he => o.off e (p.mem_iff.mpr he)⟩
theorem Ow.sub {a b : FP} (o : Ow F H a) (p : b.Sublist a) : Ow F H b :=
  ⟨o.same, (p.map _).nodup o.nd, fun e he => o.hold e (p.subset he), fun e he => o.off e (p.subset he)⟩
theorem upd_sub {p : Addr} {o : HO} (hp : H p = none) : Same H (upd H p o) := fun b u e => by rw [upd_ne (ne_of_none e hp)]; exact e
/-- a new frozen object -/
theorem Ow.newF {fp : FP} {p : Addr} {o : HO} (w : Ow F H fp) (hp : H p = none) : Same F (upd F p o) ∧ Same H (upd H p o) ∧ Ow (upd F p o) (upd H p o) fp := by
  have fn : F p = none := w.same.free hp
  refine ⟨upd_sub fn, upd_sub hp, fun b u e => ?_, w.nd, fun e he => ?_, fun e he => ?_⟩
  · by_cases hb : b = p
    · subst hb; rw [upd_same] at e ⊢; exact e
    · rw [upd_ne hb] at e ⊢; exact w.same _ _ e
  · rw [upd_ne (ne_of_none (w.hold e he) hp)]; exact w.hold e he
  · rw [upd_ne (ne_of_none (w.hold e he) hp)]; exact w.off e he
/-- a new own object -/
theorem Ow.newO {fp : FP} {p : Addr} {o : HO} (w : Ow F H fp) (hp : H p = none) : Same H (upd H p o) ∧ Ow F (upd H p o) ((p, o) :: fp) := by
  refine ⟨upd_sub hp, fun b u e => upd_sub hp _ _ (w.same _ _ e), ?_, fun e he => ?_, fun e he => ?_⟩
  · refine List.nodup_cons.mpr ⟨fun h => ?_, w.nd⟩
    obtain ⟨e, he, q⟩ := List.mem_map.mp h
    have := w.hold e he
    rw [q, hp] at this; cases this
  · rcases List.mem_cons.mp he with rfl | he
    · exact upd_same
    · exact upd_sub hp _ _ (w.hold e he)
  · rcases List.mem_cons.mp he with rfl | he
    · exact w.same.free hp
    · exact w.off e he
/-- an own object changed -/
theorem Ow.set {fp : FP} {p : Addr} {o o' : HO} (w : Ow F H ((p, o) :: fp)) : Ow F (upd H p o') ((p, o') :: fp) := by
  have nd := List.nodup_cons.mp w.nd
  have off : F p = none := w.off (p, o) List.mem_cons_self
  refine ⟨fun b u e => ?_, w.nd, fun e he => ?_, fun e he => ?_⟩
  · rw [upd_ne (ne_of_none e off)]; exact w.same _ _ e
  · rcases List.mem_cons.mp he with rfl | he
    · exact upd_same
    · rw [upd_ne fun z => nd.1 (by have := List.mem_map_of_mem (f := (·.1)) he; rw [z] at this; exact this)]; exact w.hold e (List.mem_cons_of_mem _ he)
  · rcases List.mem_cons.mp he with rfl | he
    · exact off
    · exact w.off e (List.mem_cons_of_mem _ he)
/-- own objects frozen: F with them -/
def frzH (F : Hp) (fp : FP) : Hp := fun b => match fp.find? fun e => decide (e.1 = b) with
  | some e => some e.2
  | none => F b
theorem Ow.freeze {fp ext : FP} (w : Ow F H (fp ++ ext)) : Same F (frzH F fp) ∧ Hold (frzH F fp) fp ∧ Ow (frzH F fp) H ext := by
  have at_ : ∀ e ∈ fp, ∃ e', (fp.find? fun u => decide (u.1 = e.1)) = some e' ∧ H e'.1 = some e'.2 ∧ e'.1 = e.1 := fun e he => by
    cases q : fp.find? fun u => decide (u.1 = e.1) with
    | none => exact absurd (List.find?_eq_none.mp q e he) (by simp)
    | some e' =>
      have h1 : e'.1 = e.1 := by simpa using List.find?_some q
      exact ⟨e', rfl, w.hold e' (List.mem_append_left _ (List.mem_of_find?_eq_some q)), h1⟩
  have out : ∀ b, (∀ e ∈ fp, e.1 ≠ b) → frzH F fp b = F b := fun b hb => by
    unfold frzH
    cases q : fp.find? fun u => decide (u.1 = b) with
    | none => rfl
    | some e' => exact absurd (by simpa using List.find?_some q) (hb e' (List.mem_of_find?_eq_some q))
  refine ⟨fun b u e => ?_, fun e he => ?_, fun b u e => ?_, ?_, fun e he => w.hold e (List.mem_append_right _ he), fun e he => ?_⟩
  · rw [out b fun e' he' q => by have := w.off e' (List.mem_append_left _ he'); rw [q, e] at this; cases this]; exact e
  · obtain ⟨e', q, h1, h2⟩ := at_ e he
    unfold frzH; rw [q]
    have h3 := w.hold e (List.mem_append_left _ he)
    rw [h2, h3] at h1
    exact h1.symm
  · unfold frzH at e
    cases q : fp.find? fun u => decide (u.1 = b) with
    | none => rw [q] at e; exact w.same _ _ e
    | some e' =>
      rw [q] at e
      have h1 : e'.1 = b := by simpa using List.find?_some q
      rw [← h1, ← Option.some.inj e]
      exact w.hold e' (List.mem_append_left _ (List.mem_of_find?_eq_some q))
  · have := w.nd
    unfold keys at this
    rw [List.map_append] at this
    exact (List.nodup_append.mp this).2.1
  · rw [out e.1 fun e' he' q => ?_]
    · exact w.off e (List.mem_append_right _ he)
    · have := w.nd
      unfold keys at this
      rw [List.map_append] at this
      exact (List.nodup_append.mp this).2.2 _ (List.mem_map_of_mem he') _ (List.mem_map_of_mem he) q

/-! slots -/
inductive Sl (K : PySem.W.Frag) (F : Hp) : Env → St → List FP → Prop
  | snil : Sl K F [] [] []
  | sno {env σ fps o} : Sl K F env σ fps → Sl K F (none :: env) (o :: σ) ([] :: fps)
  | ssome {x v fp env σ fps} : Rep K F x v fp → Sl K F env σ fps → Sl K F (some x :: env) (some v :: σ) (fp :: fps)
theorem Sl.mono (h : Same F F') : ∀ {env σ fps}, Sl K F env σ fps → Sl K F' env σ fps
  | _, _, _, .snil => .snil
  | _, _, _, .sno r => .sno (r.mono h)
  | _, _, _, .ssome a r => .ssome (a.mono h) (r.mono h)
theorem Sl.length : ∀ {env σ fps}, Sl K F env σ fps → env.length = σ.length
  | _, _, _, .snil => rfl
  | _, _, _, .sno r => by simp [r.length]
  | _, _, _, .ssome a r => by simp [r.length]
/-- one slot, and all others: the slot taken out -/
theorem Sl.get : ∀ {env : Env} {σ : St} {fps : List FP} {i : Nat} {x : Val}, Sl K F env σ fps → env[i]? = some (some x) →
    ∃ v fp fps', σ[i]? = some (some v) ∧ Rep K F x v fp ∧ fps.flatten.Perm (fp ++ fps'.flatten) ∧ Sl K F (env.set i none) σ fps' ∧
      ∀ F' y fp', Same F F' → Rep K F' y v fp' → ∃ fps2, Sl K F' (env.set i (some y)) σ fps2 ∧ fps2.flatten.Perm (fp' ++ fps'.flatten)
  | _, _, _, _, _, .snil, e => by simp at e
  | _, _, _, 0, _, .sno r, e => by simp at e
  | _, _, _, i + 1, x, .sno r, e => by
    obtain ⟨v, fp, fps', h1, h2, h3, h4, h5⟩ := Sl.get (i := i) (x := x) r (by simpa using e)
    refine ⟨v, fp, [] :: fps', by simpa using h1, h2, by simpa using h3, .sno h4, fun F' y fp' hs hr => ?_⟩
    obtain ⟨fps2, q1, q2⟩ := h5 F' y fp' hs hr
    exact ⟨[] :: fps2, .sno q1, by simpa using q2⟩
  | _, _, _, 0, _, .ssome (fps := fps) (fp := fp) a r, e => by
    simp at e; subst e
    exact ⟨_, _, [] :: fps, rfl, a, by simp, .sno r, fun F' y fp' hs hr => ⟨fp' :: fps, .ssome hr (r.mono hs), by simp⟩⟩
  | _, _, _, i + 1, x, .ssome (fp := fq) a r, e => by
    obtain ⟨v, fp, fps', h1, h2, h3, h4, h5⟩ := Sl.get (i := i) (x := x) r (by simpa using e)
    refine ⟨v, fp, fq :: fps', by simpa using h1, h2, ?_, .ssome a h4, fun F' y fp' hs hr => ?_⟩
    · simp only [List.flatten_cons]
      exact ((List.Perm.refl fq).append h3).trans (List.perm_append_comm_assoc _ _ _)
    · obtain ⟨fps2, q1, q2⟩ := h5 F' y fp' hs hr
      refine ⟨fq :: fps2, .ssome (a.mono hs) q1, ?_⟩
      simp only [List.flatten_cons]
      exact ((List.Perm.refl fq).append q2).trans (List.perm_append_comm_assoc _ _ _)
/-- a slot stored: what stood there is forgotten -/
theorem Sl.put : ∀ {env : Env} {σ : St} {fps : List FP} {i : Nat} {y : Val} {v : V} {fp : FP}, Sl K F env σ fps → i < env.length → Rep K F y v fp →
    ∃ fps2, Sl K F (env.set i (some y)) (σ.set i (some v)) fps2 ∧ ∃ g : FP, g.Sublist fps.flatten ∧ fps2.flatten.Perm (fp ++ g)
  | _, _, _, _, _, _, _, .snil, h, _ => by simp at h
  | _, _, _, 0, y, v, fp, .sno (fps := fps) r, _, q => ⟨fp :: fps, .ssome q r, fps.flatten, by simp, by simp⟩
  | _, _, _, 0, y, v, fp, .ssome (fps := fps) a r, _, q => ⟨fp :: fps, .ssome q r, fps.flatten, by simp, by simp⟩
  | _, _, _, i + 1, y, v, fp, .sno r, h, q => by
    obtain ⟨f2, s, g, g1, g2⟩ := Sl.put (i := i) r (by simpa using h) q
    exact ⟨[] :: f2, .sno s, g, by simpa using g1, by simpa using g2⟩
  | _, _, _, i + 1, y, v, fp, .ssome (fp := fq) a r, h, q => by
    obtain ⟨f2, s, g, g1, g2⟩ := Sl.put (i := i) r (by simpa using h) q
    refine ⟨fq :: f2, .ssome a s, fq ++ g, by simpa using List.Sublist.append (List.Sublist.refl fq) g1, ?_⟩
    simp only [List.flatten_cons]
    exact ((List.Perm.refl fq).append g2).trans (List.perm_append_comm_assoc _ _ _)
end
end Mn

set_option Elab.async false
set_option maxRecDepth 100000
set_option linter.all false
/-! Mn2b: operations that bring their own proof. -/
namespace Mn
open PySem L2
/-- evaluated parts: with what is theirs alone; the others stand as they are seen -/
inductive Ags (K : PySem.W.Frag) (F H : Hp) : List (Val × Bool) → List V → FP → Prop
  | nil : Ags K F H [] [] []
  | cons {x u v fp xs vs fo} : Rep K F x v fp → (u = false → Hold H fp) → Ags K F H xs vs fo → Ags K F H ((x, u) :: xs) (v :: vs) (fo ++ if u then fp else [])
/-- neither a starred thing nor a call of super nor a set nor a slice nor a comprehension -/
inductive Plain : Expr → Prop
  | name {x p} : Plain (.Name x p)
  | const {c k p} : Plain (.Constant c k p)
  | bin {a o b p} : Plain (.BinOp a o b p)
  | un {o a p} : Plain (.UnaryOp o a p)
  | cmp {a o b p} : Plain (.Compare a o b p)
  | bool {o a p} : Plain (.BoolOp o a p)
  | tup {a k p} : Plain (.Tuple a k p)
  | lst {a p} : Plain (.List a p)
  | dict {a b p} : Plain (.Dict a b p)
  | sub {a b p} : Plain (.Subscript a b p)
  | call {f a p} : (∀ (x : Str) (q : Pos), f = .Name x q → a ≠ [] ∨ x ≠ "super") → Plain (.Call f a [] p)
  | ife {a b c p} : Plain (.IfExp a b c p)
  | lc {a b c p} : Plain (.ListComp a b c p)
inductive PlainT : Expr → Prop
  | name {x p} : PlainT (.Name x p)
  | const {c k p} : PlainT (.Constant c k p)
  | bin {a o b p} : PlainT (.BinOp a o b p)
  | un {a p} : PlainT (.UnaryOp .USub a p)
  | tup {a k p} : PlainT (.Tuple a k p)
  | lst {a p} : PlainT (.List a p)
  | dict {a b p} : PlainT (.Dict a b p)
  | sub {a b p} : PlainT (.Subscript a b p)
  | call {f a kw p} : PlainT (.Call f a kw p)
  | lc {a b c p} : PlainT (.ListComp a b c p)

/-- an operation's parts stand; what it gives is wanted -/
def PpS (K : PySem.W.Frag) (sem : List (Val × Bool) → Option (Val × Bool)) (vs : List V) (H : Hp) (Q : VK) : Prop := ∃ (F : Hp) (xs : List (Val × Bool)) (fo base ext : FP), Ags K F H xs vs fo ∧ Ow F H (base ++ (fo ++ ext)) ∧ match sem xs with
  | some (y, u) => ∀ F2 H2 v fp, Same F F2 → Same H H2 → Ow F2 H2 (base ++ ((if u then fp else []) ++ ext)) → Rep K F2 y v fp → (u = false → Hold H2 fp) → Q v H2
  | none => False
/-- the first part is of its kind -/
def RcV (K : PySem.W.Frag) (rc : Val → Bool) (v : V) (H : Hp) : Prop := ∃ F x fp, Rep K F x v fp ∧ Same F H ∧ Hold H fp ∧ rc x = true
/-- what the surroundings tell -/
structure PCtx (X : Cx) (names : List Str) : Prop where
  calm : X.calm = true
  u65 : X.A.units + 65 < cLine
  nm : ∀ x ∈ names, Gl X x ∧ X.mg x = none ∧ x ≠ "__name__" ∧ (x == ("__debug__" : Str)) = false
def MonoE (t : TE) : Prop := ∀ σ H Q Q', (∀ v H', Q v H' → Q' v H') → t σ H Q → t σ H Q'
def t1 (K : PySem.W.Frag) (rc : Val → Bool) (sem : List (Val × Bool) → Option (Val × Bool)) (ta : TE) : TE := fun σ H Q => ta σ H fun x H1 => RcV K rc x H1 ∧ PpS K sem [x] H1 Q
def t2 (K : PySem.W.Frag) (rc : Val → Bool) (sem : List (Val × Bool) → Option (Val × Bool)) (ta tb : TE) : TE := fun σ H Q => ta σ H fun x H1 => RcV K rc x H1 ∧ tb σ H1 fun y H2 => PpS K sem [x, y] H2 Q
def t3 (K : PySem.W.Frag) (rc : Val → Bool) (sem : List (Val × Bool) → Option (Val × Bool)) (ta tb tc : TE) : TE := fun σ H Q => ta σ H fun x H1 => RcV K rc x H1 ∧ tb σ H1 fun y H2 => tc σ H2 fun z H3 => PpS K sem [x, y, z] H3 Q
/-- an operation with its proof: ar further parts behind the first one -/
structure POp where
  er : Pos → Pos → Pos → Expr → List Expr → Expr
  sem : List (Val × Bool) → Option (Val × Bool)
  rc : Val → Bool
  ar : Nat
  names : List Str
  line : Bool
  plain : ∀ p q r e es, Plain (er p q r e es)
  plainT : ∀ p q r e es, PlainT (er p q r e es)
  noLc : ∀ p q r e es, (∀ a b c d, er p q r e es ≠ .ListComp a b c d) ∧ ∀ a b c, er p q r e es ≠ .Tuple a b c
  snd0 : ar = 0 → ∀ (X : Cx) (p q r : Pos) (a : Expr) (ta : TE), PCtx X names → (line = true → (q.endLine == p.line) = true) → Plain a → MonoE ta → PE X a ta → PE X (er p q r a []) (t1 X.K rc sem ta)
  snd1 : ar = 1 → ∀ (X : Cx) (p q r : Pos) (a b : Expr) (ta tb : TE), PCtx X names → (line = true → (q.endLine == p.line) = true) → Plain a → Plain b → MonoE ta → MonoE tb → PE X a ta → PE X b tb → PE X (er p q r a [b]) (t2 X.K rc sem ta tb)
  snd2 : ar = 2 → ∀ (X : Cx) (p q r : Pos) (a b c : Expr) (ta tb tc : TE), PCtx X names → (line = true → (q.endLine == p.line) = true) → Plain a → Plain b → Plain c → MonoE ta → MonoE tb → MonoE tc → PE X a ta → PE X b tb → PE X c tc → PE X (er p q r a [b, c]) (t3 X.K rc sem ta tb tc)
/-- a change in place: what the receiver becomes, and what is told -/
def MuS (K : PySem.W.Frag) (sem : Val → List (Val × Bool) → Option (Val × Val × Bool)) (v : V) (vs : List V) (H : Hp) (Q : VK) : Prop := ∃ (F : Hp) (z : Val) (fz : FP) (ys : List (Val × Bool)) (fo base ext : FP), Rep K F z v fz ∧ Ags K F H ys vs fo ∧ Ow F H (fz ++ (base ++ (fo ++ ext))) ∧ match sem z ys with
  | some (z', y, u) => ∀ F2 H2 w fz2 fp, Same F F2 → Rep K F2 z' v fz2 → Rep K F2 y w fp → Ow F2 H2 (fz2 ++ (base ++ ((if u then fp else []) ++ ext))) → (u = false → Hold H2 fp) → Q w H2
  | none => False
structure MPop where
  name : Str
  sem : Val → List (Val × Bool) → Option (Val × Val × Bool)
  rc : Val → Bool
  ar : Nat
  snd0 : ar = 0 → ∀ (X : Cx) (i : Nat) (p q : Pos) (a : Expr), PCtx X [] → (q.endLine == p.line) = true → Plain a → PE X a (tVar i) → PE X (.Call (.Attribute a name q) [] [] p) (fun σ H Q => ∃ v, σ[i]? = some (some v) ∧ RcV X.K rc v H ∧ MuS X.K sem v [] H Q)
  snd1 : ar = 1 → ∀ (X : Cx) (i : Nat) (p q : Pos) (a b : Expr) (tb : TE), PCtx X [] → (q.endLine == p.line) = true → Plain a → Plain b → MonoE tb → PE X a (tVar i) → PE X b tb → PE X (.Call (.Attribute a name q) [b] [] p) (fun σ H Q => ∃ v, σ[i]? = some (some v) ∧ RcV X.K rc v H ∧ tb σ H fun y H1 => MuS X.K sem v [y] H1 Q)
  snd2 : ar = 2 → ∀ (X : Cx) (i : Nat) (p q : Pos) (a b c : Expr) (tb tc : TE), PCtx X [] → (q.endLine == p.line) = true → Plain a → Plain b → Plain c → MonoE tb → MonoE tc → PE X a (tVar i) → PE X b tb → PE X c tc → PE X (.Call (.Attribute a name q) [b, c] [] p) (fun σ H Q => ∃ v, σ[i]? = some (some v) ∧ RcV X.K rc v H ∧ tb σ H fun y H1 => tc σ H1 fun z H2 => MuS X.K sem v [y, z] H2 Q)
end Mn

set_option Elab.async false
set_option maxRecDepth 100000
/-! Mn0b: texts over the data, and their run. -/
namespace Mn
open PySem L2
inductive CV where
  | ci (n : Int) | cs (x : Str) | cb (v : Bool) | cn
def CV.val : CV → Val
  | .ci n => .int n | .cs x => .str x | .cb v => .bl v | .cn => .non
def CV.con : CV → Const
  | .ci n => .int n | .cs x => .str x | .cb v => .bool v | .cn => .none

inductive Tgt where
  | nm (i : Nat) (x : Str) (p : Pos)
  | tp (ts : List Tgt) (k : Nat) (p : Pos)
/-- what a loop walks -/
inductive IK where
  | list | tuple | text | range1 | range2 | zipL | zipS | keys
inductive ME where
  | const (c : CV) (k : Nat) (p : Pos)
  | var (i : Nat) (x : Str) (p : Pos)
  | mv (i : Nat) (x : Str) (p : Pos)
  | fz (i : Nat) (x : Str) (p : Pos)
  | glob (j : Nat) (x : Str) (p : Pos)
  | lend (i : Nat) (x : Str) (p : Pos)
  | prim (op : Op) (k : Nat) (p q r : Pos) (es : List ME)
  | meth (op : Op) (p q : Pos) (e : ME) (es : List ME)
  | slc (op : Op) (p q : Pos) (e : ME) (es : List ME)
  | ixv (i : Nat) (x : Str) (px : Pos) (e : ME) (p : Pos)
  | andE (e : ME) (es : List ME) (p : Pos)
  | orE (e : ME) (es : List ME) (p : Pos)
  | notE (e : ME) (p : Pos)
  | tru (e : ME)
  | tAnd (e : ME) (es : List ME) (p : Pos)
  | tOr (e : ME) (es : List ME) (p : Pos)
  | tNot (e : ME) (p : Pos)
  | ife (c a b : ME) (p : Pos)
  | chain (o1 o2 : Op) (a b c : ME) (p : Pos)
  | call (j : Nat) (f : Str) (p q : Pos) (es : List ME)
  | lc (elt : ME) (tg : Tgt) (ik : IK) (its : List ME) (q r : Pos) (ifs : List ME) (sc : Scope) (own : List (Str × Nat)) (p : Pos)
  | fr (e : ME)
  | dlit (es : List ME) (p : Pos)
  | pop (o : POp) (p q r : Pos) (e : ME) (es : List ME)
  | mut (o : MPop) (i : Nat) (x : Str) (px : Pos) (es : List ME) (q p : Pos)
  | orV (a b : ME) (p : Pos)
  | borC (j : Nat) (f : Str) (p q : Pos) (es : List ME)
  | tBor (c : ME)

/-- what a method's receiver must be -/
def Op.recv : Op → Val → Bool
  | .join, .str _ => true
  | _, _ => false
structure Tbl where
  fns : List (List Val → FR)
  gls : List Val
  fuel : Nat

mutual
/-- nothing is lent, moved or called -/
def ME.pure : ME → Bool
  | .const .. => true | .var .. => true | .glob .. => true
  | .prim _ _ _ _ _ es => pureL es
  | .meth _ _ _ e es => e.pure && pureL es
  | .slc _ _ _ e es => e.pure && pureL es
  | .pop _ _ _ _ e es => e.pure && pureL es
  | .orV a b _ => a.pure && b.pure
  | .ixv _ _ _ e _ => e.pure
  | .andE e es _ => e.pure && pureL es | .orE e es _ => e.pure && pureL es
  | .notE e _ => e.pure
  | .tru e => e.pure
  | .tAnd e es _ => e.pure && pureL es | .tOr e es _ => e.pure && pureL es
  | .tNot e _ => e.pure
  | .ife c a b _ => c.pure && a.pure && b.pure
  | .chain _ _ a b c _ => a.pure && b.pure && c.pure
  | .lc elt _ _ its _ _ ifs _ _ _ => elt.pure && pureL its && pureL ifs
  | _ => false
def pureL : List ME → Bool
  | [] => true
  | e :: r => e.pure && pureL r
end

def lendIx : ME → Option Nat
  | .lend i _ _ => some i
  | _ => none
mutual
/-- a target takes a value -/
def Tgt.bind : Tgt → Val → Env → Option Env
  | .nm i _ _, x, env => if i < env.length then some (env.set i (some x)) else none
  | .tp ts _ _, .tup xs, env => Tgt.bindL ts xs env
  | .tp _ _ _, _, _ => none
def Tgt.bindL : List Tgt → List Val → Env → Option Env
  | [], [], env => some env
  | t :: ts, x :: xs, env => (t.bind x env).bind fun e => Tgt.bindL ts xs e
  | _, _, _ => none
end
def wipeE (env : Env) : List Nat → Env
  | [] => env
  | v :: vs => (wipeE env vs).set v none
def wipeOk (env : Env) (vs : List Nat) : Bool := vs.all fun i => match env[i]? with
  | some (some x) => x.noOwn
  | _ => true
def storable (x : Val) (u : Bool) : Bool := u || x.noOwn
def rangeV (lo : Int) (n : Nat) : List Val := (List.range n).map fun i => Val.int (lo + (i : Nat))
def small62 (i : Int) : Bool := decide (-(2 ^ 62) ≤ i) && decide (i < 2 ^ 62)
/-- the items that a loop walks -/
def IK.items : IK → List (Val × Bool) → Option (List Val)
  | .list, [(.lst _ xs, _)] => if noOwnL xs then some xs else none
  | .tuple, [(.tup xs, _)] => if noOwnL xs then some xs else none
  | .text, [(.str z, _)] => some (z.cps.toList.map fun c => Val.str ⟨#[c]⟩)
  | .range1, [(.int j, _)] => if small62 j then some (rangeV 0 j.toNat) else none
  | .range2, [(.int i, _), (.int j, _)] => if small62 i && small62 j then some (rangeV i (j - i).toNat) else none
  | .zipL, [(.lst _ xs, _), (.lst _ ys, _)] => if noOwnL xs && noOwnL ys then some ((xs.zip ys).map fun p => Val.tup [p.1, p.2]) else none
  | .zipS, [(.str x, _), (.str y, _)] => some ((x.cps.toList.zip y.cps.toList).map fun p => Val.tup [.str ⟨#[p.1]⟩, .str ⟨#[p.2]⟩])
  | _, _ => none
/-- the walked thing stays while an impure body runs -/
def IK.stays : IK → List (Val × Bool) → Bool
  | .range1, _ => true | .range2, _ => true | .text, _ => true | .zipS, _ => true
  | _, xs => xs.all fun x => x.2 || x.1.noOwn
/-- a comprehension's turns -/
def lcGo (vs : List Nat) (bt : Val → Env → Option Env) (c : Env → R (Bool × Env)) (f : Env → R (Val × Bool × Env)) : List Val → Env → R (List Val × Env)
  | [], env => .ok ([], env)
  | x :: xs, env => match bt x (wipeE env vs) with
    | none => .stuck
    | some env1 => match c env1 with
      | .ok (true, env2) => match f env2 with
        | .ok (y, u, env3) => if storable y u then (match lcGo vs bt c f xs (wipeE env3 vs) with
            | .ok (ys, env4) => .ok (y :: ys, env4)
            | _ => .stuck) else .stuck
        | _ => .stuck
      | .ok (false, env2) => lcGo vs bt c f xs (wipeE env2 vs)
      | _ => .stuck
/-- all that is own, lent for a while to be looked at -/
def frzE (env : Env) : Env := env.map fun o => o.map Val.frz
def frzOk (env : Env) : Bool := env.all fun o => match o with
  | some x => x.frz.noOwn
  | none => true
/-- the lent slots are taken, and given back -/
def lendOut (env : Env) : List (Option Nat × Val) → Option (List Val × Env)
  | [] => some ([], env)
  | (none, x) :: r => (lendOut env r).map fun p => (x :: p.1, p.2)
  | (some i, _) :: r => match env[i]? with
    | some (some x) => (lendOut (env.set i none) r).map fun p => (x :: p.1, p.2)
    | _ => none
def lendBack (env : Env) : List (Option Nat × Val) → List (Option Val) → Option Env
  | [], [] => some env
  | (none, _) :: r, _ :: os => lendBack env r os
  | (some i, _) :: r, some x :: os => lendBack (env.set i (some x)) r os
  | _, _ => none

mutual
def evE (T : Tbl) : ME → Env → R (Val × Bool × Env)
  | .const c _ _, env => .ok (c.val, true, env)
  | .var i _ _, env => match env[i]? with
    | some (some x) => .ok (x, false, env)
    | _ => .stuck
  | .mv i _ _, env => match env[i]? with
    | some (some x) => .ok (x, true, env.set i none)
    | _ => .stuck
  | .fz i _ _, env => match env[i]? with
    | some (some x) => if x.frz.noOwn then .ok (x.frz, true, env.set i (some x.frz)) else .stuck
    | _ => .stuck
  | .glob j _ _, env => match T.gls[j]? with
    | some x => .ok (x, true, env)
    | none => .stuck
  | .lend _ _ _, _ => .stuck
  | .prim op _ _ _ _ es, env => (evL T es env).bind fun p => match op.sem p.1 with
    | some (y, u) => .ok (y, u, p.2)
    | none => .stuck
  | .meth op _ _ e es, env => (evE T e env).bind fun (x, u, env1) => if op.recv x then (evL T es env1).bind fun (xs, env2) =>
    if u || x.noOwn || pureL es then (match op.sem ((x, u) :: xs) with
      | some (y, u') => .ok (y, u', env2)
      | none => .stuck) else .stuck
    else .stuck
  | .slc op _ _ e es, env => (evE T e env).bind fun (x, u, env1) => (evI T es env1).bind fun (is, env2) =>
    if u || x.noOwn || pureL es then (match op.sem ((x, u) :: is.map fun i => (Val.int i, true)) with
      | some (y, u') => .ok (y, u', env2)
      | none => .stuck) else .stuck
  | .pop o _ _ _ e es, env => (evE T e env).bind fun (x, u, env1) => if o.rc x then (evL T es env1).bind fun (xs, env2) =>
    if u || x.noOwn || pureL es then (match o.sem ((x, u) :: xs) with
      | some (y, u') => .ok (y, u', env2)
      | none => .stuck) else .stuck
    else .stuck
  | .mut o i _ _ es _ _, env => if ((env[i]?.getD none).map o.rc).getD false then (evL T es env).bind fun (ys, env1) => match env1[i]? with
    | some (some z) => (match o.sem z ys with
      | some (z', y, u) => .ok (y, u, env1.set i (some z'))
      | none => .stuck)
    | _ => .stuck
    else .stuck
  | .orV a b _, env => (evE T a env).bind fun (x, u, env1) => match x.truth with
    | some true => .ok (x, u, env1)
    | some false => evE T b env1
    | none => .stuck
  | .ixv i _ _ e _, env => if (env[i]?.getD none).isSome then (evE T e env).bind fun (k, _, env1) => match env1[i]? with
    | some (some x) => (match s_ix [(x, false), (k, true)] with
      | some (y, u) => .ok (y, u, env1)
      | none => .stuck)
    | _ => .stuck
    else .stuck
  | .andE e es _, env => (evE T e env).bind (evAnd T es)
  | .orE e es _, env => (evE T e env).bind (evOr T es)
  | .tBor _, _ => .stuck
  | .tru _, _ => .stuck | .tAnd _ _ _, _ => .stuck | .tOr _ _ _, _ => .stuck | .tNot _ _, _ => .stuck
  | .notE e _, env => (evE T e env).bind fun (x, _, env1) => match x with
    | .bl b => .ok (.bl (!b), true, env1)
    | _ => .stuck
  | .ife c a b _, env => (evT T c env).bind fun (t, env1) => if t then evE T a env1 else evE T b env1
  | .chain o1 o2 a b c _, env => (evE T a env).bind fun (x, u, env1) => (evE T b env1).bind fun (y, u', env2) =>
    if storable x u && storable y u' then (match o1.sem [(x, u), (y, u')] with
      | some (.bl true, _) => (evE T c env2).bind fun (z, u2, env3) => match o2.sem [(y, u'), (z, u2)] with
        | some (.bl r, _) => .ok (.bl r, true, env3)
        | _ => .stuck
      | some (.bl false, _) => .ok (.bl false, true, env2)
      | _ => .stuck) else .stuck
  | .fr e, env => (evE T e env).bind fun (x, u, env1) => if storable x u then .ok (x.frz, true, env1) else .stuck
  | .dlit es _, env => (evL T es env).bind fun (xs, env1) => match s_dlit xs with
    | some y => .ok (y, true, env1)
    | none => .stuck
  | .call j _ _ _ es, env => (evArgs T es env).bind fun (as, env1) => match lendOut env1 as, T.fns[j]? with
    | some (xs, env2), some f => (match f xs with
      | .ok y outs => (match lendBack env2 as outs with
        | some env3 => .ok (y, true, env3)
        | none => .stuck)
      | .exc c outs => (match lendBack env2 as outs with
        | some env3 => .exc c env3
        | none => .stuck)
      | .stuck => .stuck)
    | _, _ => .stuck
  | .borC j _ _ _ es, env => if frzOk env then (match ((evArgs T es (frzE env)).bind fun (as, env1) => match lendOut env1 as, T.fns[j]? with
      | some (xs, env2), some f => (match f xs with
        | .ok y outs => (match lendBack env2 as outs with
          | some env3 => R.ok (y, true, env3)
          | none => .stuck)
        | .exc c outs => (match lendBack env2 as outs with
          | some env3 => .exc c env3
          | none => .stuck)
        | .stuck => .stuck)
      | _, _ => .stuck) with
    | .ok (y, _, _) => if isFlat y then .ok (y, true, env) else .stuck
    | _ => .stuck) else .stuck
  | .lc elt tg ik its _ _ ifs _ own _, env => (evL T its env).bind fun (xs, env1) =>
    if ik.stays xs || (elt.pure && pureL ifs) then (match ik.items xs with
      | some items => if wipeOk env1 (own.map (·.2)) then (match lcGo (own.map (·.2)) tg.bind (evIfs T ifs) (evE T elt) items (wipeE env1 (own.map (·.2))) with
          | .ok (ys, env2) => if ys.length ≤ sizeLine then .ok (.lst true ys, true, (own.map (·.2)).foldl (fun e i => e.set i (env1[i]?.getD none)) env2) else .stuck
          | _ => .stuck) else .stuck
      | none => .stuck) else .stuck
def evL (T : Tbl) : List ME → Env → R (List (Val × Bool) × Env)
  | [], env => .ok ([], env)
  | e :: es, env => (evE T e env).bind fun (x, u, env1) => (evL T es env1).bind fun (xs, env2) =>
    if u || x.noOwn || pureL es then .ok ((x, u) :: xs, env2) else .stuck
/-- numbers, each looked at as it comes -/
def evI (T : Tbl) : List ME → Env → R (List Int × Env)
  | [], env => .ok ([], env)
  | e :: es, env => (evE T e env).bind fun (x, _, env1) => match x with
    | .int i => (evI T es env1).bind fun (is, env2) => .ok (i :: is, env2)
    | _ => .stuck
def evArgs (T : Tbl) : List ME → Env → R (List (Option Nat × Val) × Env)
  | [], env => .ok ([], env)
  | e :: es, env => match lendIx e with
    | some i => if (env[i]?.getD none).isSome then (evArgs T es env).bind fun (xs, env2) => .ok ((some i, .non) :: xs, env2) else .stuck
    | none => (evE T e env).bind fun (x, u, env1) => (evArgs T es env1).bind fun (xs, env2) =>
      if storable x u then .ok ((none, x) :: xs, env2) else .stuck
def evAnd (T : Tbl) : List ME → Val × Bool × Env → R (Val × Bool × Env)
  | [], p => .ok p
  | e :: es, (x, _, env) => match x with
    | .bl true => (evE T e env).bind (evAnd T es)
    | .bl false => .ok (.bl false, true, env)
    | _ => .stuck
def evOr (T : Tbl) : List ME → Val × Bool × Env → R (Val × Bool × Env)
  | [], p => .ok p
  | e :: es, (x, _, env) => match x with
    | .bl false => (evE T e env).bind (evOr T es)
    | .bl true => .ok (.bl true, true, env)
    | _ => .stuck
/-- as a test -/
def evT (T : Tbl) : ME → Env → R (Bool × Env)
  | .tru e, env => (evE T e env).bind fun (x, _, env1) => match x.truth with
    | some b => .ok (b, env1)
    | none => .stuck
  | .tAnd e es _, env => (evT T e env).bind (evTAnd T es)
  | .tOr e es _, env => (evT T e env).bind (evTOr T es)
  | .tNot e _, env => (evT T e env).bind fun (b, env1) => .ok (!b, env1)
  | .tBor c, env => if frzOk env then (match evT T c (frzE env) with
    | .ok (b, _) => .ok (b, env)
    | _ => .stuck) else .stuck
  | _, _ => .stuck
def evTAnd (T : Tbl) : List ME → Bool × Env → R (Bool × Env)
  | [], p => .ok p
  | e :: es, (b, env) => if b then (evT T e env).bind (evTAnd T es) else .ok (false, env)
def evTOr (T : Tbl) : List ME → Bool × Env → R (Bool × Env)
  | [], p => .ok p
  | e :: es, (b, env) => if b then .ok (true, env) else (evT T e env).bind (evTOr T es)
def evIfs (T : Tbl) : List ME → Env → R (Bool × Env)
  | [], env => .ok (true, env)
  | e :: es, env => (evT T e env).bind (evTAnd T es)
end

/-- what changes a list or a dict in place, as a statement of its own -/
inductive MOp where
  | append | clear | reverse
def fz? (fr : Bool) (x : Val) : Val := if fr then x.frz else x
def MOp.sem (fr : Bool) : MOp → Val → List (Val × Bool) → Option Val
  | .append, .lst true xs, [(y, u)] => if storable y u && decide (xs.length < sizeLine) then some (.lst true (xs ++ [fz? fr y])) else none
  | .clear, .lst true _, [] => some (.lst true [])
  | .reverse, .lst true xs, [] => some (.lst true xs.reverse)
  | _, _, _ => none
inductive MS where
  | expr (e : ME) (p : Pos)
  | asg (t : Tgt) (e : ME) (fr : Bool) (p : Pos)
  | aug (i : Nat) (x : Str) (px : Pos) (e : ME) (p : Pos)
  | stL (i : Nat) (x : Str) (px : Pos) (k e : ME) (fr : Bool) (q p : Pos)
  | stD (i : Nat) (x : Str) (px : Pos) (k e : ME) (fr : Bool) (q p : Pos)
  | app (m : MOp) (i : Nat) (x : Str) (px : Pos) (es : List ME) (fr : Bool) (q p r : Pos)
  | ite (c : ME) (a b : List MS) (p : Pos)
  | forS (t : Tgt) (ik : IK) (its : List ME) (q r : Pos) (body : List MS) (p : Pos)
  | whileS (c : ME) (body : List MS) (p : Pos)
  | ret (e : ME) (p : Pos)
  | retN (p : Pos)
  | raise (c : Nat) (x msg : Str) (k : Nat) (p q r s : Pos)
  | pass (p : Pos)
def stLv : Val → Val → Val → Option Val
  | .lst true xs, .int i, y => (ixN xs.length i).map fun j => .lst true (xs.set j y)
  | _, _, _ => none
def stDv : Val → Val → Val → Option Val
  | .dK true kvs, x, y => x.key?.bind fun k => if decide (kvs.length < sizeLine) && y.noOwn then some (.dK true (pk kvs k y)) else none
  | .dT true kvs, x, y => x.tkey?.bind fun k => if decide (kvs.length < sizeLine) && y.noOwn then some (.dT true (pk kvs k y)) else none
  | _, _, _ => none
def augV : Val → Val → Option Val
  | .int i, .int j => some (.int (i + j))
  | _, _ => none
def isLst : Val → Bool
  | .lst true _ => true
  | _ => false
def forGo (bt : Val → Env → Option Env) (b : Env → R (Option Val × Env)) : List Val → Env → R (Option Val × Env)
  | [], env => .ok (none, env)
  | x :: xs, env => match bt x env with
    | none => .stuck
    | some env1 => match b env1 with
      | .ok (none, env2) => forGo bt b xs env2
      | r => r
def whileGo (c : Env → R (Bool × Env)) (b : Env → R (Option Val × Env)) : Nat → Env → R (Option Val × Env)
  | 0, _ => .stuck
  | n + 1, env => match c env with
    | .ok (true, env1) => (match b env1 with
      | .ok (none, env2) => whileGo c b n env2
      | r => r)
    | .ok (false, env1) => .ok (none, env1)
    | .exc c e => .exc c e
    | .stuck => .stuck
mutual
def exS (T : Tbl) : MS → Env → R (Option Val × Env)
  | .expr e _, env => (evE T e env).bind fun (_, _, env1) => .ok (none, env1)
  | .asg t e fr _, env => (evE T e env).bind fun (x, u, env1) => if storable x u then (match t.bind (fz? fr x) env1 with
      | some env2 => .ok (none, env2)
      | none => .stuck) else .stuck
  | .aug i _ _ e _, env => match env[i]? with
    | some (some x) => (evE T e env).bind fun (y, _, env1) => match augV x y with
      | some z => .ok (none, env1.set i (some z))
      | none => .stuck
    | _ => .stuck
  | .stL i _ _ k e fr _ _, env => (evE T e env).bind fun (y, u, env1) => if (env1[i]?.getD none).isSome then (evE T k env1).bind fun (x, _, env2) => if storable y u then (match env2[i]? with
      | some (some z) => (match stLv z x (fz? fr y) with
        | some z' => .ok (none, env2.set i (some z'))
        | none => .stuck)
      | _ => .stuck) else .stuck
    else .stuck
  | .stD i _ _ k e fr _ _, env => (evE T e env).bind fun (y, u, env1) => if (env1[i]?.getD none).isSome then (evE T k env1).bind fun (x, _, env2) => if storable y u then (match env2[i]? with
      | some (some z) => (match stDv z x (fz? fr y) with
        | some z' => .ok (none, env2.set i (some z'))
        | none => .stuck)
      | _ => .stuck) else .stuck
    else .stuck
  | .app m i _ _ es fr _ _ _, env => if ((env[i]?.getD none).map isLst).getD false then (evL T es env).bind fun (ys, env1) => match env1[i]? with
    | some (some z) => (match m.sem fr z ys with
      | some z' => .ok (none, env1.set i (some z'))
      | none => .stuck)
    | _ => .stuck
    else .stuck
  | .ite c a b _, env => (evT T c env).bind fun (t, env1) => if t then exL T a env1 else exL T b env1
  | .forS t ik its _ _ body _, env => (evL T its env).bind fun (xs, env1) => if ik.stays xs then (match ik.items xs with
      | some items => forGo t.bind (exL T body) items env1
      | none => .stuck) else .stuck
  | .whileS c body _, env => whileGo (evT T c) (exL T body) T.fuel env
  | .ret e _, env => (evE T e env).bind fun (x, u, env1) => if storable x u then .ok (some x, env1) else .stuck
  | .retN _, env => .ok (some .non, env)
  | .raise c _ _ _ _ _ _ _, env => .exc c env
  | .pass _, env => .ok (none, env)
def exL (T : Tbl) : List MS → Env → R (Option Val × Env)
  | [], env => .ok (none, env)
  | s :: ss, env => match exS T s env with
    | .ok (none, env1) => exL T ss env1
    | r => r
end
structure Def where
  np : Nat
  ns : Nat
  prot : List Nat
  body : List MS
def Def.outs (d : Def) (env : Env) : List (Option Val) := (List.range d.np).map fun i => if i ∈ d.prot then env[i]?.getD none else none
def Def.run (d : Def) (T : Tbl) (xs : List Val) : FR :=
  if xs.length = d.np then
    match exL T d.body (xs.map some ++ List.replicate (d.ns - d.np) none) with
    | .ok (some y, env) => .ok y (d.outs env)
    | .ok (none, env) => .ok .non (d.outs env)
    | .exc c env => .exc c (d.outs env)
    | .stuck => .stuck
  else .stuck
end Mn

set_option Elab.async false
set_option maxRecDepth 100000
/-! Mn1: how the texts of Mn0 are written out as the language's own, and what is looked at ahead. -/
namespace Mn
open PySem L2

def cmpO : Op → CmpOp
  | .lt => .Lt | .ltS => .Lt | .le => .LtE | .gt => .Gt | .ge => .GtE | .eq => .Eq | .ne => .NotEq
  | .inS => .In | .inL => .In | .inT => .In | .inD => .In
  | _ => .NotIn
def tpart (b : Bool) (e : Expr) : Option Expr := if b then some e else none
def slE (lo hi : Bool) (a : Expr) (r : List Expr) (q p : Pos) : Expr :=
  match lo, hi, r with
  | false, false, [] => .Subscript a (.Slice none none none q) p
  | true, false, [x] => .Subscript a (.Slice (some x) none none q) p
  | false, true, [y] => .Subscript a (.Slice none (some y) none q) p
  | true, true, [x, y] => .Subscript a (.Slice (some x) (some y) none q) p
  | _, _, _ => .Constant .none 0 p
def biName : Op → Str
  | .len => "len" | .lenD => "len" | .max2 => "max" | .min2 => "min" | .intB => "int" | .strI => "str" | .listOf => "list" | .listD => "list" | .tupOf => "tuple" | .all => "all" | .any => "any"
  | .isi _ => "isinstance"
  | _ => ""
/-- operations that are written alike -/
def Op.fam : Op → Nat
  | .add => 1 | .addS => 1 | .addL => 1 | .addT => 1
  | .lt => 2 | .ltS => 2
  | .inS => 3 | .inL => 3 | .inT => 3 | .inD => 3
  | .notinS => 4 | .notinL => 4 | .notinT => 4 | .notinD => 4
  | .ix => 5 | .dix => 5
  | .len => 6 | .lenD => 6
  | .listOf => 7 | .listD => 7
  | .dnK => 8 | .dnT => 8
  | .alt a _ => a.fam
  | _ => 0
def famEr (n : Nat) (p q : Pos) (es : List Expr) : Expr :=
  match n, es with
  | 1, [a, b] => .BinOp a .Add b p
  | 2, [a, b] => .Compare a [.Lt] [b] p
  | 3, [a, b] => .Compare a [.In] [b] p
  | 4, [a, b] => .Compare a [.NotIn] [b] p
  | 5, [a, b] => .Subscript a b p
  | 6, [a] => .Call (.Name "len" q) [a] [] p
  | 7, [a] => .Call (.Name "list" q) [a] [] p
  | 8, _ => .Dict [] [] p
  | _, _ => .Constant .none 0 p
def Op.slB : Op → Option (Bool × Bool)
  | .slL lo hi => some (lo, hi) | .slT lo hi => some (lo, hi) | .slS lo hi => some (lo, hi)
  | .alt a _ => a.slB
  | _ => none
/-- an operation over written parts -/
def Op.er (op : Op) (k : Nat) (p q r : Pos) (es : List Expr) : Expr :=
  match op, es with
  | .add, [a, b] => .BinOp a .Add b p
  | .addS, [a, b] => .BinOp a .Add b p
  | .addL, [a, b] => .BinOp a .Add b p
  | .addT, [a, b] => .BinOp a .Add b p
  | .sub, [a, b] => .BinOp a .Sub b p
  | .mul, [a, b] => .BinOp a .Mult b p
  | .fdiv, [a, b] => .BinOp a .FloorDiv b p
  | .mod, [a, b] => .BinOp a .Mod b p
  | .pow, [a, b] => .BinOp a .Pow b p
  | .isN, [a] => .Compare a [.Is] [.Constant .none k q] p
  | .notN, [a] => .Compare a [.IsNot] [.Constant .none k q] p
  | .neg, [a] => .UnaryOp .USub a p
  | .tup, es => .Tuple es k p
  | .lst, es => .List es p
  | .dnK, _ => .Dict [] [] p
  | .dnT, _ => .Dict [] [] p
  | .ix, [a, b] => .Subscript a b p
  | .dix, [a, b] => .Subscript a b p
  | .isi ty, [a] => .Call (.Name "isinstance" q) [a, .Name (Str.ofString ty) r] [] p
  | .lt, [a, b] => .Compare a [.Lt] [b] p
  | .le, [a, b] => .Compare a [.LtE] [b] p
  | .gt, [a, b] => .Compare a [.Gt] [b] p
  | .ge, [a, b] => .Compare a [.GtE] [b] p
  | .ltS, [a, b] => .Compare a [.Lt] [b] p
  | .eq, [a, b] => .Compare a [.Eq] [b] p
  | .ne, [a, b] => .Compare a [.NotEq] [b] p
  | .inS, [a, b] => .Compare a [.In] [b] p
  | .notinS, [a, b] => .Compare a [.NotIn] [b] p
  | .inL, [a, b] => .Compare a [.In] [b] p
  | .notinL, [a, b] => .Compare a [.NotIn] [b] p
  | .inT, [a, b] => .Compare a [.In] [b] p
  | .notinT, [a, b] => .Compare a [.NotIn] [b] p
  | .inD, [a, b] => .Compare a [.In] [b] p
  | .notinD, [a, b] => .Compare a [.NotIn] [b] p
  | .len, [a] => .Call (.Name "len" q) [a] [] p
  | .lenD, [a] => .Call (.Name "len" q) [a] [] p
  | .max2, [a, b] => .Call (.Name "max" q) [a, b] [] p
  | .min2, [a, b] => .Call (.Name "min" q) [a, b] [] p
  | .intB, [a] => .Call (.Name "int" q) [a] [] p
  | .strI, [a] => .Call (.Name "str" q) [a] [] p
  | .listOf, [a] => .Call (.Name "list" q) [a] [] p
  | .listD, [a] => .Call (.Name "list" q) [a] [] p
  | .tupOf, [a] => .Call (.Name "tuple" q) [a] [] p
  | .all, [a] => .Call (.Name "all" q) [a] [] p
  | .any, [a] => .Call (.Name "any" q) [a] [] p
  | .alt a _, es => famEr a.fam p q es
  | _, _ => .Constant .none 0 p
mutual
def Tgt.er : Tgt → Expr
  | .nm _ x p => .Name x p
  | .tp ts k p => .Tuple (Tgt.erL ts) k p
def Tgt.erL : List Tgt → List Expr
  | [] => []
  | t :: ts => t.er :: Tgt.erL ts
end
def IK.er (ik : IK) (es : List Expr) (q p : Pos) : Expr :=
  match ik, es with
  | .list, [e] => e
  | .tuple, [e] => e
  | .text, [e] => e
  | .keys, [e] => e
  | .range1, es => .Call (.Name "range" q) es [] p
  | .range2, es => .Call (.Name "range" q) es [] p
  | .zipL, es => .Call (.Name "zip" q) es [] p
  | .zipS, es => .Call (.Name "zip" q) es [] p
  | _, _ => .Constant .none 0 p
def methName : Op → Str
  | .join => "join"
  | _ => ""
def slcEr (op : Op) (a : Expr) (r : List Expr) (q p : Pos) : Expr := match op with
  | .slL lo hi => slE lo hi a r q p
  | .slT lo hi => slE lo hi a r q p
  | .slS lo hi => slE lo hi a r q p
  | .alt b _ => (match b.slB with
    | some (lo, hi) => slE lo hi a r q p
    | none => .Constant .none 0 p)
  | _ => .Constant .none 0 p
def evens {α : Type} : List α → List α
  | [] => []
  | [_] => []
  | a :: _ :: r => a :: evens r
def odds {α : Type} : List α → List α
  | [] => []
  | [_] => []
  | _ :: b :: r => b :: odds r
mutual
def er : ME → Expr
  | .const c k p => .Constant c.con k p
  | .var _ x p => .Name x p
  | .mv _ x p => .Name x p
  | .fz _ x p => .Name x p
  | .glob _ x p => .Name x p
  | .lend _ x p => .Name x p
  | .prim op k p q r es => op.er k p q r (erL es)
  | .meth op p q e es => .Call (.Attribute (er e) (methName op) q) (erL es) [] p
  | .slc op p q e es => slcEr op (er e) (erL es) q p
  | .ixv _ x px e p => .Subscript (.Name x px) (er e) p
  | .andE e es p => .BoolOp .And (er e :: erL es) p
  | .orE e es p => .BoolOp .Or (er e :: erL es) p
  | .notE e p => .UnaryOp .Not (er e) p
  | .tru e => er e
  | .tAnd e es p => .BoolOp .And (er e :: erL es) p
  | .tOr e es p => .BoolOp .Or (er e :: erL es) p
  | .tNot e p => .UnaryOp .Not (er e) p
  | .tBor c => er c
  | .ife c a b p => .IfExp (er c) (er a) (er b) p
  | .chain o1 o2 a b c p => .Compare (er a) [cmpO o1, cmpO o2] [er b, er c] p
  | .call _ f p q es => .Call (.Name f q) (erL es) [] p
  | .borC _ f p q es => .Call (.Name f q) (erL es) [] p
  | .lc elt tg ik its q r ifs sc _ p => .ListComp (er elt) [⟨tg.er, ik.er (erL its) q r, erL ifs, 0⟩] sc p
  | .fr e => er e
  | .dlit es p => .Dict ((evens (erL es)).map some) (odds (erL es)) p
  | .pop o p q r e es => o.er p q r (er e) (erL es)
  | .mut o _ x px es q p => .Call (.Attribute (.Name x px) o.name q) (erL es) [] p
  | .orV a b p => .BoolOp .Or [er a, er b] p
def erL : List ME → List Expr
  | [] => []
  | e :: es => er e :: erL es
end
def MOp.name : MOp → Str
  | .append => "append" | .clear => "clear" | .reverse => "reverse"
mutual
def erS : MS → Stmt
  | .expr e p => .Expr (er e) p
  | .asg t e _ p => .Assign [t.er] (er e) p
  | .aug _ x px e p => .AugAssign (.Name x px) .Add (er e) p
  | .stL _ x px k e _ q p => .Assign [.Subscript (.Name x px) (er k) q] (er e) p
  | .stD _ x px k e _ q p => .Assign [.Subscript (.Name x px) (er k) q] (er e) p
  | .app m _ x px es _ q p r => .Expr (.Call (.Attribute (.Name x px) m.name q) (erL es) [] p) r
  | .ite c a b p => .If (er c) (erSL a) (erSL b) p
  | .forS t ik its q r body p => .For t.er (ik.er (erL its) q r) (erSL body) [] p
  | .whileS c body p => .While (er c) (erSL body) [] p
  | .ret e p => .Return (some (er e)) p
  | .retN p => .Return none p
  | .raise _ x msg k p q r s => .Raise (some (.Call (.Name x p) [.Constant (.str msg) k q] [] r)) none s
  | .pass p => .Pass p
def erSL : List MS → List Stmt
  | [] => []
  | s :: ss => erS s :: erSL ss
end

/-! what is looked at ahead -/
/-- the names of the module: defs, constants, built-ins that are left alone, error classes -/
structure Nms where
  fn : List Str
  gl : List Str
  bl : List Str
  ec : List Str
def okName (x : Str) : Bool := !(x == ("__debug__" : Str)) && !(x == ("__classdict__" : Str)) && !(x == ("__name__" : Str))
def visB (sc : Scope) (x : Str) : Bool := match sc.names.lookup x with
  | some .local => true | some .cell => true | some .free => true | _ => false
def locB (sc : Scope) (x : Str) : Bool := match sc.names.lookup x with
  | some .local => true | some .cell => true | _ => false
def gloB (sc : Scope) (x : Str) : Bool := sc.names.lookup x == some .globalImplicit
def wfV (N : List Str) (sc : Scope) (i : Nat) (x : Str) : Bool := N[i]? == some x && visB sc x && okName x
def wfB (G : Nms) (sc : Scope) (x : Str) : Bool := gloB sc x && G.bl.contains x && okName x
def sameLine (a b : Pos) : Bool := a.endLine == b.line
/-- the number of parts, the built-in's name -/
def Op.wf (G : Nms) (sc : Scope) (op : Op) (n : Nat) (q p : Pos) : Bool :=
  match op with
  | .isN | .notN | .neg => n == 1
  | .tup | .lst => true
  | .dnK | .dnT => n == 0
  | .slL .. | .slT .. | .slS .. => false
  | .isi ty => n == 1 && wfB G sc "isinstance" && wfB G sc (Str.ofString ty) && (ty == "str" || ty == "list" || ty == "tuple" || ty == "int" || ty == "bool" || ty == "dict")
  | .join => false
  | .len | .lenD | .intB | .strI | .listOf | .listD | .tupOf | .all | .any => n == 1 && wfB G sc (biName op)
  | .max2 | .min2 => n == 2 && wfB G sc (biName op)
  | .alt a b => a.fam == b.fam && a.fam != 0 && a.wf G sc n q p && b.wf G sc n q p
  | _ => n == 2
def Op.wfm (op : Op) (n : Nat) : Bool :=
  match op with
  | .join => n == 1
  | _ => false
def Op.wfs (op : Op) (n : Nat) : Bool :=
  match op with
  | .slL lo hi | .slT lo hi | .slS lo hi => n == (if lo then 1 else 0) + (if hi then 1 else 0)
  | .alt a b => a.slB == b.slB && a.slB.isSome && a.wfs n && b.wfs n
  | _ => false
mutual
def Tgt.wf (N : List Str) (sc : Scope) (pr : List Nat) : Tgt → Bool
  | .nm i x _ => N[i]? == some x && sc.names.lookup x == some .local && !pr.contains i
  | .tp ts _ _ => Tgt.wfL N sc pr ts
def Tgt.wfL (N : List Str) (sc : Scope) (pr : List Nat) : List Tgt → Bool
  | [] => true
  | t :: ts => t.wf N sc pr && Tgt.wfL N sc pr ts
end
mutual
def Tgt.wf1 (N : List Str) (sc : Scope) (pr : List Nat) : Tgt → Bool
  | .nm i x _ => N[i]? == some x && locB sc x && !pr.contains i
  | .tp ts _ _ => Tgt.wfL1 N sc pr ts
def Tgt.wfL1 (N : List Str) (sc : Scope) (pr : List Nat) : List Tgt → Bool
  | [] => true
  | t :: ts => t.wf1 N sc pr && Tgt.wfL1 N sc pr ts
end
mutual
def Tgt.within : Tgt → List Nat → Bool
  | .nm i _ _, l => l.contains i
  | .tp ts _ _, l => Tgt.withinL ts l
def Tgt.withinL : List Tgt → List Nat → Bool
  | [], _ => true
  | t :: ts, l => t.within l && Tgt.withinL ts l
end
def Tgt.isTp : Tgt → Bool
  | .tp .. => true
  | _ => false
def IK.wf (G : Nms) (sc : Scope) (ik : IK) (t : Tgt) (n : Nat) : Bool :=
  match ik with
  | .range1 => n == 1 && wfB G sc "range"
  | .range2 => n == 2 && wfB G sc "range"
  | .zipL => n == 2 && wfB G sc "zip" && t.isTp
  | .zipS => n == 2 && wfB G sc "zip" && t.isTp
  | .keys => false
  | _ => n == 1
def isLc : ME → Bool
  | .lc .. => true | .tru _ => true | .tBor _ => true
  | .fr e => isLc e
  | _ => false
def truOk : ME → Bool
  | .orV .. => false | .andE .. => false | .orE .. => false | .notE .. => false | .ife .. => false | .tru .. => false | .tAnd .. => false | .tOr .. => false | .tNot .. => false | .fr .. => false | .dlit .. => false | .tBor .. => false
  | _ => true
mutual
def wfE (G : Nms) (N : List Str) (pr : List Nat) : Scope → ME → Bool
  | _, .const .. => true
  | sc, .var i x _ => wfV N sc i x
  | sc, .mv i x _ => wfV N sc i x
  | sc, .fz i x _ => wfV N sc i x
  | sc, .glob j x _ => G.gl[j]? == some x && gloB sc x && okName x
  | sc, .lend i x _ => wfV N sc i x
  | sc, .prim op _ p q _ es => op.wf G sc es.length q p && wfEL G N pr sc es
  | sc, .meth op p q e es => op.wfm es.length && sameLine q p && wfE G N pr sc e && wfEL G N pr sc es
  | sc, .slc op _ _ e es => op.wfs es.length && wfE G N pr sc e && wfEL G N pr sc es
  | sc, .ixv i x _ e _ => wfV N sc i x && wfE G N pr sc e
  | sc, .andE e es _ => wfE G N pr sc e && wfEL G N pr sc es
  | sc, .orE e es _ => wfE G N pr sc e && wfEL G N pr sc es
  | sc, .notE e _ => wfE G N pr sc e
  | sc, .tru e => truOk e && wfE G N pr sc e
  | sc, .tAnd e es _ => wfE G N pr sc e && wfEL G N pr sc es
  | sc, .tOr e es _ => wfE G N pr sc e && wfEL G N pr sc es
  | sc, .tNot e _ => wfE G N pr sc e
  | sc, .tBor c => wfE G N pr sc c
  | sc, .ife c a b _ => wfE G N pr sc c && wfE G N pr sc a && wfE G N pr sc b
  | sc, .chain o1 o2 a b c _ => (o1 matches .lt | .le | .gt | .ge) && (o2 matches .lt | .le | .gt | .ge) && wfE G N pr sc a && wfE G N pr sc b && wfE G N pr sc c
  | sc, .call j f _ _ es => G.fn[j]? == some f && gloB sc f && okName f && decide (0 < es.length) && wfEL G N pr sc es
  | sc, .borC j f _ _ es => G.fn[j]? == some f && gloB sc f && okName f && decide (0 < es.length) && wfEL G N pr sc es
  | sc, .lc elt tg ik its _ _ ifs cs own _ => blkC N sc cs own && tg.wf N cs pr && ik.wf G sc tg its.length && wfEL G N pr sc its && decide (ifs.length ≤ 1) && wfEL G N pr cs ifs && wfE G N pr cs elt && own.all (fun p => !pr.contains p.2) && tg.within (own.map (·.2))
  | sc, .fr e => !isLc e && wfE G N pr sc e
  | sc, .pop o p q _ e es => es.length == o.ar && decide (o.ar ≤ 2) && o.names.all (fun x => wfB G sc x) && (!o.line || sameLine q p) && wfE G N pr sc e && wfEL G N pr sc es
  | sc, .mut o i x _ es q p => es.length == o.ar && decide (o.ar ≤ 2) && sameLine q p && wfV N sc i x && wfEL G N pr sc es
  | sc, .orV a b _ => wfE G N pr sc a && wfE G N pr sc b
  | sc, .dlit es _ => decide (es.length ≤ 30) && decide (2 ≤ es.length) && es.length % 2 == 0 && wfEL G N pr sc es
def wfEL (G : Nms) (N : List Str) (pr : List Nat) : Scope → List ME → Bool
  | _, [] => true
  | sc, e :: es => wfE G N pr sc e && wfEL G N pr sc es
end
/-- name = [..] on one line: the list is stored within the comprehension's frame -/
def swB (sc : Scope) (t : Tgt) (e : ME) : Bool := match t, e with
  | .nm _ x px, .lc _ _ _ _ _ _ _ cs _ p => (sc.names.lookup x == some .local) && px.line == p.line && !(cs.names.any fun (n, k) => n == x && (k == .local || k == .cell))
  | _, _ => false
mutual
def wfS (G : Nms) (N : List Str) (pr : List Nat) (sc : Scope) : MS → Bool
  | .expr e _ => wfE G N pr sc e && !isLc e
  | .asg t e _ _ => t.wf1 N sc pr && wfE G N pr sc e && (match e with | .prim .tup .. => !t.isTp | .tru _ => false | .tBor _ => false | .fr _ => !t.isTp | _ => true)
  | .aug i x _ e _ => N[i]? == some x && locB sc x && !pr.contains i && wfE G N pr sc e && !isLc e
  | .stL i x _ k e _ _ _ => wfV N sc i x && wfE G N pr sc k && wfE G N pr sc e
  | .stD i x _ k e _ _ _ => wfV N sc i x && wfE G N pr sc k && wfE G N pr sc e
  | .app m i x _ es _ q p _ => wfV N sc i x && wfEL G N pr sc es && sameLine q p && (match m, es.length with | .append, 1 => true | .clear, 0 => true | .reverse, 0 => true | _, _ => false)
  | .ite c a b _ => wfE G N pr sc c && wfSL G N pr sc a && wfSL G N pr sc b
  | .forS t ik its _ _ body _ => t.wf1 N sc pr && ik.wf G sc t its.length && wfEL G N pr sc its && wfSL G N pr sc body
  | .whileS c body _ => wfE G N pr sc c && wfSL G N pr sc body
  | .ret e _ => wfE G N pr sc e
  | .retN _ => true
  | .raise c x _ _ _ _ _ _ => G.ec[c]? == some x && gloB sc x && okName x
  | .pass _ => true
def wfSL (G : Nms) (N : List Str) (pr : List Nat) (sc : Scope) : List MS → Bool
  | [] => true
  | s :: ss => wfS G N pr sc s && wfSL G N pr sc ss
end
end Mn

set_option Elab.async false
set_option maxRecDepth 100000
/-! Mn3: the readings, and expressions: what the run of Mn0 says, the language does. -/
namespace Mn
open PySem L2

/-- what is told of the lent arguments behind a call -/
inductive Outs (K : PySem.W.Frag) (F : Hp) : List (Option Val) → List V → FP → Prop
  | nil : Outs K F [] [] []
  | no {os v vs fo} : Outs K F os vs fo → Outs K F (none :: os) (v :: vs) fo
  | so {x os v vs fp fo} : Rep K F x v fp → Outs K F os vs fo → Outs K F (some x :: os) (v :: vs) (fp ++ fo)
def spM (K : PySem.W.Frag) (cA : Nat → Addr) (f : List Val → FR) : Sp := fun vs H Q E => ∃ F xs fp ext, Reps K F xs vs fp ∧ Ow F H (fp ++ ext) ∧ match f xs with
  | .ok y outs => ∀ F' H' v fy fo, Same F F' → Rep K F' y v fy → Outs K F' outs vs fo → Ow F' H' (fy ++ (fo ++ ext)) → Q v H'
  | .exc c outs => ∀ F' H' fo, Same F F' → Outs K F' outs vs fo → Ow F' H' (fo ++ ext) → E (.ref (cA c)) none H'
  | .stuck => False

structure XOk (G : Nms) (T : Tbl) (cA : Nat → Addr) (k : Nat) (X : Cx) (W : WX) : Prop where
  room : Room k X.A
  calm : X.calm = true
  nd : X.N.Nodup
  tk : Takes X W
  po : PassesOwn (model X.prog X.w) X.A X.env X.xe
  gl : ∀ (j : Nat) (x : Str) (v : Val), G.gl[j]? = some x → T.gls[j]? = some v → ∃ u w, X.mg x = some u ∧ RelV w u ∧ Rep X.K (fun _ => none) v w []
  fn : ∀ (j : Nat) (x : Str), G.fn[j]? = some x → ∃ f fa fd ps, T.fns[j]? = some f ∧ FnOk X.prog X.w X.K X.mg X.base (L2.CX X.prog X.w) k fa fd ps (spM X.K cA f) ∧ X.mg x = some (.ref fa) ∧ PySem.W.keepIn X.K (.ref fa) = true ∧ Binds X.K fd ps []
  bl : ∀ x, G.bl.contains x = true → X.mg x = none
  ec : ∀ (c : Nat) (x : Str), G.ec[c]? = some x → ∃ bmB B newId initId, ExcBaseFacts B newId initId bmB ∧ PySem.W.excIn X.K (cA c) bmB newId = true ∧ X.mg x = some (.ref (cA c)) ∧ PySem.W.keepIn X.K (.ref (cA c)) = true ∧
    PySem.W.subIn X.K (.ref (cA c)) (.type "BaseException") = some true ∧ PySem.W.typeIn X.K (.ref (cA c)) = some (.type "type")
/-- the scope as it stands tells what the written one tells -/
def ScLe (sc sc' : Scope) : Prop := ∀ x k, sc.names.lookup x = some k → sc'.names.lookup x = some k ∨ (k = .free ∧ sc'.names.lookup x = some .cell)
theorem ScLe.refl (sc : Scope) : ScLe sc sc := fun _ _ h => .inl h
theorem ScLe.vis {sc sc' : Scope} (h : ScLe sc sc') {x : Str} (v : visB sc x = true) : Vis sc' x := by
  unfold visB at v
  split at v
  · exact .inl ((h _ _ (by assumption)).elim id fun z => nomatch z.1)
  · exact .inr (.inl ((h _ _ (by assumption)).elim id fun z => nomatch z.1))
  · rcases h _ _ (by assumption) with z | ⟨_, z⟩
    · exact .inr (.inr z)
    · exact .inr (.inl z)
  · cases v
theorem ScLe.glo {sc sc' : Scope} (h : ScLe sc sc') {x : Str} (v : gloB sc x = true) : sc'.names.lookup x = some .globalImplicit := by
  unfold gloB at v
  exact (h _ _ (by simpa using v)).elim id fun z => nomatch z.1
theorem ScLe.loc {sc sc' : Scope} (h : ScLe sc sc') {x : Str} (v : sc.names.lookup x = some .local) : sc'.names.lookup x = some .local :=
  (h _ _ v).elim id fun z => nomatch z.1

section
variable (K : PySem.W.Frag) (T : Tbl) (cA : Nat → Addr) (W : WX)
def PoE (pu : Bool) (F H : Hp) (σ : St) (ext : FP) (Q : VK) : R (Val × Bool × Env) → Prop
  | .ok (x, u, env2) => ∀ F2 H2 fps2 v fp, Same F F2 → Sl K F2 env2 σ fps2 → Ow F2 H2 (fps2.flatten ++ ((if u then fp else []) ++ ext)) → Rep K F2 x v fp → (u = false → Hold H2 fp) → (pu = true → Same H H2) → Q v H2
  | .exc c env2 => ∀ F2 H2 fps2, Same F F2 → Sl K F2 env2 σ fps2 → Ow F2 H2 (fps2.flatten ++ ext) → W (.ref (cA c)) none σ H2
  | .stuck => False
def tE (m : ME) : TE := fun σ H Q => ∃ F env fps ext, Sl K F env σ fps ∧ Ow F H (fps.flatten ++ ext) ∧ PoE K cA W m.pure F H σ ext Q (evE T m env)
def PoT (pu : Bool) (F H : Hp) (σ : St) (ext : FP) (Q : Bool → Hp → Prop) : R (Bool × Env) → Prop
  | .ok (b, env2) => ∀ F2 H2 fps2, Same F F2 → Sl K F2 env2 σ fps2 → Ow F2 H2 (fps2.flatten ++ ext) → (pu = true → Same H H2) → Q b H2
  | .exc c env2 => ∀ F2 H2 fps2, Same F F2 → Sl K F2 env2 σ fps2 → Ow F2 H2 (fps2.flatten ++ ext) → W (.ref (cA c)) none σ H2
  | .stuck => False
def tT (m : ME) : TT := fun σ H Q => ∃ F env fps ext, Sl K F env σ fps ∧ Ow F H (fps.flatten ++ ext) ∧ PoT K cA W m.pure F H σ ext Q (evT T m env)
def PoL (pu : Bool) (F H : Hp) (σ : St) (ext : FP) (Q : List V → Hp → Prop) : R (List (Val × Bool) × Env) → Prop
  | .ok (xs, env2) => ∀ F2 H2 fps2 vs fo, Same F F2 → Sl K F2 env2 σ fps2 → Ow F2 H2 (fps2.flatten ++ (fo ++ ext)) → Ags K F2 H2 xs vs fo → (pu = true → Same H H2) → Q vs H2
  | .exc c env2 => ∀ F2 H2 fps2, Same F F2 → Sl K F2 env2 σ fps2 → Ow F2 H2 (fps2.flatten ++ ext) → W (.ref (cA c)) none σ H2
  | .stuck => False
def tL (es : List ME) : TA := fun σ H Q => ∃ F env fps ext, Sl K F env σ fps ∧ Ow F H (fps.flatten ++ ext) ∧ PoL K cA W (pureL es) F H σ ext Q (evL T es env)
end
section
variable {K : PySem.W.Frag} {T : Tbl} {cA : Nat → Addr} {W : WX} {F H : Hp} {σ : St} {ext : FP}
theorem tE_mono {m : ME} {Q Q' : VK} (h : tE K T cA W m σ H Q) (k : ∀ v H', Q v H' → Q' v H') : tE K T cA W m σ H Q' := by
  obtain ⟨F, env, fps, ext, s, o, p⟩ := h
  refine ⟨F, env, fps, ext, s, o, ?_⟩
  revert p
  cases evE T m env with
  | ok a => obtain ⟨x, u, env2⟩ := a; exact fun p F2 H2 fps2 v fp a b c d e f => k _ _ (p F2 H2 fps2 v fp a b c d e f)
  | exc c e => exact id
  | stuck => exact id
theorem tL_nil {Q : List V → Hp → Prop} (h : tL K T cA W [] σ H Q) : Q [] H := by
  obtain ⟨F, env, fps, ext, s, o, p⟩ := h
  exact p F H fps [] [] (Same.refl _) s o .nil fun _ => Same.refl _
theorem tL_cons {e : ME} {es : List ME} {Q : List V → Hp → Prop} (h : tL K T cA W (e :: es) σ H Q) : tE K T cA W e σ H fun x H1 => tL K T cA W es σ H1 fun xs H2 => Q (x :: xs) H2 := by
  obtain ⟨F, env, fps, ext, s, o, p⟩ := h
  refine ⟨F, env, fps, ext, s, o, ?_⟩
  simp only [evL] at p
  revert p
  cases evE T e env with
  | stuck => exact id
  | exc c e => exact id
  | ok a =>
    obtain ⟨x, u, env1⟩ := a
    intro p F2 H2 fps2 v fp a1 a2 a3 a4 a5 a6
    refine ⟨F2, env1, fps2, _, a2, a3, ?_⟩
    simp only [R.bind_ok] at p
    revert p
    cases evL T es env1 with
    | stuck => exact id
    | exc c e => exact fun p F3 H3 fps3 b1 b2 b3 => p F3 H3 fps3 (Same.trans a1 b1) b2 (b3.sub (List.Sublist.append (List.Sublist.refl _) (List.sublist_append_right _ _)))
    | ok q =>
      obtain ⟨xs, env2⟩ := q
      intro p F3 H3 fps3 vs fo b1 b2 b3 b4 b5
      simp only [R.bind_ok] at p
      by_cases hc : (u || x.noOwn || pureL es) = true
      · rw [if_pos hc] at p
        refine p F3 H3 fps3 (v :: vs) (fo ++ if u then fp else []) (Same.trans a1 b1) b2 (by simpa [List.append_assoc] using b3) (.cons (a4.mono b1) (fun hu => ?_) b4) fun hp => ?_
        · simp only [Bool.or_eq_true] at hc
          rcases hc with (hc | hc) | hc
          · rw [hu] at hc; cases hc
          · rw [a4.noOwn hc]; exact Hold.nil
          · exact (a5 hu).mono (b5 hc)
        · simp only [pureL, Bool.and_eq_true] at hp
          exact Same.trans (a6 hp.1) (b5 hp.2)
      · rw [if_neg hc] at p; exact p.elim
theorem tL_two {a b : ME} {Q : List V → Hp → Prop} (h : tL K T cA W [a, b] σ H Q) : tE K T cA W a σ H fun x H1 => tE K T cA W b σ H1 fun y H2 => Q [x, y] H2 :=
  tE_mono (tL_cons h) fun _ _ h1 => tE_mono (tL_cons h1) fun _ _ h2 => tL_nil h2
theorem tL_one {a : ME} {Q : List V → Hp → Prop} (h : tL K T cA W [a] σ H Q) : tE K T cA W a σ H fun x H1 => Q [x] H1 :=
  tE_mono (tL_cons h) fun _ _ h1 => tL_nil h1
/-- an operation's parts stand; what it gives is wanted -/
def Pp (K : PySem.W.Frag) (op : Op) (vs : List V) (H : Hp) (Q : VK) : Prop := PpS K op.sem vs H Q
theorem tE_prim {op : Op} {k : Nat} {p q r : Pos} {es : List ME} {Q : VK} (h : tE K T cA W (.prim op k p q r es) σ H Q) : tL K T cA W es σ H fun vs H1 => Pp K op vs H1 Q := by
  obtain ⟨F, env, fps, ext, s, o, p⟩ := h
  refine ⟨F, env, fps, ext, s, o, ?_⟩
  simp only [evE] at p
  revert p
  cases evL T es env with
  | stuck => exact id
  | exc c e => exact id
  | ok a =>
    obtain ⟨xs, env1⟩ := a
    intro p F2 H2 fps2 vs fo a1 a2 a3 a4 a5
    refine ⟨F2, xs, fo, fps2.flatten, ext, a4, a3, ?_⟩
    simp only [R.bind_ok] at p
    revert p
    cases op.sem xs with
    | none => exact id
    | some yu =>
      obtain ⟨y, u⟩ := yu
      intro p F3 H3 v fp b1 b2 b3 b4 b5
      exact p F3 H3 fps2 v fp (Same.trans a1 b1) (a2.mono b1) b3 b4 b5 fun hp => Same.trans (a5 hp) b2
end
/-- the written expression is read as the run says -/
def SE (G : Nms) (T : Tbl) (cA : Nat → Addr) (pr : List Nat) (k : Nat) (m : ME) : Prop :=
  ∀ (X : Cx) (W : WX) (sc : Scope), XOk G T cA k X W → ScLe sc X.env.scope → wfE G X.N pr sc m = true → PE X (er m) (tE X.K T cA W m)
def STt (G : Nms) (T : Tbl) (cA : Nat → Addr) (pr : List Nat) (k : Nat) (m : ME) : Prop :=
  ∀ (X : Cx) (W : WX) (sc : Scope), XOk G T cA k X W → ScLe sc X.env.scope → wfE G X.N pr sc m = true → PT X (er m) (tT X.K T cA W m)
def SL (G : Nms) (T : Tbl) (cA : Nat → Addr) (pr : List Nat) (k : Nat) (es : List ME) : Prop :=
  ∀ (X : Cx) (W : WX) (sc : Scope), XOk G T cA k X W → ScLe sc X.env.scope → wfEL G X.N pr sc es = true → PA X (erL es) (tL X.K T cA W es)
theorem PE.weak {X : Cx} {e : Expr} {t t' : TE} (h : PE X e t) (k : ∀ σ H Q, t' σ H Q → t σ H Q) : PE X e t' := ⟨fun pins s σ H Q I q => h.run pins s σ H Q I (k _ _ _ q)⟩
theorem PT.weak {X : Cx} {e : Expr} {t t' : TT} (h : PT X e t) (k : ∀ σ H Q, t' σ H Q → t σ H Q) : PT X e t' := ⟨fun pins s σ H Q I q => h.run pins s σ H Q I (k _ _ _ q)⟩
theorem PA.weak {X : Cx} {e : List Expr} {t t' : TA} (h : PA X e t) (k : ∀ σ H Q, t' σ H Q → t σ H Q) : PA X e t' := ⟨fun pos pins s σ H Q I q => h.run pos pins s σ H Q I (k _ _ _ q)⟩
theorem PS.weak {X : Cx} {e : Stmt} {t t' : TS} (h : PS X e t) (k : ∀ D σ H, t' D σ H → t D σ H) : PS X e t' := ⟨fun pins s σ H Q I q => h.run pins s σ H Q I (k _ _ _ q)⟩
theorem PSs.weak {X : Cx} {e : List Stmt} {t t' : TS} (h : PSs X e t) (k : ∀ D σ H, t' D σ H → t D σ H) : PSs X e t' := ⟨fun pins s σ H Q I q => h.run pins s σ H Q I (k _ _ _ q)⟩
/-! what the forms of written things say by themselves -/
theorem slE_form (lo hi : Bool) (a : Expr) (r : List Expr) (q p : Pos) : (∃ x y z w, slE lo hi a r q p = .Subscript x y z ∧ w = z) ∨ slE lo hi a r q p = .Constant .none 0 p := by
  unfold slE
  split <;> first | exact .inl ⟨_, _, _, _, rfl, rfl⟩ | exact .inr rfl
end Mn

set_option Elab.async false
set_option maxRecDepth 100000
set_option linter.all false
/-! Mn4: the operations, one by one. -/
namespace Mn
open PySem L2
section
variable {K : PySem.W.Frag} {F H : Hp} {Q : VK}
theorem Ags.one {xs : List (Val × Bool)} {v : V} {fo : FP} (a : Ags K F H xs [v] fo) : ∃ x u f, xs = [(x, u)] ∧ Rep K F x v f ∧ (u = false → Hold H f) ∧ fo = if u then f else [] := by
  cases a with
  | cons r h a => cases a; exact ⟨_, _, _, rfl, r, h, rfl⟩
theorem Ags.two {xs : List (Val × Bool)} {v w : V} {fo : FP} (a : Ags K F H xs [v, w] fo) : ∃ x u f y t g, xs = [(x, u), (y, t)] ∧ Rep K F x v f ∧ Rep K F y w g ∧ (u = false → Hold H f) ∧ (t = false → Hold H g) ∧ fo = (if t then g else []) ++ if u then f else [] := by
  cases a with
  | cons r h a =>
    cases a with
    | cons r2 h2 a => cases a; exact ⟨_, _, _, _, _, _, rfl, r, r2, h, h2, rfl⟩
theorem Ow.drop {base fo ext : FP} (o : Ow F H (base ++ (fo ++ ext))) : Ow F H (base ++ ([] ++ ext)) := o.sub (List.Sublist.append (List.Sublist.refl _) (by simpa using List.sublist_append_right fo ext))
theorem Ow.new1 {base fo ext : FP} {p : Addr} {u : HO} (o : Ow F H (base ++ (fo ++ ext))) (hp : H p = none) : Ow F (upd H p u) (base ++ ([(p, u)] ++ ext)) :=
  ((o.drop.newO (o := u) hp).2).perm (by
    have := (List.perm_middle (a := (p, u)) (l₁ := base) (l₂ := ext)).symm
    simpa using this)
theorem Ow.newF1 {base fo ext : FP} {p : Addr} {u : HO} (o : Ow F H (base ++ (fo ++ ext))) (hp : H p = none) : Same F (upd F p u) ∧ Same H (upd H p u) ∧ Ow (upd F p u) (upd H p u) (base ++ ([] ++ ext)) := o.drop.newF hp
/-- what stands for a part that is seen, held -/
theorem Ow.held {base fo ext : FP} (o : Ow F H (base ++ (fo ++ ext))) : Hold H fo := o.hold.sub fun e he => List.mem_append_right _ (List.mem_append_left _ he)
/-- a value's own objects are held, as its own or as seen -/
theorem held1 {u : Bool} {f : FP} (h : u = false → Hold H f) (g : Hold H (if u then f else [])) : Hold H f := by
  cases u with
  | false => exact h rfl
  | true => exact g
/-- a scalar comes out -/
theorem out0 {base fo ext : FP} {y : Val} {v : V} (o : Ow F H (base ++ (fo ++ ext))) (r : Rep K F y v [])
    (m : ∀ F2 H2 v fp, Same F F2 → Same H H2 → Ow F2 H2 (base ++ ((if true = true then fp else []) ++ ext)) → Rep K F2 y v fp → (true = false → Hold H2 fp) → Q v H2) : Q v H :=
  m F H v [] (Same.refl _) (Same.refl _) o.drop r nofun
/-- a new list of frozen things -/
theorem outL {base fo ext : FP} {ys : List Val} {vs : List V} {p : Addr} (o : Ow F H (base ++ (fo ++ ext))) (hp : H p = none) (r : Reps K F ys vs [])
    (m : ∀ F2 H2 v fp, Same F F2 → Same H H2 → Ow F2 H2 (base ++ ((if true = true then fp else []) ++ ext)) → Rep K F2 (.lst true ys) v fp → (true = false → Hold H2 fp) → Q v H2) : Q (.ref p) (upd H p (.lst vs)) :=
  m F _ (.ref p) [(p, .lst vs)] (Same.refl _) (upd_sub hp) (o.new1 hp) (.lstO r) nofun
/-- a new tuple of frozen things -/
theorem outT {base fo ext : FP} {ys : List Val} {vs : List V} {p : Addr} (o : Ow F H (base ++ (fo ++ ext))) (hp : H p = none) (r : Reps K F ys vs [])
    (m : ∀ F2 H2 v fp, Same F F2 → Same H H2 → Ow F2 H2 (base ++ ((if true = true then fp else []) ++ ext)) → Rep K F2 (.tup ys) v fp → (true = false → Hold H2 fp) → Q v H2) : Q (.ref p) (upd H p (.tup vs)) := by
  obtain ⟨h1, h2, h3⟩ := o.newF1 (u := .tup vs) hp
  exact m _ _ (.ref p) [] h1 h2 h3 (.tup upd_same (r.mono h1)) nofun
theorem Rep.int_inv {i : Int} {v : V} {f : FP} (r : Rep K F (.int i) v f) : v = .int i ∧ f = [] := by cases r; exact ⟨rfl, rfl⟩
theorem Rep.str_inv {i : Str} {v : V} {f : FP} (r : Rep K F (.str i) v f) : v = .str i ∧ f = [] := by cases r; exact ⟨rfl, rfl⟩
theorem Rep.bl_inv {i : Bool} {v : V} {f : FP} (r : Rep K F (.bl i) v f) : v = .bl i ∧ f = [] := by cases r; exact ⟨rfl, rfl⟩
/-- a list as it is read -/
theorem Rep.lst_inv {o : Bool} {xs : List Val} {v : V} {f : FP} (r : Rep K F (.lst o xs) v f) (s : Same F H) (h : Hold H f) : ∃ a vs g, v = .ref a ∧ SqL K H a vs ∧ Reps K F xs vs g ∧ (∀ e ∈ g, e ∈ f) ∧ H a = some (.lst vs) := by
  cases r with
  | lstF e r => exact ⟨_, _, [], rfl, .of (s _ _ e), r, (fun _ h => nomatch h), s _ _ e⟩
  | lstO r => exact ⟨_, _, _, rfl, .of h.cons.1, r, fun _ he => List.mem_cons_of_mem _ he, h.cons.1⟩
theorem Rep.tup_inv {xs : List Val} {v : V} {f : FP} (r : Rep K F (.tup xs) v f) (s : Same F H) : ∃ a vs, v = .ref a ∧ SqT K H a vs ∧ Reps K F xs vs f := by
  cases r with
  | tup e r => exact ⟨_, _, rfl, .of (s _ _ e), r⟩
end
section
variable {K : PySem.W.Frag} {T : Tbl} {cA : Nat → Addr} {W : WX} {X : Cx} {a b : ME} {σ : St} {H : Hp} {Q : VK} {op : Op} {k : Nat} {p q r : Pos}
theorem bin_ok {rr : R2} (hr : ∀ x y H Q, Pp K op [x, y] H Q → rr x y H Q) (h : tE K T cA W (.prim op k p q r [a, b]) σ H Q) : tOp rr (tE K T cA W a) (tE K T cA W b) σ H Q :=
  tE_mono (tL_two (tE_prim h)) fun x _ h1 => tE_mono h1 fun y _ h2 => hr x y _ _ h2
theorem un_ok {rr : V → Hp → VK → Prop} (hr : ∀ x H Q, Pp K op [x] H Q → rr x H Q) (h : tE K T cA W (.prim op k p q r [a]) σ H Q) : tUn rr (tE K T cA W a) σ H Q :=
  tE_mono (tL_one (tE_prim h)) fun x _ h1 => hr x _ _ h1
end
/-! two parts -/
section
variable {K : PySem.W.Frag} {H : Hp} {Q : VK} {x y : V}
theorem pp_add (h : Pp K .add [x, y] H Q) : rI0 (fun i j => .int (i + j)) x y H Q := by
  obtain ⟨F, xs, fo, base, ext, A, o, m⟩ := h
  obtain ⟨x1, u1, f1, x2, u2, f2, rfl, r1, r2, h1, h2, rfl⟩ := A.two
  cases r1 <;> try exact False.elim m
  cases r2 <;> try exact False.elim m
  exact ⟨_, _, rfl, rfl, out0 o .int m⟩
theorem pp_sub (h : Pp K .sub [x, y] H Q) : rI0 (fun i j => .int (i - j)) x y H Q := by
  obtain ⟨F, xs, fo, base, ext, A, o, m⟩ := h
  obtain ⟨x1, u1, f1, x2, u2, f2, rfl, r1, r2, h1, h2, rfl⟩ := A.two
  cases r1 <;> try exact False.elim m
  cases r2 <;> try exact False.elim m
  exact ⟨_, _, rfl, rfl, out0 o .int m⟩
theorem pp_mul (h : Pp K .mul [x, y] H Q) : rI CMulW (fun i j => .int (i * j)) x y H Q := by
  obtain ⟨F, xs, fo, base, ext, A, o, m⟩ := h
  obtain ⟨x1, u1, f1, x2, u2, f2, rfl, r1, r2, h1, h2, rfl⟩ := A.two
  cases r1 <;> try exact False.elim m
  cases r2 <;> try exact False.elim m
  simp only [Op.sem, s_mul] at m
  split at m
  · rename_i e
    split at e
    · rename_i hc
      cases e
      exact ⟨_, _, rfl, rfl, hc, out0 o .int m⟩
    · cases e
  · exact m.elim
theorem pp_fdiv (h : Pp K .fdiv [x, y] H Q) : rI CDivW (fun i j => .int (i / j)) x y H Q := by
  obtain ⟨F, xs, fo, base, ext, A, o, m⟩ := h
  obtain ⟨x1, u1, f1, x2, u2, f2, rfl, r1, r2, h1, h2, rfl⟩ := A.two
  cases r1 <;> try exact False.elim m
  cases r2 <;> try exact False.elim m
  simp only [Op.sem, s_fdiv] at m
  split at m
  · rename_i e
    split at e
    · rename_i hc
      cases e
      exact ⟨_, _, rfl, rfl, hc, out0 o .int m⟩
    · cases e
  · exact m.elim
theorem pp_mod (h : Pp K .mod [x, y] H Q) : rI (fun _ j => 0 < j) (fun i j => .int (i % j)) x y H Q := by
  obtain ⟨F, xs, fo, base, ext, A, o, m⟩ := h
  obtain ⟨x1, u1, f1, x2, u2, f2, rfl, r1, r2, h1, h2, rfl⟩ := A.two
  cases r1 <;> try exact False.elim m
  cases r2 <;> try exact False.elim m
  simp only [Op.sem, s_mod] at m
  split at m
  · rename_i e
    split at e
    · rename_i hc
      cases e
      exact ⟨_, _, rfl, rfl, hc, out0 o .int m⟩
    · cases e
  · exact m.elim
def CPowW (i j : Int) : Prop := 0 ≤ j ∧ j ≤ 64 ∧ i.natAbs.log2 < 1000000
theorem op_powW {X : Cx} : OpR X (binaryOp .Pow) (rI CPowW fun i j => .int (i ^ j.toNat)) := opI fun i j _ _ _ _ _ hc q => PyProof.Rows.pow_int hc.1 (by
  obtain ⟨h0, h1, h2⟩ := hc
  have hb : Builtin.Int.intBits i ≤ 1000000 := by
    unfold Builtin.Int.intBits
    split <;> omega
  have h3 : (Builtin.Int.intBits i : Int) * j ≤ 1000000 * 64 := Int.mul_le_mul (by omega) h1 h0 (by decide)
  have h4 : (1000000 * 64 : Int) ≤ 2 ^ 27 := by decide
  exact Int.le_trans h3 h4) q
theorem pp_pow (h : Pp K .pow [x, y] H Q) : rI CPowW (fun i j => .int (i ^ j.toNat)) x y H Q := by
  obtain ⟨F, xs, fo, base, ext, A, o, m⟩ := h
  obtain ⟨x1, u1, f1, x2, u2, f2, rfl, r1, r2, h1, h2, rfl⟩ := A.two
  cases r1 <;> try exact False.elim m
  cases r2 <;> try exact False.elim m
  simp only [Op.sem, s_pow] at m
  split at m
  · rename_i e
    split at e
    · rename_i hc
      cases e
      exact ⟨_, _, rfl, rfl, hc, out0 o .int m⟩
    · cases e
  · exact m.elim
theorem pp_addS (h : Pp K .addS [x, y] H Q) : (fun x y H Q => ∃ i j : Str, x = .str i ∧ y = .str j ∧ i.length + j.length ≤ sizeLine ∧ Q (.str (i ++ j)) H) x y H Q := by
  obtain ⟨F, xs, fo, base, ext, A, o, m⟩ := h
  obtain ⟨x1, u1, f1, x2, u2, f2, rfl, r1, r2, h1, h2, rfl⟩ := A.two
  cases r1 <;> try exact False.elim m
  cases r2 <;> try exact False.elim m
  simp only [Op.sem, s_addS] at m
  split at m
  · rename_i e
    split at e
    · rename_i hc
      cases e
      exact ⟨_, _, rfl, rfl, hc, out0 o .str m⟩
    · cases e
  · exact m.elim
theorem pp_lt (h : Pp K .lt [x, y] H Q) : rI0 (fun i j => .bl (decide (i < j))) x y H Q := by
  obtain ⟨F, xs, fo, base, ext, A, o, m⟩ := h
  obtain ⟨x1, u1, f1, x2, u2, f2, rfl, r1, r2, h1, h2, rfl⟩ := A.two
  cases r1 <;> try exact False.elim m
  cases r2 <;> try exact False.elim m
  exact ⟨_, _, rfl, rfl, out0 o .bl m⟩
theorem pp_le (h : Pp K .le [x, y] H Q) : rI0 (fun i j => .bl (decide (i ≤ j))) x y H Q := by
  obtain ⟨F, xs, fo, base, ext, A, o, m⟩ := h
  obtain ⟨x1, u1, f1, x2, u2, f2, rfl, r1, r2, h1, h2, rfl⟩ := A.two
  cases r1 <;> try exact False.elim m
  cases r2 <;> try exact False.elim m
  exact ⟨_, _, rfl, rfl, out0 o .bl m⟩
theorem pp_gt (h : Pp K .gt [x, y] H Q) : rI0 (fun i j => .bl (decide (j < i))) x y H Q := by
  obtain ⟨F, xs, fo, base, ext, A, o, m⟩ := h
  obtain ⟨x1, u1, f1, x2, u2, f2, rfl, r1, r2, h1, h2, rfl⟩ := A.two
  cases r1 <;> try exact False.elim m
  cases r2 <;> try exact False.elim m
  exact ⟨_, _, rfl, rfl, out0 o .bl m⟩
theorem pp_ge (h : Pp K .ge [x, y] H Q) : rI0 (fun i j => .bl (decide (j ≤ i))) x y H Q := by
  obtain ⟨F, xs, fo, base, ext, A, o, m⟩ := h
  obtain ⟨x1, u1, f1, x2, u2, f2, rfl, r1, r2, h1, h2, rfl⟩ := A.two
  cases r1 <;> try exact False.elim m
  cases r2 <;> try exact False.elim m
  exact ⟨_, _, rfl, rfl, out0 o .bl m⟩
theorem pp_ltS (h : Pp K .ltS [x, y] H Q) : (fun x y H Q => ∃ i j : Str, x = .str i ∧ y = .str j ∧ Q (.bl (decide (i.cps.toList < j.cps.toList))) H) x y H Q := by
  obtain ⟨F, xs, fo, base, ext, A, o, m⟩ := h
  obtain ⟨x1, u1, f1, x2, u2, f2, rfl, r1, r2, h1, h2, rfl⟩ := A.two
  cases r1 <;> try exact False.elim m
  cases r2 <;> try exact False.elim m
  exact ⟨_, _, rfl, rfl, out0 o .bl m⟩
theorem pp_addL (h : Pp K .addL [x, y] H Q) : rCat x y H Q := by
  obtain ⟨F, xs, fo, base, ext, A, o, m⟩ := h
  obtain ⟨x1, u1, f1, x2, u2, f2, rfl, r1, r2, h1, h2, rfl⟩ := A.two
  have hf1 : Hold H f1 := held1 h1 o.held.app.2
  have hf2 : Hold H f2 := held1 h2 o.held.app.1
  cases x1 <;> try exact False.elim m
  cases x2 <;> try exact False.elim m
  obtain ⟨a, vs, g, rfl, _, p1, s1, e1⟩ := r1.lst_inv (K := K) o.same hf1
  obtain ⟨b, ws, g', rfl, _, p2, s2, e2⟩ := r2.lst_inv (K := K) o.same hf2
  simp only [Op.sem, s_addL] at m
  split at m
  · rename_i e
    split at e
    · rename_i hc
      cases e
      simp only [Bool.and_eq_true, decide_eq_true_eq] at hc
      obtain ⟨⟨n1, n2⟩, n3⟩ := hc
      obtain rfl := p1.noOwn n1
      obtain rfl := p2.noOwn n2
      exact ⟨_, _, _, _, rfl, rfl, e1, e2, by rw [← p1.length, ← p2.length]; exact n3, fun p hp => outL o hp (p1.app p2) m⟩
    · cases e
  · exact m.elim
theorem pp_addT (h : Pp K .addT [x, y] H Q) : rCatA K x y H Q := by
  obtain ⟨F, xs, fo, base, ext, A, o, m⟩ := h
  obtain ⟨x1, u1, f1, x2, u2, f2, rfl, r1, r2, h1, h2, rfl⟩ := A.two
  cases x1 <;> try exact False.elim m
  cases x2 <;> try exact False.elim m
  obtain ⟨a, vs, rfl, q1, p1⟩ := r1.tup_inv (K := K) o.same
  obtain ⟨b, ws, rfl, q2, p2⟩ := r2.tup_inv (K := K) o.same
  simp only [Op.sem, s_addT] at m
  split at m
  · rename_i e
    split at e
    · rename_i hc
      cases e
      simp only [Bool.and_eq_true, decide_eq_true_eq] at hc
      obtain ⟨⟨n1, n2⟩, n3⟩ := hc
      obtain rfl := p1.noOwn n1
      obtain rfl := p2.noOwn n2
      refine ⟨_, _, _, _, rfl, rfl, q1, q2, by rw [← p1.length, ← p2.length]; exact n3, fun e => ?_, fun _ e => ?_, fun _ _ p hp => outT o hp (p1.app p2) m⟩
      · subst e
        cases p1
        exact m F H _ [] (Same.refl _) (Same.refl _) o.drop r2 nofun
      · subst e
        cases p2
        simp only [List.append_nil] at m
        exact m F H _ [] (Same.refl _) (Same.refl _) o.drop r1 nofun
    · cases e
  · exact m.elim
mutual
theorem Rep.dp {F : Hp} (s : Same F H) : ∀ {x : Val} {v : V} {f : FP}, Rep K F x v f → Hold H f → PyData.canLay0 x.data = true → Dp K H v x.data
  | _, _, _, .non, _, _ => .non
  | _, _, _, .bl, _, _ => .bl _
  | _, _, _, .int, _, _ => .int _
  | _, _, _, .str, _, _ => .str _
  | _, _, _, .tup e r, h, c => .tup (.of (s _ _ e)) (Reps.dp s r h (by simpa [Val.data, PyData.canLay0] using c))
  | _, _, _, .lstF e r, h, c => .lst (.of (s _ _ e)) (Reps.dp s r h (by simpa [Val.data, PyData.canLay0] using c))
  | _, _, _, .lstO r, h, c => .lst (.of h.cons.1) (Reps.dp s r h.cons.2 (by simpa [Val.data, PyData.canLay0] using c))
  | _, _, _, .dKF _ _ _, _, c => by simp [Val.data, PyData.canLay0] at c
  | _, _, _, .dKO _ _, _, c => by simp [Val.data, PyData.canLay0] at c
  | _, _, _, .dTF _ _ _, _, c => by simp [Val.data, PyData.canLay0] at c
  | _, _, _, .dTO _ _, _, c => by simp [Val.data, PyData.canLay0] at c
  | _, _, _, .scr _, _, c => by simp [Val.data, PyData.canLay0] at c
theorem Reps.dp {F : Hp} (s : Same F H) : ∀ {xs : List Val} {vs : List V} {f : FP}, Reps K F xs vs f → Hold H f → PyData.canLayAll0 (dataL xs) = true → DpAll K H vs (dataL xs)
  | _, _, _, .nil, _, _ => .nil
  | _, _, _, .cons a b, h, c => by
    simp only [dataL, PyData.canLayAll0, Bool.and_eq_true] at c
    exact .cons (Rep.dp s a h.app.1 c.1) (Reps.dp s b h.app.2 c.2)
end
theorem good_lay {d : PyData} (h : good d = true) : PyData.canLay0 d = true := by
  unfold good SeqAt.shaped at h
  simp only [Bool.and_eq_true] at h
  exact h.1
theorem pp_eq (h : Pp K .eq [x, y] H Q) : rEqD K x y H Q := by
  obtain ⟨F, xs, fo, base, ext, A, o, m⟩ := h
  obtain ⟨x1, u1, f1, x2, u2, f2, rfl, r1, r2, h1, h2, rfl⟩ := A.two
  have hf1 : Hold H f1 := held1 h1 o.held.app.2
  have hf2 : Hold H f2 := held1 h2 o.held.app.1
  simp only [Op.sem, s_eq] at m
  split at m
  · rename_i e
    split at e
    · rename_i hc
      cases e
      simp only [Bool.and_eq_true] at hc
      exact ⟨_, _, r1.dp o.same hf1 (good_lay hc.1), r2.dp o.same hf2 (good_lay hc.2), hc.1, hc.2, out0 o .bl m⟩
    · cases e
  · exact m.elim
theorem pp_ne (h : Pp K .ne [x, y] H Q) : rNeD K x y H Q := by
  obtain ⟨F, xs, fo, base, ext, A, o, m⟩ := h
  obtain ⟨x1, u1, f1, x2, u2, f2, rfl, r1, r2, h1, h2, rfl⟩ := A.two
  have hf1 : Hold H f1 := held1 h1 o.held.app.2
  have hf2 : Hold H f2 := held1 h2 o.held.app.1
  simp only [Op.sem, s_ne] at m
  split at m
  · rename_i e
    split at e
    · rename_i hc
      cases e
      simp only [Bool.and_eq_true] at hc
      exact ⟨_, _, r1.dp o.same hf1 (good_lay hc.1), r2.dp o.same hf2 (good_lay hc.2), hc.1, hc.2, out0 o .bl m⟩
    · cases e
  · exact m.elim
theorem pp_inS (h : Pp K .inS [x, y] H Q) : ∃ (c : Nat) (z : Str), x = V.str { cps := #[c] } ∧ y = V.str z ∧ Q (V.bl (decide (c ∈ z.cps.toList))) H := by
  obtain ⟨F, xs, fo, base, ext, A, o, m⟩ := h
  obtain ⟨x1, u1, f1, x2, u2, f2, rfl, r1, r2, h1, h2, rfl⟩ := A.two
  cases r1 <;> try exact False.elim m
  cases r2 <;> try exact False.elim m
  rename_i a b
  simp only [Op.sem, s_inS] at m
  split at m
  · rename_i e
    split at e
    · rename_i c hc
      cases e
      refine ⟨c, _, ?_, rfl, out0 o .bl m⟩
      obtain ⟨⟨l⟩⟩ := a
      simp at hc
      rw [hc]
    · cases e
  · exact m.elim
theorem pp_notinS (h : Pp K .notinS [x, y] H Q) : ∃ (c : Nat) (z : Str), x = V.str { cps := #[c] } ∧ y = V.str z ∧ Q (V.bl (!decide (c ∈ z.cps.toList))) H := by
  obtain ⟨F, xs, fo, base, ext, A, o, m⟩ := h
  obtain ⟨x1, u1, f1, x2, u2, f2, rfl, r1, r2, h1, h2, rfl⟩ := A.two
  cases r1 <;> try exact False.elim m
  cases r2 <;> try exact False.elim m
  rename_i a b
  simp only [Op.sem, s_notinS] at m
  split at m
  · rename_i e
    split at e
    · rename_i c hc
      cases e
      refine ⟨c, _, ?_, rfl, out0 o .bl m⟩
      obtain ⟨⟨l⟩⟩ := a
      simp at hc
      rw [hc]
    · cases e
  · exact m.elim
theorem pp_inL (h : Pp K .inL [x, y] H Q) : rInD K x y H Q := by
  obtain ⟨F, xs, fo, base, ext, A, o, m⟩ := h
  obtain ⟨x1, u1, f1, x2, u2, f2, rfl, r1, r2, h1, h2, rfl⟩ := A.two
  have hf1 : Hold H f1 := held1 h1 o.held.app.2
  have hf2 : Hold H f2 := held1 h2 o.held.app.1
  cases x2 <;> try exact False.elim m
  simp only [Op.sem, s_inL] at m
  split at m
  · rename_i e
    split at e
    · rename_i hc
      cases e
      simp only [Bool.and_eq_true] at hc
      exact ⟨_, _, r1.dp o.same hf1 (good_lay hc.1), r2.dp o.same hf2 (good_lay hc.2), hc.1, hc.2, out0 o .bl m⟩
    · cases e
  · exact m.elim
theorem pp_notinL (h : Pp K .notinL [x, y] H Q) : rNotInD K x y H Q := by
  obtain ⟨F, xs, fo, base, ext, A, o, m⟩ := h
  obtain ⟨x1, u1, f1, x2, u2, f2, rfl, r1, r2, h1, h2, rfl⟩ := A.two
  have hf1 : Hold H f1 := held1 h1 o.held.app.2
  have hf2 : Hold H f2 := held1 h2 o.held.app.1
  cases x2 <;> try exact False.elim m
  simp only [Op.sem, s_notinL] at m
  split at m
  · rename_i e
    split at e
    · rename_i hc
      cases e
      simp only [Bool.and_eq_true] at hc
      exact ⟨_, _, r1.dp o.same hf1 (good_lay hc.1), r2.dp o.same hf2 (good_lay hc.2), hc.1, hc.2, out0 o .bl m⟩
    · cases e
  · exact m.elim
end
end Mn

set_option Elab.async false
set_option maxRecDepth 100000
set_option linter.all false
/-! Mn5: the further operations. -/
namespace Mn
open PySem L2
section
variable {K : PySem.W.Frag} {F H : Hp} {Q : VK} {x y : V}
/-! keys, dicts -/
theorem key_rep {x1 : Val} {f : FP} {k : Key} (r : Rep K F x1 x f) (e : x1.key? = some k) : x = kV k ∧ f = [] := by
  cases r <;> simp [Val.key?] at e <;> (subst e; exact ⟨rfl, rfl⟩)
theorem keys_reps : ∀ {xs : List Val} {vs : List V} {f : FP} {ks : List Key}, Reps K F xs vs f → keys? xs = some ks → vs = ks.map kV ∧ f = []
  | _, _, _, ks, .nil, e => by simp [keys?] at e; subst e; exact ⟨rfl, rfl⟩
  | _, _, _, ks, .cons (x := x) (xs := xs) a b, e => by
    simp only [keys?] at e
    split at e
    · rename_i k ks' h1 h2
      cases e
      obtain ⟨rfl, rfl⟩ := key_rep a h1
      obtain ⟨rfl, rfl⟩ := keys_reps b h2
      exact ⟨rfl, rfl⟩
    · cases e
theorem tkey_rep {x1 : Val} {f : FP} {ks : List Key} (r : Rep K F x1 x f) (e : x1.tkey? = some ks) : ∃ b, x = .ref b ∧ F b = some (.tup (ks.map kV)) ∧ f = [] := by
  cases r <;> simp [Val.tkey?] at e
  rename_i a vs xs h r
  obtain ⟨rfl, rfl⟩ := keys_reps r e
  exact ⟨_, rfl, h, rfl⟩
theorem lk_rep {κ : Type} [DecidableEq κ] {k : κ} : ∀ {kvs : List (κ × Val)} {kws : List (κ × V)} {f : FP}, kvs.map (·.1) = kws.map (·.1) → Reps K F (kvs.map (·.2)) (kws.map (·.2)) f →
    (lk kvs k = none ∧ valV kws k = none) ∨ ∃ y v g, lk kvs k = some y ∧ valV kws k = some v ∧ Rep K F y v g ∧ g.Sublist f
  | [], [], _, _, _ => .inl ⟨rfl, rfl⟩
  | [], _ :: _, _, h, _ => by simp at h
  | _ :: _, [], _, h, _ => by simp at h
  | (k1, y) :: r, (k2, v) :: s, f, h, rr => by
    simp at h
    obtain ⟨rfl, h⟩ := h
    cases rr with
    | cons a b =>
      by_cases e : k1 = k
      · refine .inr ⟨y, v, _, ?_, ?_, a, List.sublist_append_left _ _⟩
        · simp [lk, List.find?_cons, e]
        · exact valV_pos (p := (k1, v)) e
      · have l1 : lk ((k1, y) :: r) k = lk r k := by simp [lk, List.find?_cons, e]
        have l2 : valV ((k1, v) :: s) k = valV s k := valV_neg (p := (k1, v)) e
        rw [l1, l2]
        rcases lk_rep (k := k) h b with z | ⟨y', v', g, z1, z2, z3, z4⟩
        · exact .inl z
        · exact .inr ⟨y', v', g, z1, z2, z3, z4.trans (List.sublist_append_right _ _)⟩
/-- a dict as it is read -/
theorem Rep.dK_inv {o : Bool} {kvs : List (Key × Val)} {v : V} {f : FP} (r : Rep K F (.dK o kvs) v f) (s : Same F H) (h : Hold H f) : ∃ a kws g, v = .ref a ∧ H a = some (.dK kws) ∧ kvs.map (·.1) = kws.map (·.1) ∧ Reps K F (kvs.map (·.2)) (kws.map (·.2)) g ∧ g.Sublist f := by
  cases r with
  | dKF e k r => exact ⟨_, _, [], rfl, s _ _ e, k, r, List.Sublist.refl _⟩
  | dKO k r => exact ⟨_, _, _, rfl, h.cons.1, k, r, List.sublist_cons_self _ _⟩
theorem Rep.dT_inv {o : Bool} {kvs : List (List Key × Val)} {v : V} {f : FP} (r : Rep K F (.dT o kvs) v f) (s : Same F H) (h : Hold H f) : ∃ a kws g, v = .ref a ∧ H a = some (.dT kws) ∧ kvs.map (·.1) = kws.map (·.1) ∧ Reps K F (kvs.map (·.2)) (kws.map (·.2)) g ∧ g.Sublist f := by
  cases r with
  | dTF e k r => exact ⟨_, _, [], rfl, s _ _ e, k, r, List.Sublist.refl _⟩
  | dTO k r => exact ⟨_, _, _, rfl, h.cons.1, k, r, List.sublist_cons_self _ _⟩
/-- a look into a dict -/
theorem dget_of {x1 x2 : Val} {f1 f2 : FP} (s : Same F H) (r1 : Rep K F x1 x f1) (h1 : Hold H f1) (r2 : Rep K F x2 y f2) {res : Option Val}
    (e : (∃ o kvs k, x1 = .dK o kvs ∧ x2.key? = some k ∧ res = lk kvs k) ∨ (∃ o kvs k, x1 = .dT o kvs ∧ x2.tkey? = some k ∧ res = lk kvs k)) :
    ∃ a ov, x = .ref a ∧ DGet H a y ov ∧ ((res = none ∧ ov = none) ∨ ∃ z v g, res = some z ∧ ov = some v ∧ Rep K F z v g ∧ Hold H g) := by
  rcases e with ⟨o, kvs, k, rfl, e, rfl⟩ | ⟨o, kvs, k, rfl, e, rfl⟩
  · obtain ⟨a, kws, g, rfl, h, q1, q2, q3⟩ := r1.dK_inv (K := K) s h1
    obtain ⟨rfl, _⟩ := key_rep r2 e
    refine ⟨a, valV kws k, rfl, .inl ⟨kws, k, .inl h, rfl, rfl⟩, ?_⟩
    rcases lk_rep (k := k) q1 q2 with z | ⟨y', v', g', z1, z2, z3, z4⟩
    · exact .inl z
    · exact .inr ⟨y', v', g', z1, z2, z3, h1.sub fun _ he => (z4.trans q3).subset he⟩
  · obtain ⟨a, kws, g, rfl, h, q1, q2, q3⟩ := r1.dT_inv (K := K) s h1
    obtain ⟨b, rfl, hb, _⟩ := tkey_rep r2 e
    refine ⟨a, valV kws k, rfl, .inr ⟨kws, k, b, .inl h, rfl, s _ _ hb, rfl⟩, ?_⟩
    rcases lk_rep (k := k) q1 q2 with z | ⟨y', v', g', z1, z2, z3, z4⟩
    · exact .inl z
    · exact .inr ⟨y', v', g', z1, z2, z3, h1.sub fun _ he => (z4.trans q3).subset he⟩
theorem pp_inD (h : Pp K .inD [x, y] H Q) : ∃ a o, y = .ref a ∧ DGet H a x o ∧ Q (.bl o.isSome) H := by
  obtain ⟨F, xs, fo, base, ext, A, o, m⟩ := h
  obtain ⟨x1, u1, f1, x2, u2, f2, rfl, r1, r2, h1, h2, rfl⟩ := A.two
  have hf2 : Hold H f2 := held1 h2 o.held.app.1
  have key : ∀ res : Option Val, ((∃ o kvs k, x2 = .dK o kvs ∧ x1.key? = some k ∧ res = lk kvs k) ∨ (∃ o kvs k, x2 = .dT o kvs ∧ x1.tkey? = some k ∧ res = lk kvs k)) → Q (.bl res.isSome) H → ∃ a o, y = .ref a ∧ DGet H a x o ∧ Q (.bl o.isSome) H := by
    intro res e q
    obtain ⟨a, ov, e1, e2, e3⟩ := dget_of o.same r2 hf2 r1 e
    refine ⟨a, ov, e1, e2, ?_⟩
    rcases e3 with ⟨rfl, rfl⟩ | ⟨z, v, g, rfl, rfl, _⟩ <;> exact q
  cases x2 <;> try exact False.elim m
  · rename_i og kvs
    simp only [Op.sem, s_inD] at m
    cases e : x1.key? with
    | none => rw [e] at m; exact m.elim
    | some k => rw [e] at m; exact key _ (.inl ⟨_, _, k, rfl, e, rfl⟩) (out0 o .bl m)
  · rename_i og kvs
    simp only [Op.sem, s_inD] at m
    cases e : x1.tkey? with
    | none => rw [e] at m; exact m.elim
    | some k => rw [e] at m; exact key _ (.inr ⟨_, _, k, rfl, e, rfl⟩) (out0 o .bl m)
theorem pp_notinD (h : Pp K .notinD [x, y] H Q) : ∃ a o, y = .ref a ∧ DGet H a x o ∧ Q (.bl (!o.isSome)) H := by
  obtain ⟨F, xs, fo, base, ext, A, o, m⟩ := h
  obtain ⟨x1, u1, f1, x2, u2, f2, rfl, r1, r2, h1, h2, rfl⟩ := A.two
  have hf2 : Hold H f2 := held1 h2 o.held.app.1
  have key : ∀ res : Option Val, ((∃ o kvs k, x2 = .dK o kvs ∧ x1.key? = some k ∧ res = lk kvs k) ∨ (∃ o kvs k, x2 = .dT o kvs ∧ x1.tkey? = some k ∧ res = lk kvs k)) → Q (.bl (!res.isSome)) H → ∃ a o, y = .ref a ∧ DGet H a x o ∧ Q (.bl (!o.isSome)) H := by
    intro res e q
    obtain ⟨a, ov, e1, e2, e3⟩ := dget_of o.same r2 hf2 r1 e
    refine ⟨a, ov, e1, e2, ?_⟩
    rcases e3 with ⟨rfl, rfl⟩ | ⟨z, v, g, rfl, rfl, _⟩ <;> exact q
  cases x2 <;> try exact False.elim m
  · rename_i og kvs
    simp only [Op.sem, s_notinD] at m
    cases e : x1.key? with
    | none => rw [e] at m; exact m.elim
    | some k => rw [e] at m; exact key _ (.inl ⟨_, _, k, rfl, e, rfl⟩) (out0 o .bl m)
  · rename_i og kvs
    simp only [Op.sem, s_notinD] at m
    cases e : x1.tkey? with
    | none => rw [e] at m; exact m.elim
    | some k => rw [e] at m; exact key _ (.inr ⟨_, _, k, rfl, e, rfl⟩) (out0 o .bl m)
theorem pp_dix (h : Pp K .dix [x, y] H Q) : ∃ a v, x = .ref a ∧ DGet H a y (some v) ∧ Q v H := by
  obtain ⟨F, xs, fo, base, ext, A, o, m⟩ := h
  obtain ⟨x1, u1, f1, x2, u2, f2, rfl, r1, r2, h1, h2, rfl⟩ := A.two
  have hf1 : Hold H f1 := held1 h1 o.held.app.2
  have key : ∀ res : Option Val, ((∃ o kvs k, x1 = .dK o kvs ∧ x2.key? = some k ∧ res = lk kvs k) ∨ (∃ o kvs k, x1 = .dT o kvs ∧ x2.tkey? = some k ∧ res = lk kvs k)) → (∀ z v g, res = some z → Rep K F z v g → Hold H g → Q v H) → res ≠ none → ∃ a v, x = .ref a ∧ DGet H a y (some v) ∧ Q v H := by
    intro res e q ne
    obtain ⟨a, ov, e1, e2, e3⟩ := dget_of o.same r1 hf1 r2 e
    rcases e3 with ⟨rfl, rfl⟩ | ⟨z, v, g, rfl, rfl, q1, q2⟩
    · exact absurd rfl ne
    · exact ⟨a, v, e1, e2, q z v g rfl q1 q2⟩
  cases x1 <;> try exact False.elim m
  · rename_i og kvs
    simp only [Op.sem, s_dix] at m
    cases e : x2.key? with
    | none => rw [e] at m; exact m.elim
    | some k =>
      rw [e] at m
      cases e2 : lk kvs k with
      | none => simp [e2] at m
      | some w =>
        simp [e2] at m
        refine key _ (.inl ⟨_, _, k, rfl, e, rfl⟩) (fun z v g ez r q => ?_) (by simp [e2])
        rw [e2] at ez; cases ez
        exact m F H v g (Same.refl _) (Same.refl _) (by simpa using o.drop) r q
  · rename_i og kvs
    simp only [Op.sem, s_dix] at m
    cases e : x2.tkey? with
    | none => rw [e] at m; exact m.elim
    | some k =>
      rw [e] at m
      cases e2 : lk kvs k with
      | none => simp [e2] at m
      | some w =>
        simp [e2] at m
        refine key _ (.inr ⟨_, _, k, rfl, e, rfl⟩) (fun z v g ez r q => ?_) (by simp [e2])
        rw [e2] at ez; cases ez
        exact m F H v g (Same.refl _) (Same.refl _) (by simpa using o.drop) r q
/-! in a tuple of flat things -/
theorem flat_rep {x1 : Val} {f : FP} (r : Rep K F x1 x f) (e : isFlat x1 = true) : flatV x = true := by
  cases r <;> first | rfl | (simp [isFlat] at e)
theorem eqV_rep {x1 x2 : Val} {f g : FP} (r : Rep K F x1 x f) (s : Rep K F x2 y g) (e1 : isFlat x1 = true) (e2 : isFlat x2 = true) : eqV x y = PyData.eqv x1.data x2.data := by
  cases r <;> (first | (simp [isFlat] at e1; done) | skip) <;> cases s <;> (first | (simp [isFlat] at e2; done) | skip) <;> simp [eqV, Val.data, PyData.eqv] <;> first | rfl | (rename_i a b; cases a <;> cases b <;> rfl) | (rename_i a b; cases a <;> simp [eq_comm]) | (rename_i a b; cases b <;> simp [eq_comm]) | skip
end
end Mn

set_option Elab.async false
set_option maxRecDepth 100000
set_option linter.all false
/-! Mn6: operations of any number of parts. -/
namespace Mn
open PySem L2
section
variable {K : PySem.W.Frag} {F H : Hp} {Q : VK} {x y : V}
theorem inV_rep {x1 : Val} {f : FP} (r : Rep K F x1 x f) (e1 : isFlat x1 = true) : ∀ {ys : List Val} {vs : List V} {g : FP}, Reps K F ys vs g → ys.all isFlat = true → inV x vs = (ys.any fun z => PyData.eqv z.data x1.data) ∧ vs.all flatV = true
  | _, _, _, .nil, _ => ⟨rfl, rfl⟩
  | _, _, _, .cons a b, h => by
    simp only [List.all_cons, Bool.and_eq_true] at h
    obtain ⟨q1, q2⟩ := inV_rep r e1 b h.2
    refine ⟨?_, ?_⟩
    · show (eqV _ x || inV x _) = _
      rw [q1, eqV_rep a r h.1 e1]; rfl
    · simp only [List.all_cons, Bool.and_eq_true]; exact ⟨flat_rep a h.1, q2⟩
theorem pp_inT (h : Pp K .inT [x, y] H Q) : rIn K false x y H Q := by
  obtain ⟨F, xs, fo, base, ext, A, o, m⟩ := h
  obtain ⟨x1, u1, f1, x2, u2, f2, rfl, r1, r2, h1, h2, rfl⟩ := A.two
  cases x2 <;> try exact False.elim m
  obtain ⟨b, ws, rfl, q2, p2⟩ := r2.tup_inv (K := K) o.same
  simp only [Op.sem, s_inT] at m
  split at m
  · rename_i e
    split at e
    · rename_i hc
      cases e
      simp only [Bool.and_eq_true] at hc
      obtain ⟨e1, e2⟩ := inV_rep r1 hc.1 p2 hc.2
      refine ⟨_, _, rfl, .inr q2, flat_rep r1 hc.1, e2, ?_⟩
      rw [e1]
      exact out0 o .bl m
    · cases e
  · exact m.elim
theorem pp_notinT (h : Pp K .notinT [x, y] H Q) : rIn K true x y H Q := by
  obtain ⟨F, xs, fo, base, ext, A, o, m⟩ := h
  obtain ⟨x1, u1, f1, x2, u2, f2, rfl, r1, r2, h1, h2, rfl⟩ := A.two
  cases x2 <;> try exact False.elim m
  obtain ⟨b, ws, rfl, q2, p2⟩ := r2.tup_inv (K := K) o.same
  simp only [Op.sem, s_notinT] at m
  split at m
  · rename_i e
    split at e
    · rename_i hc
      cases e
      simp only [Bool.and_eq_true] at hc
      obtain ⟨e1, e2⟩ := inV_rep r1 hc.1 p2 hc.2
      refine ⟨_, _, rfl, .inr q2, flat_rep r1 hc.1, e2, ?_⟩
      rw [e1]
      exact out0 o .bl m
    · cases e
  · exact m.elim
theorem pp_isN (h : Pp K .isN [x] H Q) : Q (.bl (decide (x = .non))) H := by
  obtain ⟨F, xs, fo, base, ext, A, o, m⟩ := h
  obtain ⟨x1, u1, f1, rfl, r1, h1, rfl⟩ := A.one
  cases r1 <;> exact out0 o .bl m
theorem pp_notN (h : Pp K .notN [x] H Q) : Q (.bl (!decide (x = .non))) H := by
  obtain ⟨F, xs, fo, base, ext, A, o, m⟩ := h
  obtain ⟨x1, u1, f1, rfl, r1, h1, rfl⟩ := A.one
  cases r1 <;> exact out0 o .bl m
theorem pp_neg (h : Pp K .neg [x] H Q) : rU (fun i => .int (-i)) x H Q := by
  obtain ⟨F, xs, fo, base, ext, A, o, m⟩ := h
  obtain ⟨x1, u1, f1, rfl, r1, h1, rfl⟩ := A.one
  cases r1 <;> try exact False.elim m
  exact ⟨_, rfl, out0 o .int m⟩
theorem pp_ix (h : Pp K .ix [x, y] H Q) : rIx K x y H Q := by
  obtain ⟨F, xs, fo, base, ext, A, o, m⟩ := h
  obtain ⟨x1, u1, f1, x2, u2, f2, rfl, r1, r2, h1, h2, rfl⟩ := A.two
  have hf1 : Hold H f1 := held1 h1 o.held.app.2
  have at_ : ∀ {α : Type} {xs : List α} {i : Int} {z : α}, atI xs i = some z → ∃ j, ixN xs.length i = some j ∧ xs[j]? = some z := fun {α xs i z} e => by
    unfold atI at e
    cases q : ixN xs.length i with
    | none => rw [q] at e; cases e
    | some j => rw [q] at e; exact ⟨j, rfl, e⟩
  cases x1 <;> try exact False.elim m
  · rename_i z
    cases r2 <;> try exact False.elim m
    rename_i i
    obtain ⟨rfl, rfl⟩ := r1.str_inv
    simp only [Op.sem, s_ix] at m
    by_cases hz : z.length ≤ sizeLine
    · rw [if_pos hz] at m
      cases e : atI z.cps.toList i with
      | none => rw [e] at m; exact m.elim
      | some c =>
        rw [e] at m
        exact .inr (.inr ⟨_, i, c, rfl, rfl, hz, e, out0 o .str m⟩)
    · rw [if_neg hz] at m; exact m.elim
  · rename_i xs
    cases r2 <;> try exact False.elim m
    rename_i i
    obtain ⟨b, ws, rfl, q2, p2⟩ := r1.tup_inv (K := K) o.same
    simp only [Op.sem, s_ix] at m
    cases e : atI xs i with
    | none => rw [e] at m; exact m.elim
    | some z =>
      rw [e] at m
      obtain ⟨j, e1, e2⟩ := at_ e
      obtain ⟨v, g, e3, e4, e5⟩ := p2.get e2
      refine .inr (.inl ⟨_, _, i, v, rfl, rfl, q2, ?_, m F H v g (Same.refl _) (Same.refl _) (by simpa using o.drop) e4 fun _ => hf1.sub fun _ he => e5.subset he⟩)
      unfold atI
      rw [← p2.length, e1]; exact e3
  · rename_i og xs
    cases r2 <;> try exact False.elim m
    rename_i i
    obtain ⟨b, ws, g0, rfl, q2, p2, p3, _⟩ := r1.lst_inv (K := K) o.same hf1
    simp only [Op.sem, s_ix] at m
    cases e : atI xs i with
    | none => rw [e] at m; exact m.elim
    | some z =>
      rw [e] at m
      obtain ⟨j, e1, e2⟩ := at_ e
      obtain ⟨v, g, e3, e4, e5⟩ := p2.get e2
      refine .inl ⟨_, _, i, v, rfl, rfl, q2, ?_, m F H v g (Same.refl _) (Same.refl _) (by simpa using o.drop) e4 fun _ => hf1.sub fun _ he => p3 _ (e5.subset he)⟩
      unfold atI
      rw [← p2.length, e1]; exact e3
  · rename_i ns
    cases r2 <;> try exact False.elim m
    rename_i i
    cases r1
    rename_i a hs
    simp only [Op.sem, s_ix] at m
    cases e : atI ns i with
    | none => rw [e] at m; exact m.elim
    | some z =>
      rw [e] at m
      obtain ⟨j, e1, e2⟩ := at_ e
      refine .inl ⟨_, _, i, .int z, rfl, rfl, Same.seq o.same hs, ?_, out0 o .int m⟩
      unfold atI
      rw [List.length_map, e1]
      show (ns.map V.int)[j]? = _
      rw [List.getElem?_map, e2]; rfl
/-! displays -/
/-- the parts of a display: frozen or theirs alone -/
theorem ags_reps : ∀ {xs : List (Val × Bool)} {vs : List V} {fo : FP}, Ags K F H xs vs fo → (xs.all fun x => x.2 || x.1.noOwn) = true → ∃ g, Reps K F (xs.map (·.1)) vs g ∧ g.Perm fo
  | _, _, _, .nil, _ => ⟨[], .nil, .refl _⟩
  | _, _, _, .cons (u := u) (fp := fp) (fo := fo) a b c, h => by
    simp only [List.all_cons, Bool.and_eq_true, Bool.or_eq_true] at h
    obtain ⟨g, g1, g2⟩ := ags_reps c h.2
    refine ⟨fp ++ g, .cons a g1, ?_⟩
    have e : (if u = true then fp else []) = fp := by
      cases u with
      | true => rfl
      | false => rcases h.1 with z | z
                 · cases z
                 · rw [a.noOwn z]; rfl
    rw [e]
    exact ((List.Perm.refl fp).append g2).trans List.perm_append_comm
theorem ags_len : ∀ {xs : List (Val × Bool)} {vs : List V} {fo : FP}, Ags K F H xs vs fo → xs.length = vs.length
  | _, _, _, .nil => rfl
  | _, _, _, .cons _ _ c => by simp [ags_len c]
theorem pp_tup {vs : List V} (h : Pp K .tup vs H Q) : vs.length ≤ sizeLine ∧ ∀ p, H p = none → Q (.ref p) (upd H p (.tup vs)) := by
  obtain ⟨F, xs, fo, base, ext, A, o, m⟩ := h
  simp only [Op.sem, s_tup] at m
  split at m
  · rename_i e
    split at e
    · rename_i hc
      cases e
      simp only [Bool.and_eq_true, decide_eq_true_eq] at hc
      obtain ⟨g, g1, g2⟩ := ags_reps A hc.1
      refine ⟨by rw [← ags_len A]; exact hc.2, fun p hp => ?_⟩
      obtain ⟨z1, z2, z3⟩ := o.newF (o := HO.tup vs) hp
      exact m _ _ (.ref p) g z1 z2 (z3.perm (((List.Perm.refl _).append (g2.symm.append (List.Perm.refl _))))) (.tup upd_same (g1.mono z1)) nofun
    · cases e
  · exact m.elim
theorem pp_lst {vs : List V} (h : Pp K .lst vs H Q) : vs.length ≤ sizeLine ∧ ∀ p, H p = none → Q (.ref p) (upd H p (.lst vs)) := by
  obtain ⟨F, xs, fo, base, ext, A, o, m⟩ := h
  simp only [Op.sem, s_lst] at m
  split at m
  · rename_i e
    split at e
    · rename_i hc
      cases e
      simp only [Bool.and_eq_true, decide_eq_true_eq] at hc
      obtain ⟨g, g1, g2⟩ := ags_reps A hc.1
      refine ⟨by rw [← ags_len A]; exact hc.2, fun p hp => ?_⟩
      obtain ⟨z2, z3⟩ := o.newO (o := HO.lst vs) hp
      refine m F _ (.ref p) ((p, .lst vs) :: g) (Same.refl _) z2 (z3.perm ?_) (.lstO g1) nofun
      have e1 : ((p, HO.lst vs) :: (base ++ (fo ++ ext))).Perm (base ++ ((p, HO.lst vs) :: (fo ++ ext))) := List.perm_middle.symm
      exact e1.trans ((List.Perm.refl _).append (List.Perm.cons _ (g2.symm.append (List.Perm.refl _))))
    · cases e
  · exact m.elim
theorem pp_dnK (h : Pp K .dnK [] H Q) : ∀ p, H p = none → Q (.ref p) (upd H p (.dK [])) := by
  obtain ⟨F, xs, fo, base, ext, A, o, m⟩ := h
  cases A
  exact fun p hp => m F _ (.ref p) [(p, .dK [])] (Same.refl _) (upd_sub hp) (o.new1 hp) (.dKO rfl .nil) nofun
theorem pp_dnT (h : Pp K .dnT [] H Q) : ∀ p, H p = none → Q (.ref p) (upd H p (.dT [])) := by
  obtain ⟨F, xs, fo, base, ext, A, o, m⟩ := h
  cases A
  exact fun p hp => m F _ (.ref p) [(p, .dT [])] (Same.refl _) (upd_sub hp) (o.new1 hp) (.dTO rfl .nil) nofun
/-! slices -/
theorem cut_map (ns : List Int) (lo hi : Option Int) : cutV (ns.map V.int) lo hi = (cutL ns lo hi).map V.int := by
  unfold cutV cutL
  simp [List.map_take, List.map_drop]
theorem reps_ints : ∀ ns : List Int, Reps K F (ns.map Val.int) (ns.map V.int) []
  | [] => .nil
  | _ :: r => .cons (fp := []) (fps := []) .int (reps_ints r)
/-- what the numbers of a slice say -/
inductive Pts : Bool → Bool → List V → Option Int → Option Int → Prop
  | none : Pts false false [] none none
  | lo {i} : Pts true false [.int i] (some i) none
  | hi {i} : Pts false true [.int i] none (some i)
  | both {i j} : Pts true true [.int i, .int j] (some i) (some j)
theorem pts_of {lo hi : Bool} {xs : List (Val × Bool)} {vs : List V} {fo : FP} {p : Option Int × Option Int} (A : Ags K F H xs vs fo) (e : parts? lo hi (xs.map (·.1)) = some p) : Pts lo hi vs p.1 p.2 := by
  cases A with
  | nil =>
    simp only [List.map_nil, parts?] at e
    split at e
    · rename_i h; cases e
      simp only [Bool.and_eq_true, Bool.not_eq_true'] at h
      rw [h.1, h.2]; exact .none
    · cases e
  | cons a b A =>
    cases A with
    | nil =>
      cases a <;> simp only [List.map_cons, List.map_nil, parts?] at e <;> try (cases e; done)
      split at e
      · rename_i h; cases e
        simp only [Bool.and_eq_true, Bool.not_eq_true'] at h
        rw [h.1, h.2]; exact .lo
      · split at e
        · rename_i h; cases e
          simp only [Bool.and_eq_true, Bool.not_eq_true'] at h
          rw [h.1, h.2]; exact .hi
        · cases e
    | cons a2 b2 A =>
      cases A with
      | nil =>
        cases a <;> simp only [List.map_cons, List.map_nil, parts?] at e <;> try (cases e; done)
        cases a2 <;> simp only [parts?] at e <;> try (cases e; done)
        split at e
        · rename_i h; cases e
          simp only [Bool.and_eq_true] at h
          rw [h.1, h.2]; exact .both
        · cases e
      | cons a3 b3 A => cases a <;> simp [parts?] at e
theorem pp_slL {lo hi : Bool} {vs : List V} (h : Pp K (.slL lo hi) (x :: vs) H Q) : ∃ l u, Pts lo hi vs l u ∧ rSlL K x l u H Q := by
  obtain ⟨F, xs, fo, base, ext, A, o, m⟩ := h
  cases A with
  | cons r1 h1 A =>
    rename_i x1 u1 f1 xs fo
    have hf1 : Hold H f1 := held1 h1 o.held.app.2
    cases x1 <;> try exact False.elim m
    · rename_i og ys
      obtain ⟨b, ws, g0, rfl, q2, p2, p3, _⟩ := r1.lst_inv (K := K) o.same hf1
      simp only [Op.sem, s_slL] at m
      by_cases hn : noOwnL ys = true
      · rw [if_pos hn] at m
        cases e : parts? lo hi (xs.map (·.1)) with
        | none => simp [e] at m
        | some p =>
          simp [e] at m
          obtain rfl := p2.noOwn hn
          exact ⟨p.1, p.2, pts_of A e, _, _, rfl, q2, fun l hl => outL o hl (p2.cut0 _ _) (by simpa using m)⟩
      · rw [if_neg hn] at m; exact m.elim
    · rename_i ns
      cases r1
      rename_i a hs
      simp only [Op.sem, s_slL] at m
      cases e : parts? lo hi (xs.map (·.1)) with
      | none => simp [e] at m
      | some p =>
        simp [e] at m
        refine ⟨p.1, p.2, pts_of A e, _, _, rfl, Same.seq o.same hs, fun l hl => ?_⟩
        rw [cut_map]
        exact outL o hl (reps_ints _) (by simpa using m)
theorem pp_slT {lo hi : Bool} {vs : List V} (h : Pp K (.slT lo hi) (x :: vs) H Q) : ∃ l u, Pts lo hi vs l u ∧ rSlA K x l u H Q := by
  obtain ⟨F, xs, fo, base, ext, A, o, m⟩ := h
  cases A with
  | cons r1 h1 A =>
    rename_i x1 u1 f1 xs fo
    cases x1 <;> try exact False.elim m
    rename_i ys
    obtain ⟨b, ws, rfl, q2, p2⟩ := r1.tup_inv (K := K) o.same
    simp only [Op.sem, s_slT] at m
    by_cases hn : noOwnL ys = true
    · rw [if_pos hn] at m
      cases e : parts? lo hi (xs.map (·.1)) with
      | none => simp [e] at m
      | some p =>
        simp [e] at m
        obtain rfl := p2.noOwn hn
        refine ⟨p.1, p.2, pts_of A e, _, _, rfl, q2, fun w => ?_, fun _ l hl => outT o hl (p2.cut0 _ _) (by simpa using m)⟩
        have ec : cutL ys p.1 p.2 = ys := by
          unfold cutL
          rw [← p2.length] at w
          rw [w.1, w.2]; simp
        rw [ec] at m
        exact m F H _ [] (Same.refl _) (Same.refl _) (by simpa using o.drop) r1
    · rw [if_neg hn] at m; exact m.elim
theorem pp_slS {lo hi : Bool} {vs : List V} (h : Pp K (.slS lo hi) (x :: vs) H Q) : ∃ l u, Pts lo hi vs l u ∧ rSlS x l u H Q := by
  obtain ⟨F, xs, fo, base, ext, A, o, m⟩ := h
  cases A with
  | cons r1 h1 A =>
    rename_i x1 u1 f1 xs fo
    cases r1 <;> try exact False.elim m
    rename_i z
    simp only [Op.sem, s_slS] at m
    by_cases hn : z.length ≤ sizeLine
    · rw [if_pos hn] at m
      cases e : parts? lo hi (xs.map (·.1)) with
      | none => simp [e] at m
      | some p =>
        simp [e] at m
        exact ⟨p.1, p.2, pts_of A e, _, rfl, hn, out0 o .str (by simpa using m)⟩
    · rw [if_neg hn] at m; exact m.elim
end
end Mn

set_option Elab.async false
set_option maxRecDepth 100000
set_option linter.all false
/-! Mn7: built-in calls. -/
namespace Mn
open PySem L2
section
variable {K : PySem.W.Frag} {F H : Hp} {Q : VK} {x y : V} {vs : List V}
theorem pp_len (h : Pp K .len [x] H Q) : ∃ x' n, [x] = [x'] ∧ LenV K x' H n ∧ Q (V.int (n : Nat)) H := by
  obtain ⟨F, xs, fo, base, ext, A, o, m⟩ := h
  obtain ⟨x1, u1, f1, rfl, r1, h1, rfl⟩ := A.one
  have hf1 : Hold H f1 := held1 h1 o.held
  cases x1 <;> try exact False.elim m
  · rename_i z
    obtain ⟨rfl, rfl⟩ := r1.str_inv
    simp only [Op.sem, s_len] at m
    by_cases hz : z.length ≤ sizeLine
    · rw [if_pos hz] at m
      exact ⟨_, _, rfl, ⟨hz, rfl⟩, out0 o .int m⟩
    · rw [if_neg hz] at m; exact m.elim
  · rename_i ys
    obtain ⟨b, ws, rfl, q2, p2⟩ := r1.tup_inv (K := K) o.same
    refine ⟨_, ys.length, rfl, .inr ⟨ws, q2, p2.length⟩, out0 o .int m⟩
  · rename_i og ys
    obtain ⟨b, ws, g0, rfl, q2, p2, p3, _⟩ := r1.lst_inv (K := K) o.same hf1
    exact ⟨_, ys.length, rfl, .inl ⟨ws, q2, p2.length⟩, out0 o .int m⟩
  · rename_i ns
    cases r1
    rename_i a hs
    exact ⟨_, ns.length, rfl, .inl ⟨_, Same.seq o.same hs, by simp⟩, out0 o .int m⟩
theorem pp_lenD (h : Pp K .lenD [x] H Q) : (∃ a kvs, [x] = [V.ref a] ∧ H a = some (.dK kvs) ∧ Q (.int (kvs.length : Nat)) H) ∨ rLenT [x] H Q := by
  obtain ⟨F, xs, fo, base, ext, A, o, m⟩ := h
  obtain ⟨x1, u1, f1, rfl, r1, h1, rfl⟩ := A.one
  have hf1 : Hold H f1 := held1 h1 o.held
  cases x1 <;> try exact False.elim m
  · rename_i og kvs
    obtain ⟨a, kws, g, rfl, h, q1, q2, q3⟩ := r1.dK_inv (K := K) o.same hf1
    have hl : kvs.length = kws.length := by have := congrArg List.length q1; simpa using this
    refine .inl ⟨a, kws, rfl, h, ?_⟩
    rw [← hl]
    exact out0 o .int m
  · rename_i og kvs
    obtain ⟨a, kws, g, rfl, h, q1, q2, q3⟩ := r1.dT_inv (K := K) o.same hf1
    have hl : kvs.length = kws.length := by have := congrArg List.length q1; simpa using this
    refine .inr ⟨a, kws, rfl, h, ?_⟩
    rw [← hl]
    exact out0 o .int m
theorem pp_max2 (h : Pp K .max2 [x, y] H Q) : ∃ i j, [x, y] = [V.int i, V.int j] ∧ Q (.int (if j > i then j else i)) H := by
  obtain ⟨F, xs, fo, base, ext, A, o, m⟩ := h
  obtain ⟨x1, u1, f1, x2, u2, f2, rfl, r1, r2, h1, h2, rfl⟩ := A.two
  cases r1 <;> try exact False.elim m
  cases r2 <;> try exact False.elim m
  exact ⟨_, _, rfl, out0 o .int m⟩
theorem pp_min2 (h : Pp K .min2 [x, y] H Q) : ∃ i j, [x, y] = [V.int i, V.int j] ∧ Q (.int (if j < i then j else i)) H := by
  obtain ⟨F, xs, fo, base, ext, A, o, m⟩ := h
  obtain ⟨x1, u1, f1, x2, u2, f2, rfl, r1, r2, h1, h2, rfl⟩ := A.two
  cases r1 <;> try exact False.elim m
  cases r2 <;> try exact False.elim m
  exact ⟨_, _, rfl, out0 o .int m⟩
theorem pp_intB (h : Pp K .intB [x] H Q) : (∃ i, [x] = [V.int i] ∧ Q (V.int i) H) ∨ ∃ k, [x] = [V.bl k] ∧ Q (V.int (if k = true then 1 else 0)) H := by
  obtain ⟨F, xs, fo, base, ext, A, o, m⟩ := h
  obtain ⟨x1, u1, f1, rfl, r1, h1, rfl⟩ := A.one
  cases r1 <;> try exact False.elim m
  · exact .inr ⟨_, rfl, out0 o .int m⟩
  · exact .inl ⟨_, rfl, out0 o .int m⟩
theorem pp_strI (h : Pp K .strI [x] H Q) : ∃ i, [x] = [V.int i] ∧ Nat.log2 (Int.natAbs i) < 1920 ∧ Q (V.str (Str.ofString (toString i))) H := by
  obtain ⟨F, xs, fo, base, ext, A, o, m⟩ := h
  obtain ⟨x1, u1, f1, rfl, r1, h1, rfl⟩ := A.one
  cases r1 <;> try exact False.elim m
  rename_i i
  simp only [Op.sem, s_strI] at m
  by_cases hz : i.natAbs.log2 < 1920
  · rw [if_pos hz] at m
    exact ⟨_, rfl, hz, out0 o .str m⟩
  · rw [if_neg hz] at m; exact m.elim
theorem pp_listOf (h : Pp K .listOf [x] H Q) : ∃ p ys, [x] = [V.ref p] ∧ (SqL K H p ys ∨ SqT K H p ys) ∧ ∀ (l : Addr), H l = none → Q (V.ref l) (upd H l (HO.lst ys)) := by
  obtain ⟨F, xs, fo, base, ext, A, o, m⟩ := h
  obtain ⟨x1, u1, f1, rfl, r1, h1, rfl⟩ := A.one
  have hf1 : Hold H f1 := held1 h1 o.held
  cases x1 <;> try exact False.elim m
  · rename_i ys
    obtain ⟨b, ws, rfl, q2, p2⟩ := r1.tup_inv (K := K) o.same
    simp only [Op.sem, s_listOf] at m
    by_cases hn : noOwnL ys = true
    · rw [if_pos hn] at m
      obtain rfl := p2.noOwn hn
      exact ⟨_, _, rfl, .inr q2, fun l hl => outL o hl p2 m⟩
    · rw [if_neg hn] at m; exact m.elim
  · rename_i og ys
    obtain ⟨b, ws, g0, rfl, q2, p2, p3, _⟩ := r1.lst_inv (K := K) o.same hf1
    simp only [Op.sem, s_listOf] at m
    by_cases hn : noOwnL ys = true
    · rw [if_pos hn] at m
      obtain rfl := p2.noOwn hn
      exact ⟨_, _, rfl, .inl q2, fun l hl => outL o hl p2 m⟩
    · rw [if_neg hn] at m; exact m.elim
theorem keyV_rep (k : Key) : Rep K F (keyV k) (kV k) [] := by cases k <;> constructor
theorem reps_keys : ∀ (ks : List Key), Reps K F (ks.map keyV) (ks.map kV) []
  | [] => .nil
  | k :: r => .cons (fp := []) (fps := []) (keyV_rep k) (reps_keys r)
theorem pp_listD (h : Pp K .listD [x] H Q) : ∃ a kvs, [x] = [V.ref a] ∧ Rd H a (HO.dK kvs) ∧ ∀ (p : Addr), H p = none → Q (V.ref p) (upd H p (HO.lst (List.map (fun kv => kV (Prod.fst kv)) kvs))) := by
  obtain ⟨F, xs, fo, base, ext, A, o, m⟩ := h
  obtain ⟨x1, u1, f1, rfl, r1, h1, rfl⟩ := A.one
  have hf1 : Hold H f1 := held1 h1 o.held
  cases x1 <;> try exact False.elim m
  rename_i og kvs
  obtain ⟨a, kws, g, rfl, h, q1, q2, q3⟩ := r1.dK_inv (K := K) o.same hf1
  refine ⟨a, kws, rfl, .inl h, fun p hp => ?_⟩
  have e1 : (kws.map fun kv => kV kv.1) = (kws.map (·.1)).map kV := by simp
  have e2 : (kvs.map fun kv => keyV kv.1) = (kvs.map (·.1)).map keyV := by simp
  rw [e1]
  refine outL (K := K) o hp (reps_keys _) ?_
  rw [← q1, ← e2]
  exact m
theorem pp_tupOf (h : Pp K .tupOf [x] H Q) : ∃ p ys, [x] = [V.ref p] ∧ ((SqL K H p ys ∧ ∀ (l : Addr), H l = none → Q (V.ref l) (upd H l (HO.tup ys))) ∨ SqT K H p ys ∧ Q (V.ref p) H) := by
  obtain ⟨F, xs, fo, base, ext, A, o, m⟩ := h
  obtain ⟨x1, u1, f1, rfl, r1, h1, rfl⟩ := A.one
  have hf1 : Hold H f1 := held1 h1 o.held
  cases x1 <;> try exact False.elim m
  rename_i og ys
  obtain ⟨b, ws, g0, rfl, q2, p2, p3, _⟩ := r1.lst_inv (K := K) o.same hf1
  simp only [Op.sem, s_tupOf] at m
  by_cases hn : noOwnL ys = true
  · rw [if_pos hn] at m
    obtain rfl := p2.noOwn hn
    exact ⟨_, _, rfl, .inl ⟨q2, fun l hl => outT o hl p2 m⟩⟩
  · rw [if_neg hn] at m; exact m.elim
theorem allB_reps : ∀ {xs : List Val} {vs : List V} {f : FP} {bs : List Bool}, Reps K F xs vs f → allB xs = some bs → vs = bs.map V.bl
  | _, _, _, bs, .nil, e => by simp [allB] at e; subst e; rfl
  | _, _, _, bs, .cons a b, e => by
    cases a <;> simp [allB] at e
    obtain ⟨bs', e1, rfl⟩ := e
    rw [allB_reps b e1]; rfl
theorem allStr_reps : ∀ {xs : List Val} {vs : List V} {f : FP} {bs : List Str}, Reps K F xs vs f → allStr xs = some bs → vs = bs.map V.str
  | _, _, _, bs, .nil, e => by simp [allStr] at e; subst e; rfl
  | _, _, _, bs, .cons a b, e => by
    cases a <;> simp [allStr] at e
    obtain ⟨bs', e1, rfl⟩ := e
    rw [allStr_reps b e1]; rfl
theorem pp_all (h : Pp K .all [x] H Q) : rAll K [x] H Q := by
  obtain ⟨F, xs, fo, base, ext, A, o, m⟩ := h
  obtain ⟨x1, u1, f1, rfl, r1, h1, rfl⟩ := A.one
  have hf1 : Hold H f1 := held1 h1 o.held
  cases x1 <;> try exact False.elim m
  rename_i og ys
  obtain ⟨b, ws, g0, rfl, q2, p2, p3, _⟩ := r1.lst_inv (K := K) o.same hf1
  simp only [Op.sem, s_all] at m
  cases e : allB ys with
  | none => rw [e] at m; exact m.elim
  | some bs =>
    rw [e] at m
    obtain rfl := allB_reps p2 e
    exact ⟨_, bs, rfl, q2, out0 o .bl m⟩
theorem pp_any (h : Pp K .any [x] H Q) : rAny K [x] H Q := by
  obtain ⟨F, xs, fo, base, ext, A, o, m⟩ := h
  obtain ⟨x1, u1, f1, rfl, r1, h1, rfl⟩ := A.one
  have hf1 : Hold H f1 := held1 h1 o.held
  cases x1 <;> try exact False.elim m
  rename_i og ys
  obtain ⟨b, ws, g0, rfl, q2, p2, p3, _⟩ := r1.lst_inv (K := K) o.same hf1
  simp only [Op.sem, s_any] at m
  cases e : allB ys with
  | none => rw [e] at m; exact m.elim
  | some bs =>
    rw [e] at m
    obtain rfl := allB_reps p2 e
    exact ⟨_, bs, rfl, q2, out0 o .bl m⟩
theorem pp_join (h : Pp K .join [x, y] H Q) : ∃ (a : Str) (p : Addr) (ys : List Str), x = V.str a ∧ [y] = [V.ref p] ∧ (SqL K H p (List.map V.str ys) ∨ SqT K H p (List.map V.str ys)) ∧
    List.sum (List.map (fun x => Str.length x) ys) + List.length ys * Str.length a ≤ 16777216 ∧ Q (V.str (Txt.join a ys)) H := by
  obtain ⟨F, xs, fo, base, ext, A, o, m⟩ := h
  obtain ⟨x1, u1, f1, x2, u2, f2, rfl, r1, r2, h1, h2, rfl⟩ := A.two
  have hf2 : Hold H f2 := held1 h2 o.held.app.1
  cases r1 <;> try exact False.elim m
  rename_i a
  cases x2 <;> try exact False.elim m
  rename_i og ys
  obtain ⟨b, ws, g0, rfl, q2, p2, p3, _⟩ := r2.lst_inv (K := K) o.same hf2
  simp only [Op.sem, s_join] at m
  cases e : allStr ys with
  | none => rw [e] at m; exact m.elim
  | some bs =>
    rw [e] at m
    obtain rfl := allStr_reps p2 e
    simp only [Option.bind_some] at m
    by_cases hz : (bs.map (·.length)).sum + bs.length * a.length ≤ 16777216
    · rw [if_pos hz] at m
      exact ⟨a, b, bs, rfl, rfl, .inl q2, hz, out0 o .str m⟩
    · rw [if_neg hz] at m; exact m.elim
end
end Mn

set_option Elab.async false
set_option maxRecDepth 100000
set_option linter.all false
/-! Mn8: the operations put together. -/
namespace Mn
open PySem L2
/-! isinstance of built-in types -/
def tyNm : Val → String
  | .non => "NoneType" | .bl _ => "bool" | .int _ => "int" | .str _ => "str" | .tup _ => "tuple" | .lst _ _ => "list" | .dK _ _ => "dict" | .dT _ _ => "dict" | .scr _ => "list" | .ins _ _ => ""
def tys : List String := ["str", "list", "tuple", "int", "bool", "dict"]
def tyTab (a b : String) : Bool := a == b || (a == "bool" && b == "int")
theorem kit_tab : (["NoneType", "bool", "int", "str", "tuple", "list", "dict"].all fun a => tys.all fun b => decide (kitB a b = some (tyTab a b))) = true := by decide +kernel
theorem boot_tys : (tys.all fun b => decide (bootBuiltins (Str.ofString b) = some (.type b))) = true := by decide +kernel
section
variable {K : PySem.W.Frag} {F H : Hp} {Q : VK} {x y : V} {vs : List V}
theorem tyx_rep {x1 : Val} {f : FP} (r : Rep K F x1 x f) (s : Same F H) (h : Hold H f) : TyX K H x (.type (tyNm x1)) := by
  cases r with
  | non => exact .base .non
  | bl => exact .base (.bl _)
  | int => exact .base (.int _)
  | str => exact .base (.str _)
  | tup e _ => exact .base (.tup (s _ _ e))
  | lstF e _ => exact .base (.lst (s _ _ e))
  | lstO _ => exact .base (.lst h.cons.1)
  | dKF e _ _ => exact .base (.dK (s _ _ e))
  | dKO _ _ => exact .base (.dK h.cons.1)
  | dTF e _ _ => exact .base (.dT (s _ _ e))
  | dTO _ _ => exact .base (.dT h.cons.1)
  | scr hs =>
    rcases Same.seq s hs with (z | ⟨o, z⟩) | ⟨o, its, n, z, c, _⟩
    · exact .base (.lst z)
    · exact .base (.frz z)
    · exact .kList z c
theorem tyTab_is : ∀ ty ∈ tys, ∀ x : Val, (∀ c fs, x ≠ .ins c fs) → tyTab (tyNm x) ty = tyIs ty x := by
  intro ty h x hx
  simp only [tys, List.mem_cons, List.not_mem_nil, or_false] at h
  rcases h with rfl | rfl | rfl | rfl | rfl | rfl <;> cases x <;> first | exact absurd rfl (hx _ _) | (simp only [tyTab, tyNm, tyIs]; decide)
theorem kitV_of {x1 : Val} {f : FP} {ty : String} (r : Rep K F x1 x f) (hty : ty ∈ tys) : PySem.W.kitOne K (.type (tyNm x1)) (.type ty) = some (tyIs ty x1) := by
  have h := kit_tab
  rw [List.all_eq_true] at h
  have g : ∀ a ∈ ["NoneType", "bool", "int", "str", "tuple", "list", "dict"], kitB a ty = some (tyTab a ty) := fun a ha => by
    have := h a ha
    rw [List.all_eq_true] at this
    exact of_decide_eq_true (this ty hty)
  rw [← tyTab_is ty hty x1 (by cases r <;> exact fun _ _ z => nomatch z)]
  refine kit_ty (g _ ?_)
  cases r <;> simp [tyNm]
theorem pp_isi {ty : String} (hty : ty ∈ tys) (h : Pp K (.isi ty) [x] H Q) : rIsi K [x, .ty ty] H Q := by
  obtain ⟨F, xs, fo, base, ext, A, o, m⟩ := h
  obtain ⟨x1, u1, f1, rfl, r1, h1, rfl⟩ := A.one
  have hf1 : Hold H f1 := held1 h1 o.held
  exact ⟨x, .ty ty, _, _, tyIs ty x1, rfl, .ty _, tyx_rep r1 o.same hf1, kitV_of r1 hty, out0 o .bl m⟩
end
/-! the written forms -/
section
variable {X : Cx} {e : Expr} {es : List Expr}
theorem Plain.star (h : Plain e) : starEach (e :: es) X.env = (false, eval e X.env) :: starEach es X.env := by cases h <;> rfl
theorem Plain.attr {f : Str} (h : Plain e) : attributeBase e f X.env (eval e X.env) = eval e X.env := by
  cases h with
  | call k =>
    rename_i g a p
    unfold attributeBase
    split
    · rename_i q e
      injection e with e1 e2 _ _
      rcases k _ _ e1 with z | z
      · exact absurd e2 z
      · rename_i idx _ _ _
        have hz : (idx != ("super" : Str)) = true := by simpa using z
        simp [hz]
    · rfl
  | _ => rfl
theorem Plain.noSl (h : Plain e) : NoSl e := by cases h <;> exact fun _ _ => rfl
theorem Plain.ix (h : Plain e) : PlainIx e := by cases h <;> exact fun _ _ => rfl
theorem Plain.mark {op : CmpOp} (h : Plain e) : behindInMarks op e = false := by cases h <;> rfl
theorem Plain.fold (h : Plain e) (x : Value) : foldedSetIterable e X.env x = pure x := by cases h <;> rfl
end
theorem slE_plain (lo hi : Bool) (a : Expr) (r : List Expr) (q p : Pos) : Plain (slE lo hi a r q p) := by
  unfold slE
  split <;> constructor
theorem fam_plain (n : Nat) (p q : Pos) (es : List Expr) : Plain (famEr n p q es) := by
  unfold famEr
  split <;> first | constructor | skip
  all_goals exact fun _ _ _ => .inl (by simp)
theorem op_plain (op : Op) (k : Nat) (p q r : Pos) (es : List Expr) : Plain (op.er k p q r es) := by
  unfold Op.er
  split <;> first | constructor | exact fam_plain _ _ _ _
  all_goals exact fun _ _ _ => .inl (by simp)
theorem wfE_call {G : Nms} {N : List Str} {pr : List Nat} {sc : Scope} {j : Nat} {f : Str} {p q : Pos} {es : List ME} (h : wfE G N pr sc (.call j f p q es) = true) : erL es ≠ [] := by
  simp only [wfE, Bool.and_eq_true, decide_eq_true_eq] at h
  obtain ⟨⟨_, h⟩, _⟩ := h
  cases es with
  | nil => simp at h
  | cons a b => simp [erL]
theorem plain_er {G : Nms} {N : List Str} {pr : List Nat} {sc : Scope} : ∀ m : ME, wfE G N pr sc m = true → Plain (er m)
  | .const .., _ => .const | .var .., _ => .name | .mv .., _ => .name | .fz .., _ => .name | .glob .., _ => .name | .lend .., _ => .name
  | .prim .., _ => op_plain _ _ _ _ _ _
  | .meth .., _ => .call fun _ _ z => nomatch z
  | .slc op _ _ _ _, _ => by
    unfold er slcEr
    split <;> first | exact slE_plain _ _ _ _ _ _ | exact .const | (split <;> first | exact slE_plain _ _ _ _ _ _ | exact .const)
  | .ixv .., _ => .sub | .andE .., _ => .bool | .orE .., _ => .bool | .notE .., _ => .un
  | .tru e, h => plain_er e (by simp only [wfE, Bool.and_eq_true] at h; exact h.2)
  | .tBor c, h => plain_er c (by simpa only [wfE] using h)
  | .tAnd .., _ => .bool | .tOr .., _ => .bool | .tNot .., _ => .un | .ife .., _ => .ife | .chain .., _ => .cmp
  | .call .., h => .call fun _ _ _ => .inl (wfE_call h)
  | .borC j f p q es, h => .call fun _ _ _ => .inl (wfE_call (j := j) (f := f) (p := p) (q := q) (by simpa only [wfE] using h))
  | .lc .., _ => .lc
  | .fr e, h => plain_er e (by simp only [wfE, Bool.and_eq_true] at h; exact h.2)
  | .dlit .., _ => .dict
  | .pop o .., _ => o.plain _ _ _ _ _
  | .mut .., _ => .call fun _ _ z => nomatch z
  | .orV .., _ => .bool
theorem erL_len : ∀ es : List ME, (erL es).length = es.length
  | [] => rfl
  | e :: es => by simp [erL, erL_len es]
theorem backTo_any {X : Cx} {pos : Pos} {G : Nms} {pr : List Nat} {sc : Scope} : ∀ es : List ME, wfEL G X.N pr sc es = true → ((backTo pos (starEach (erL es) X.env)).any (·.1)) = false
  | [], _ => rfl
  | e :: es, h => by
    simp only [wfEL, Bool.and_eq_true] at h
    show ((backTo pos (starEach (er e :: erL es) X.env)).any (·.1)) = false
    rw [(plain_er e h.1).star]
    exact backTo_any es h.2
section
variable {G : Nms} {T : Tbl} {cA : Nat → Addr} {pr : List Nat} {k : Nat}
theorem sl_of : ∀ es : List ME, (∀ e ∈ es, SE G T cA pr k e) → SL G T cA pr k es
  | [], _ => fun X W sc ok le h => PA.weak pa_nil fun σ H Q q => tL_nil q
  | e :: es, g => fun X W sc ok le h => by
    simp only [wfEL, Bool.and_eq_true] at h
    exact PA.weak (pa_cons (g e List.mem_cons_self X W sc ok le h.1) (sl_of es (fun e' he => g e' (List.mem_cons_of_mem _ he)) X W sc ok le h.2) (plain_er e h.1).star) fun σ H Q q => tL_cons q
end
end Mn

set_option Elab.async false
set_option maxRecDepth 100000
set_option linter.all false
/-! Mn9: every operation is read as the run says. -/
namespace Mn
open PySem L2
section
variable {G : Nms} {T : Tbl} {cA : Nat → Addr} {pr : List Nat} {k : Nat} {X : Cx} {W : WX} {sc : Scope}
theorem XOk.u1 (ok : XOk G T cA k X W) : X.A.units + 1 < cLine := hu_of ok.room
theorem XOk.u64 (ok : XOk G T cA k X W) : X.A.units + 64 < cLine := ok.room.units
theorem XOk.u65 (ok : XOk G T cA k X W) : X.A.units + 65 < cLine := by have := ok.room.un; omega
theorem wfB_out {x : Str} (ok : XOk G T cA k X W) (le : ScLe sc X.env.scope) (h : wfB G sc x = true) : Gl X x ∧ X.mg x = none ∧ x ≠ "__name__" ∧ (x == ("__debug__" : Str)) = false := by
  unfold wfB okName at h
  simp only [Bool.and_eq_true, Bool.not_eq_true', beq_eq_false_iff_ne] at h
  obtain ⟨⟨h1, h2⟩, ⟨h3, _⟩, h4⟩ := h
  exact ⟨le.glo h1, ok.bl x h2, h4, by simpa using h3⟩
theorem two_of {es : List ME} (h : (es.length == 2) = true) : ∃ a b, es = [a, b] := by
  match es, h with
  | [a, b], _ => exact ⟨a, b, rfl⟩
theorem one_of {es : List ME} (h : (es.length == 1) = true) : ∃ a, es = [a] := by
  match es, h with
  | [a], _ => exact ⟨a, rfl⟩
theorem none_of {es : List ME} (h : (es.length == 0) = true) : es = [] := by
  match es, h with
  | [], _ => rfl
theorem tL_mono {K : PySem.W.Frag} {es : List ME} {σ : St} {H : Hp} {Q Q' : List V → Hp → Prop} (h : tL K T cA W es σ H Q) (k : ∀ v H', Q v H' → Q' v H') : tL K T cA W es σ H Q' := by
  obtain ⟨F, env, fps, ext, s, o, p⟩ := h
  refine ⟨F, env, fps, ext, s, o, ?_⟩
  revert p
  cases evL T es env with
  | ok a => obtain ⟨x, env2⟩ := a; exact fun p F2 H2 fps2 v fp a b c d e => k _ _ (p F2 H2 fps2 v fp a b c d e)
  | exc c e => exact id
  | stuck => exact id
theorem tCB1 {r : List V → Hp → VK → Prop} {op : Op} {kk : Nat} {p q r' : Pos} {a : ME} {σ : St} {H : Hp} {Q : VK} (hr : ∀ x H Q, Pp X.K op [x] H Q → r [x] H Q) (h : tE X.K T cA W (.prim op kk p q r' [a]) σ H Q) :
    tCB r (tCons (tE X.K T cA W a) tNil) σ H Q := tE_mono (tL_one (tE_prim h)) fun x _ h1 => hr x _ _ h1
theorem tCB2 {r : List V → Hp → VK → Prop} {op : Op} {kk : Nat} {p q r' : Pos} {a b : ME} {σ : St} {H : Hp} {Q : VK} (hr : ∀ x y H Q, Pp X.K op [x, y] H Q → r [x, y] H Q) (h : tE X.K T cA W (.prim op kk p q r' [a, b]) σ H Q) :
    tCB r (tCons (tE X.K T cA W a) (tCons (tE X.K T cA W b) tNil)) σ H Q := tE_mono (tL_two (tE_prim h)) fun x _ h1 => tE_mono h1 fun y _ h2 => hr x y _ _ h2
theorem se_add {kk : Nat} {p q r : Pos} {es : List ME} (g : ∀ e ∈ es, SE G T cA pr k e) : SE G T cA pr k (.prim .add kk p q r es) := fun X W sc ok le h => by
  simp only [wfE, Op.wf, Bool.and_eq_true] at h
  obtain ⟨a, b, rfl⟩ := two_of h.1
  have hw := h.2
  simp only [wfEL, Bool.and_eq_true] at hw
  have ha := g a (by simp) X W sc ok le hw.1
  have hb := g b (by simp) X W sc ok le hw.2.1
  exact PE.weak (pe_op op_add ha hb) fun σ H Q h => bin_ok (fun x y H Q => pp_add) h
theorem se_sub {kk : Nat} {p q r : Pos} {es : List ME} (g : ∀ e ∈ es, SE G T cA pr k e) : SE G T cA pr k (.prim .sub kk p q r es) := fun X W sc ok le h => by
  simp only [wfE, Op.wf, Bool.and_eq_true] at h
  obtain ⟨a, b, rfl⟩ := two_of h.1
  have hw := h.2
  simp only [wfEL, Bool.and_eq_true] at hw
  have ha := g a (by simp) X W sc ok le hw.1
  have hb := g b (by simp) X W sc ok le hw.2.1
  exact PE.weak (pe_op op_sub ha hb) fun σ H Q h => bin_ok (fun x y H Q => pp_sub) h
theorem se_mul {kk : Nat} {p q r : Pos} {es : List ME} (g : ∀ e ∈ es, SE G T cA pr k e) : SE G T cA pr k (.prim .mul kk p q r es) := fun X W sc ok le h => by
  simp only [wfE, Op.wf, Bool.and_eq_true] at h
  obtain ⟨a, b, rfl⟩ := two_of h.1
  have hw := h.2
  simp only [wfEL, Bool.and_eq_true] at hw
  have ha := g a (by simp) X W sc ok le hw.1
  have hb := g b (by simp) X W sc ok le hw.2.1
  exact PE.weak (pe_op op_mulW ha hb) fun σ H Q h => bin_ok (fun x y H Q => pp_mul) h
theorem se_fdiv {kk : Nat} {p q r : Pos} {es : List ME} (g : ∀ e ∈ es, SE G T cA pr k e) : SE G T cA pr k (.prim .fdiv kk p q r es) := fun X W sc ok le h => by
  simp only [wfE, Op.wf, Bool.and_eq_true] at h
  obtain ⟨a, b, rfl⟩ := two_of h.1
  have hw := h.2
  simp only [wfEL, Bool.and_eq_true] at hw
  have ha := g a (by simp) X W sc ok le hw.1
  have hb := g b (by simp) X W sc ok le hw.2.1
  exact PE.weak (pe_op op_fdivW ha hb) fun σ H Q h => bin_ok (fun x y H Q => pp_fdiv) h
theorem se_mod {kk : Nat} {p q r : Pos} {es : List ME} (g : ∀ e ∈ es, SE G T cA pr k e) : SE G T cA pr k (.prim .mod kk p q r es) := fun X W sc ok le h => by
  simp only [wfE, Op.wf, Bool.and_eq_true] at h
  obtain ⟨a, b, rfl⟩ := two_of h.1
  have hw := h.2
  simp only [wfEL, Bool.and_eq_true] at hw
  have ha := g a (by simp) X W sc ok le hw.1
  have hb := g b (by simp) X W sc ok le hw.2.1
  exact PE.weak (pe_op op_mod ha hb) fun σ H Q h => bin_ok (fun x y H Q => pp_mod) h
theorem se_pow {kk : Nat} {p q r : Pos} {es : List ME} (g : ∀ e ∈ es, SE G T cA pr k e) : SE G T cA pr k (.prim .pow kk p q r es) := fun X W sc ok le h => by
  simp only [wfE, Op.wf, Bool.and_eq_true] at h
  obtain ⟨a, b, rfl⟩ := two_of h.1
  have hw := h.2
  simp only [wfEL, Bool.and_eq_true] at hw
  have ha := g a (by simp) X W sc ok le hw.1
  have hb := g b (by simp) X W sc ok le hw.2.1
  exact PE.weak (pe_op op_powW ha hb) fun σ H Q h => bin_ok (fun x y H Q => pp_pow) h
theorem se_addS {kk : Nat} {p q r : Pos} {es : List ME} (g : ∀ e ∈ es, SE G T cA pr k e) : SE G T cA pr k (.prim .addS kk p q r es) := fun X W sc ok le h => by
  simp only [wfE, Op.wf, Bool.and_eq_true] at h
  obtain ⟨a, b, rfl⟩ := two_of h.1
  have hw := h.2
  simp only [wfEL, Bool.and_eq_true] at hw
  have ha := g a (by simp) X W sc ok le hw.1
  have hb := g b (by simp) X W sc ok le hw.2.1
  exact PE.weak (pe_op op_add_str ha hb) fun σ H Q h => bin_ok (fun x y H Q => pp_addS) h
theorem se_addL {kk : Nat} {p q r : Pos} {es : List ME} (g : ∀ e ∈ es, SE G T cA pr k e) : SE G T cA pr k (.prim .addL kk p q r es) := fun X W sc ok le h => by
  simp only [wfE, Op.wf, Bool.and_eq_true] at h
  obtain ⟨a, b, rfl⟩ := two_of h.1
  have hw := h.2
  simp only [wfEL, Bool.and_eq_true] at hw
  have ha := g a (by simp) X W sc ok le hw.1
  have hb := g b (by simp) X W sc ok le hw.2.1
  exact PE.weak (pe_op op_cat ha hb) fun σ H Q h => bin_ok (fun x y H Q => pp_addL) h
theorem se_addT {kk : Nat} {p q r : Pos} {es : List ME} (g : ∀ e ∈ es, SE G T cA pr k e) : SE G T cA pr k (.prim .addT kk p q r es) := fun X W sc ok le h => by
  simp only [wfE, Op.wf, Bool.and_eq_true] at h
  obtain ⟨a, b, rfl⟩ := two_of h.1
  have hw := h.2
  simp only [wfEL, Bool.and_eq_true] at hw
  have ha := g a (by simp) X W sc ok le hw.1
  have hb := g b (by simp) X W sc ok le hw.2.1
  exact PE.weak (pe_op op_catA ha hb) fun σ H Q h => bin_ok (fun x y H Q => pp_addT) h
theorem se_lt {kk : Nat} {p q r : Pos} {es : List ME} (g : ∀ e ∈ es, SE G T cA pr k e) : SE G T cA pr k (.prim .lt kk p q r es) := fun X W sc ok le h => by
  simp only [wfE, Op.wf, Bool.and_eq_true] at h
  obtain ⟨a, b, rfl⟩ := two_of h.1
  have hw := h.2
  simp only [wfEL, Bool.and_eq_true] at hw
  have ha := g a (by simp) X W sc ok le hw.1
  have hb := g b (by simp) X W sc ok le hw.2.1
  exact PE.weak (pe_cmpR op_lt ha hb (plain_er b hw.2.1).mark) fun σ H Q h => bin_ok (fun x y H Q => pp_lt) h
theorem se_le {kk : Nat} {p q r : Pos} {es : List ME} (g : ∀ e ∈ es, SE G T cA pr k e) : SE G T cA pr k (.prim .le kk p q r es) := fun X W sc ok le h => by
  simp only [wfE, Op.wf, Bool.and_eq_true] at h
  obtain ⟨a, b, rfl⟩ := two_of h.1
  have hw := h.2
  simp only [wfEL, Bool.and_eq_true] at hw
  have ha := g a (by simp) X W sc ok le hw.1
  have hb := g b (by simp) X W sc ok le hw.2.1
  exact PE.weak (pe_cmpR op_le ha hb (plain_er b hw.2.1).mark) fun σ H Q h => bin_ok (fun x y H Q => pp_le) h
theorem se_gt {kk : Nat} {p q r : Pos} {es : List ME} (g : ∀ e ∈ es, SE G T cA pr k e) : SE G T cA pr k (.prim .gt kk p q r es) := fun X W sc ok le h => by
  simp only [wfE, Op.wf, Bool.and_eq_true] at h
  obtain ⟨a, b, rfl⟩ := two_of h.1
  have hw := h.2
  simp only [wfEL, Bool.and_eq_true] at hw
  have ha := g a (by simp) X W sc ok le hw.1
  have hb := g b (by simp) X W sc ok le hw.2.1
  exact PE.weak (pe_cmpR op_gt ha hb (plain_er b hw.2.1).mark) fun σ H Q h => bin_ok (fun x y H Q => pp_gt) h
theorem se_ge {kk : Nat} {p q r : Pos} {es : List ME} (g : ∀ e ∈ es, SE G T cA pr k e) : SE G T cA pr k (.prim .ge kk p q r es) := fun X W sc ok le h => by
  simp only [wfE, Op.wf, Bool.and_eq_true] at h
  obtain ⟨a, b, rfl⟩ := two_of h.1
  have hw := h.2
  simp only [wfEL, Bool.and_eq_true] at hw
  have ha := g a (by simp) X W sc ok le hw.1
  have hb := g b (by simp) X W sc ok le hw.2.1
  exact PE.weak (pe_cmpR op_ge ha hb (plain_er b hw.2.1).mark) fun σ H Q h => bin_ok (fun x y H Q => pp_ge) h
theorem se_ltS {kk : Nat} {p q r : Pos} {es : List ME} (g : ∀ e ∈ es, SE G T cA pr k e) : SE G T cA pr k (.prim .ltS kk p q r es) := fun X W sc ok le h => by
  simp only [wfE, Op.wf, Bool.and_eq_true] at h
  obtain ⟨a, b, rfl⟩ := two_of h.1
  have hw := h.2
  simp only [wfEL, Bool.and_eq_true] at hw
  have ha := g a (by simp) X W sc ok le hw.1
  have hb := g b (by simp) X W sc ok le hw.2.1
  exact PE.weak (pe_cmpR op_lt_str ha hb (plain_er b hw.2.1).mark) fun σ H Q h => bin_ok (fun x y H Q => pp_ltS) h
theorem se_eq {kk : Nat} {p q r : Pos} {es : List ME} (g : ∀ e ∈ es, SE G T cA pr k e) : SE G T cA pr k (.prim .eq kk p q r es) := fun X W sc ok le h => by
  simp only [wfE, Op.wf, Bool.and_eq_true] at h
  obtain ⟨a, b, rfl⟩ := two_of h.1
  have hw := h.2
  simp only [wfEL, Bool.and_eq_true] at hw
  have ha := g a (by simp) X W sc ok le hw.1
  have hb := g b (by simp) X W sc ok le hw.2.1
  exact PE.weak (pe_cmpR (op_eqD ok.u64) ha hb (plain_er b hw.2.1).mark) fun σ H Q h => bin_ok (fun x y H Q => pp_eq) h
theorem se_ne {kk : Nat} {p q r : Pos} {es : List ME} (g : ∀ e ∈ es, SE G T cA pr k e) : SE G T cA pr k (.prim .ne kk p q r es) := fun X W sc ok le h => by
  simp only [wfE, Op.wf, Bool.and_eq_true] at h
  obtain ⟨a, b, rfl⟩ := two_of h.1
  have hw := h.2
  simp only [wfEL, Bool.and_eq_true] at hw
  have ha := g a (by simp) X W sc ok le hw.1
  have hb := g b (by simp) X W sc ok le hw.2.1
  exact PE.weak (pe_cmpR (op_neD ok.u64) ha hb (plain_er b hw.2.1).mark) fun σ H Q h => bin_ok (fun x y H Q => pp_ne) h
theorem se_inS {kk : Nat} {p q r : Pos} {es : List ME} (g : ∀ e ∈ es, SE G T cA pr k e) : SE G T cA pr k (.prim .inS kk p q r es) := fun X W sc ok le h => by
  simp only [wfE, Op.wf, Bool.and_eq_true] at h
  obtain ⟨a, b, rfl⟩ := two_of h.1
  have hw := h.2
  simp only [wfEL, Bool.and_eq_true] at hw
  have ha := g a (by simp) X W sc ok le hw.1
  have hb := g b (by simp) X W sc ok le hw.2.1
  exact PE.weak (pe_cmpR op_in_sign ha hb (plain_er b hw.2.1).mark) fun σ H Q h => bin_ok (fun x y H Q => pp_inS) h
theorem se_notinS {kk : Nat} {p q r : Pos} {es : List ME} (g : ∀ e ∈ es, SE G T cA pr k e) : SE G T cA pr k (.prim .notinS kk p q r es) := fun X W sc ok le h => by
  simp only [wfE, Op.wf, Bool.and_eq_true] at h
  obtain ⟨a, b, rfl⟩ := two_of h.1
  have hw := h.2
  simp only [wfEL, Bool.and_eq_true] at hw
  have ha := g a (by simp) X W sc ok le hw.1
  have hb := g b (by simp) X W sc ok le hw.2.1
  exact PE.weak (pe_cmpR op_notIn_sign ha hb (plain_er b hw.2.1).mark) fun σ H Q h => bin_ok (fun x y H Q => pp_notinS) h
theorem se_inL {kk : Nat} {p q r : Pos} {es : List ME} (g : ∀ e ∈ es, SE G T cA pr k e) : SE G T cA pr k (.prim .inL kk p q r es) := fun X W sc ok le h => by
  simp only [wfE, Op.wf, Bool.and_eq_true] at h
  obtain ⟨a, b, rfl⟩ := two_of h.1
  have hw := h.2
  simp only [wfEL, Bool.and_eq_true] at hw
  have ha := g a (by simp) X W sc ok le hw.1
  have hb := g b (by simp) X W sc ok le hw.2.1
  exact PE.weak (pe_cmpR (op_inD ok.u65) ha hb (plain_er b hw.2.1).mark) fun σ H Q h => bin_ok (fun x y H Q => pp_inL) h
theorem se_notinL {kk : Nat} {p q r : Pos} {es : List ME} (g : ∀ e ∈ es, SE G T cA pr k e) : SE G T cA pr k (.prim .notinL kk p q r es) := fun X W sc ok le h => by
  simp only [wfE, Op.wf, Bool.and_eq_true] at h
  obtain ⟨a, b, rfl⟩ := two_of h.1
  have hw := h.2
  simp only [wfEL, Bool.and_eq_true] at hw
  have ha := g a (by simp) X W sc ok le hw.1
  have hb := g b (by simp) X W sc ok le hw.2.1
  exact PE.weak (pe_cmpR (op_notInD ok.u65) ha hb (plain_er b hw.2.1).mark) fun σ H Q h => bin_ok (fun x y H Q => pp_notinL) h
theorem se_inT {kk : Nat} {p q r : Pos} {es : List ME} (g : ∀ e ∈ es, SE G T cA pr k e) : SE G T cA pr k (.prim .inT kk p q r es) := fun X W sc ok le h => by
  simp only [wfE, Op.wf, Bool.and_eq_true] at h
  obtain ⟨a, b, rfl⟩ := two_of h.1
  have hw := h.2
  simp only [wfEL, Bool.and_eq_true] at hw
  have ha := g a (by simp) X W sc ok le hw.1
  have hb := g b (by simp) X W sc ok le hw.2.1
  exact PE.weak (pe_cmpR op_in_seq ha hb (plain_er b hw.2.1).mark) fun σ H Q h => bin_ok (fun x y H Q => pp_inT) h
theorem se_notinT {kk : Nat} {p q r : Pos} {es : List ME} (g : ∀ e ∈ es, SE G T cA pr k e) : SE G T cA pr k (.prim .notinT kk p q r es) := fun X W sc ok le h => by
  simp only [wfE, Op.wf, Bool.and_eq_true] at h
  obtain ⟨a, b, rfl⟩ := two_of h.1
  have hw := h.2
  simp only [wfEL, Bool.and_eq_true] at hw
  have ha := g a (by simp) X W sc ok le hw.1
  have hb := g b (by simp) X W sc ok le hw.2.1
  exact PE.weak (pe_cmpR op_notIn_seq ha hb (plain_er b hw.2.1).mark) fun σ H Q h => bin_ok (fun x y H Q => pp_notinT) h
theorem se_inD {kk : Nat} {p q r : Pos} {es : List ME} (g : ∀ e ∈ es, SE G T cA pr k e) : SE G T cA pr k (.prim .inD kk p q r es) := fun X W sc ok le h => by
  simp only [wfE, Op.wf, Bool.and_eq_true] at h
  obtain ⟨a, b, rfl⟩ := two_of h.1
  have hw := h.2
  simp only [wfEL, Bool.and_eq_true] at hw
  have ha := g a (by simp) X W sc ok le hw.1
  have hb := g b (by simp) X W sc ok le hw.2.1
  exact PE.weak (pe_cmp (pc_din ok.u1 ha hb) (plain_er b hw.2.1).mark) fun σ H Q h => tE_mono (tL_two (tE_prim h)) fun x _ h1 => tE_mono h1 fun y _ h2 => pp_inD h2
theorem se_notinD {kk : Nat} {p q r : Pos} {es : List ME} (g : ∀ e ∈ es, SE G T cA pr k e) : SE G T cA pr k (.prim .notinD kk p q r es) := fun X W sc ok le h => by
  simp only [wfE, Op.wf, Bool.and_eq_true] at h
  obtain ⟨a, b, rfl⟩ := two_of h.1
  have hw := h.2
  simp only [wfEL, Bool.and_eq_true] at hw
  have ha := g a (by simp) X W sc ok le hw.1
  have hb := g b (by simp) X W sc ok le hw.2.1
  exact PE.weak (pe_cmp (pc_dnotin ok.u1 ha hb) (plain_er b hw.2.1).mark) fun σ H Q h => tE_mono (tL_two (tE_prim h)) fun x _ h1 => tE_mono h1 fun y _ h2 => pp_notinD h2
theorem se_ix {kk : Nat} {p q r : Pos} {es : List ME} (g : ∀ e ∈ es, SE G T cA pr k e) : SE G T cA pr k (.prim .ix kk p q r es) := fun X W sc ok le h => by
  simp only [wfE, Op.wf, Bool.and_eq_true] at h
  obtain ⟨a, b, rfl⟩ := two_of h.1
  have hw := h.2
  simp only [wfEL, Bool.and_eq_true] at hw
  have ha := g a (by simp) X W sc ok le hw.1
  have hb := g b (by simp) X W sc ok le hw.2.1
  exact PE.weak (pe_ix ix_seq ha hb (plain_er b hw.2.1).ix) fun σ H Q h => bin_ok (fun x y H Q => pp_ix) h
theorem se_dix {kk : Nat} {p q r : Pos} {es : List ME} (g : ∀ e ∈ es, SE G T cA pr k e) : SE G T cA pr k (.prim .dix kk p q r es) := fun X W sc ok le h => by
  simp only [wfE, Op.wf, Bool.and_eq_true] at h
  obtain ⟨a, b, rfl⟩ := two_of h.1
  have hw := h.2
  simp only [wfEL, Bool.and_eq_true] at hw
  have ha := g a (by simp) X W sc ok le hw.1
  have hb := g b (by simp) X W sc ok le hw.2.1
  exact PE.weak (pe_dget ok.u1 ha hb (plain_er b hw.2.1).noSl) fun σ H Q h => tE_mono (tL_two (tE_prim h)) fun x _ h1 => tE_mono h1 fun y _ h2 => pp_dix h2
theorem se_isN {kk : Nat} {p q r : Pos} {es : List ME} (g : ∀ e ∈ es, SE G T cA pr k e) : SE G T cA pr k (.prim .isN kk p q r es) := fun X W sc ok le h => by
  simp only [wfE, Op.wf, Bool.and_eq_true] at h
  obtain ⟨a, rfl⟩ := one_of h.1
  have hw := h.2
  simp only [wfEL, Bool.and_eq_true] at hw
  have ha := g a (by simp) X W sc ok le hw.1
  exact PE.weak (pe_cmp (pc_isN ha)) fun σ H Q h => tE_mono (tL_one (tE_prim h)) fun x _ h1 => pp_isN h1
theorem se_notN {kk : Nat} {p q r : Pos} {es : List ME} (g : ∀ e ∈ es, SE G T cA pr k e) : SE G T cA pr k (.prim .notN kk p q r es) := fun X W sc ok le h => by
  simp only [wfE, Op.wf, Bool.and_eq_true] at h
  obtain ⟨a, rfl⟩ := one_of h.1
  have hw := h.2
  simp only [wfEL, Bool.and_eq_true] at hw
  have ha := g a (by simp) X W sc ok le hw.1
  exact PE.weak (pe_cmp (pc_notN ha)) fun σ H Q h => tE_mono (tL_one (tE_prim h)) fun x _ h1 => pp_notN h1
theorem se_neg {kk : Nat} {p q r : Pos} {es : List ME} (g : ∀ e ∈ es, SE G T cA pr k e) : SE G T cA pr k (.prim .neg kk p q r es) := fun X W sc ok le h => by
  simp only [wfE, Op.wf, Bool.and_eq_true] at h
  obtain ⟨a, rfl⟩ := one_of h.1
  have hw := h.2
  simp only [wfEL, Bool.and_eq_true] at hw
  have ha := g a (by simp) X W sc ok le hw.1
  exact PE.weak (pe_un un_neg ha) fun σ H Q h => un_ok (fun x H Q => pp_neg) h
theorem se_tup {kk : Nat} {p q r : Pos} {es : List ME} (g : ∀ e ∈ es, SE G T cA pr k e) : SE G T cA pr k (.prim .tup kk p q r es) := fun X W sc ok le h => by
  simp only [wfE, Op.wf, Bool.and_eq_true] at h
  exact PE.weak (pe_tup (sl_of es g X W sc ok le h.2)) fun σ H Q h => tL_mono (tE_prim h) fun xs _ h1 => pp_tup h1
theorem se_lst {kk : Nat} {p q r : Pos} {es : List ME} (g : ∀ e ∈ es, SE G T cA pr k e) : SE G T cA pr k (.prim .lst kk p q r es) := fun X W sc ok le h => by
  simp only [wfE, Op.wf, Bool.and_eq_true] at h
  exact PE.weak (pe_lst (sl_of es g X W sc ok le h.2)) fun σ H Q h => tL_mono (tE_prim h) fun xs _ h1 => pp_lst h1
theorem se_dnK {kk : Nat} {p q r : Pos} {es : List ME} (g : ∀ e ∈ es, SE G T cA pr k e) : SE G T cA pr k (.prim .dnK kk p q r es) := fun X W sc ok le h => by
  simp only [wfE, Op.wf, Bool.and_eq_true] at h
  obtain rfl := none_of h.1
  exact PE.weak pe_dnewK fun σ H Q h => pp_dnK (tL_nil (tE_prim h))
theorem se_dnT {kk : Nat} {p q r : Pos} {es : List ME} (g : ∀ e ∈ es, SE G T cA pr k e) : SE G T cA pr k (.prim .dnT kk p q r es) := fun X W sc ok le h => by
  simp only [wfE, Op.wf, Bool.and_eq_true] at h
  obtain rfl := none_of h.1
  exact PE.weak pe_dnewT fun σ H Q h => pp_dnT (tL_nil (tE_prim h))
theorem se_len {kk : Nat} {p q r : Pos} {es : List ME} (g : ∀ e ∈ es, SE G T cA pr k e) : SE G T cA pr k (.prim .len kk p q r es) := fun X W sc ok le h => by
  simp only [wfE, Op.wf, Bool.and_eq_true] at h
  obtain ⟨⟨hn, hb0⟩, hl⟩ := h
  have h := And.intro hn hl
  obtain ⟨a, rfl⟩ := one_of h.1
  have hw := h.2
  simp only [wfEL, Bool.and_eq_true] at hw
  have ha := g a (by simp) X W sc ok le hw.1
  obtain ⟨b1, b2, b3, b4⟩ := wfB_out ok le hb0
  exact PE.weak (pe_callB call_len b1 b2 (by decide +kernel) (pa_cons ha pa_nil (plain_er a hw.1).star) b3 b4 (plain_er a hw.1).star rfl) fun σ H Q h => tCB1 (fun x H Q => pp_len) h
theorem se_lenD {kk : Nat} {p q r : Pos} {es : List ME} (g : ∀ e ∈ es, SE G T cA pr k e) : SE G T cA pr k (.prim .lenD kk p q r es) := fun X W sc ok le h => by
  simp only [wfE, Op.wf, Bool.and_eq_true] at h
  obtain ⟨⟨hn, hb0⟩, hl⟩ := h
  have h := And.intro hn hl
  obtain ⟨a, rfl⟩ := one_of h.1
  have hw := h.2
  simp only [wfEL, Bool.and_eq_true] at hw
  have ha := g a (by simp) X W sc ok le hw.1
  obtain ⟨b1, b2, b3, b4⟩ := wfB_out ok le hb0
  exact PE.weak (pe_callB (CallR.or call_lenD call_len_dT) b1 b2 (by decide +kernel) (pa_cons ha pa_nil (plain_er a hw.1).star) b3 b4 (plain_er a hw.1).star rfl) fun σ H Q h => tCB1 (fun x H Q => pp_lenD) h
theorem se_max2 {kk : Nat} {p q r : Pos} {es : List ME} (g : ∀ e ∈ es, SE G T cA pr k e) : SE G T cA pr k (.prim .max2 kk p q r es) := fun X W sc ok le h => by
  simp only [wfE, Op.wf, Bool.and_eq_true] at h
  obtain ⟨⟨hn, hb0⟩, hl⟩ := h
  have h := And.intro hn hl
  obtain ⟨a, b, rfl⟩ := two_of h.1
  have hw := h.2
  simp only [wfEL, Bool.and_eq_true] at hw
  have ha := g a (by simp) X W sc ok le hw.1
  have hb := g b (by simp) X W sc ok le hw.2.1
  obtain ⟨b1, b2, b3, b4⟩ := wfB_out ok le hb0
  exact PE.weak (pe_callB (call_max2 ok.calm) b1 b2 (by decide +kernel) (pa_cons ha (pa_cons hb pa_nil (plain_er b hw.2.1).star) (plain_er a hw.1).star) b3 b4 (plain_er a hw.1).star (backTo_any (X := X) (G := G) (pr := pr) (sc := sc) [b] (by simp only [wfEL, hw.2.1]; rfl))) fun σ H Q h => tCB2 (fun x y H Q => pp_max2) h
theorem se_min2 {kk : Nat} {p q r : Pos} {es : List ME} (g : ∀ e ∈ es, SE G T cA pr k e) : SE G T cA pr k (.prim .min2 kk p q r es) := fun X W sc ok le h => by
  simp only [wfE, Op.wf, Bool.and_eq_true] at h
  obtain ⟨⟨hn, hb0⟩, hl⟩ := h
  have h := And.intro hn hl
  obtain ⟨a, b, rfl⟩ := two_of h.1
  have hw := h.2
  simp only [wfEL, Bool.and_eq_true] at hw
  have ha := g a (by simp) X W sc ok le hw.1
  have hb := g b (by simp) X W sc ok le hw.2.1
  obtain ⟨b1, b2, b3, b4⟩ := wfB_out ok le hb0
  exact PE.weak (pe_callB (call_min2 ok.calm) b1 b2 (by decide +kernel) (pa_cons ha (pa_cons hb pa_nil (plain_er b hw.2.1).star) (plain_er a hw.1).star) b3 b4 (plain_er a hw.1).star (backTo_any (X := X) (G := G) (pr := pr) (sc := sc) [b] (by simp only [wfEL, hw.2.1]; rfl))) fun σ H Q h => tCB2 (fun x y H Q => pp_min2) h
theorem se_intB {kk : Nat} {p q r : Pos} {es : List ME} (g : ∀ e ∈ es, SE G T cA pr k e) : SE G T cA pr k (.prim .intB kk p q r es) := fun X W sc ok le h => by
  simp only [wfE, Op.wf, Bool.and_eq_true] at h
  obtain ⟨⟨hn, hb0⟩, hl⟩ := h
  have h := And.intro hn hl
  obtain ⟨a, rfl⟩ := one_of h.1
  have hw := h.2
  simp only [wfEL, Bool.and_eq_true] at hw
  have ha := g a (by simp) X W sc ok le hw.1
  obtain ⟨b1, b2, b3, b4⟩ := wfB_out ok le hb0
  exact PE.weak (pe_callTy call_int1 b1 b2 (by decide +kernel) (pa_cons ha pa_nil (plain_er a hw.1).star) b3 b4 (plain_er a hw.1).star rfl) fun σ H Q h => tCB1 (fun x H Q => pp_intB) h
theorem se_strI {kk : Nat} {p q r : Pos} {es : List ME} (g : ∀ e ∈ es, SE G T cA pr k e) : SE G T cA pr k (.prim .strI kk p q r es) := fun X W sc ok le h => by
  simp only [wfE, Op.wf, Bool.and_eq_true] at h
  obtain ⟨⟨hn, hb0⟩, hl⟩ := h
  have h := And.intro hn hl
  obtain ⟨a, rfl⟩ := one_of h.1
  have hw := h.2
  simp only [wfEL, Bool.and_eq_true] at hw
  have ha := g a (by simp) X W sc ok le hw.1
  obtain ⟨b1, b2, b3, b4⟩ := wfB_out ok le hb0
  exact PE.weak (pe_callTy call_str_int b1 b2 (by decide +kernel) (pa_cons ha pa_nil (plain_er a hw.1).star) b3 b4 (plain_er a hw.1).star rfl) fun σ H Q h => tCB1 (fun x H Q => pp_strI) h
theorem se_listOf {kk : Nat} {p q r : Pos} {es : List ME} (g : ∀ e ∈ es, SE G T cA pr k e) : SE G T cA pr k (.prim .listOf kk p q r es) := fun X W sc ok le h => by
  simp only [wfE, Op.wf, Bool.and_eq_true] at h
  obtain ⟨⟨hn, hb0⟩, hl⟩ := h
  have h := And.intro hn hl
  obtain ⟨a, rfl⟩ := one_of h.1
  have hw := h.2
  simp only [wfEL, Bool.and_eq_true] at hw
  have ha := g a (by simp) X W sc ok le hw.1
  obtain ⟨b1, b2, b3, b4⟩ := wfB_out ok le hb0
  exact PE.weak (pe_callTy call_list_of b1 b2 (by decide +kernel) (pa_cons ha pa_nil (plain_er a hw.1).star) b3 b4 (plain_er a hw.1).star rfl) fun σ H Q h => tCB1 (fun x H Q => pp_listOf) h
theorem se_listD {kk : Nat} {p q r : Pos} {es : List ME} (g : ∀ e ∈ es, SE G T cA pr k e) : SE G T cA pr k (.prim .listD kk p q r es) := fun X W sc ok le h => by
  simp only [wfE, Op.wf, Bool.and_eq_true] at h
  obtain ⟨⟨hn, hb0⟩, hl⟩ := h
  have h := And.intro hn hl
  obtain ⟨a, rfl⟩ := one_of h.1
  have hw := h.2
  simp only [wfEL, Bool.and_eq_true] at hw
  have ha := g a (by simp) X W sc ok le hw.1
  obtain ⟨b1, b2, b3, b4⟩ := wfB_out ok le hb0
  exact PE.weak (pe_callTy (call_listD ok.calm) b1 b2 (by decide +kernel) (pa_cons ha pa_nil (plain_er a hw.1).star) b3 b4 (plain_er a hw.1).star rfl) fun σ H Q h => tCB1 (fun x H Q => pp_listD) h
theorem se_tupOf {kk : Nat} {p q r : Pos} {es : List ME} (g : ∀ e ∈ es, SE G T cA pr k e) : SE G T cA pr k (.prim .tupOf kk p q r es) := fun X W sc ok le h => by
  simp only [wfE, Op.wf, Bool.and_eq_true] at h
  obtain ⟨⟨hn, hb0⟩, hl⟩ := h
  have h := And.intro hn hl
  obtain ⟨a, rfl⟩ := one_of h.1
  have hw := h.2
  simp only [wfEL, Bool.and_eq_true] at hw
  have ha := g a (by simp) X W sc ok le hw.1
  obtain ⟨b1, b2, b3, b4⟩ := wfB_out ok le hb0
  exact PE.weak (pe_callTy call_tuple_of b1 b2 (by decide +kernel) (pa_cons ha pa_nil (plain_er a hw.1).star) b3 b4 (plain_er a hw.1).star rfl) fun σ H Q h => tCB1 (fun x H Q => pp_tupOf) h
theorem se_all {kk : Nat} {p q r : Pos} {es : List ME} (g : ∀ e ∈ es, SE G T cA pr k e) : SE G T cA pr k (.prim .all kk p q r es) := fun X W sc ok le h => by
  simp only [wfE, Op.wf, Bool.and_eq_true] at h
  obtain ⟨⟨hn, hb0⟩, hl⟩ := h
  have h := And.intro hn hl
  obtain ⟨a, rfl⟩ := one_of h.1
  have hw := h.2
  simp only [wfEL, Bool.and_eq_true] at hw
  have ha := g a (by simp) X W sc ok le hw.1
  obtain ⟨b1, b2, b3, b4⟩ := wfB_out ok le hb0
  exact PE.weak (pe_callB (cr_all ok.calm) b1 b2 (by decide +kernel) (pa_cons ha pa_nil (plain_er a hw.1).star) b3 b4 (plain_er a hw.1).star rfl) fun σ H Q h => tCB1 (fun x H Q => pp_all) h
theorem se_any {kk : Nat} {p q r : Pos} {es : List ME} (g : ∀ e ∈ es, SE G T cA pr k e) : SE G T cA pr k (.prim .any kk p q r es) := fun X W sc ok le h => by
  simp only [wfE, Op.wf, Bool.and_eq_true] at h
  obtain ⟨⟨hn, hb0⟩, hl⟩ := h
  have h := And.intro hn hl
  obtain ⟨a, rfl⟩ := one_of h.1
  have hw := h.2
  simp only [wfEL, Bool.and_eq_true] at hw
  have ha := g a (by simp) X W sc ok le hw.1
  obtain ⟨b1, b2, b3, b4⟩ := wfB_out ok le hb0
  exact PE.weak (pe_callB (cr_any ok.calm) b1 b2 (by decide +kernel) (pa_cons ha pa_nil (plain_er a hw.1).star) b3 b4 (plain_er a hw.1).star rfl) fun σ H Q h => tCB1 (fun x H Q => pp_any) h

theorem boot_ty {ty : String} (h : ty ∈ tys) : bootBuiltins (Str.ofString ty) = some (.type ty) := by
  have := boot_tys
  rw [List.all_eq_true] at this
  exact of_decide_eq_true (this ty h)
theorem se_isi {ty : String} {kk : Nat} {p q r : Pos} {es : List ME} (g : ∀ e ∈ es, SE G T cA pr k e) : SE G T cA pr k (.prim (.isi ty) kk p q r es) := fun X W sc ok le h => by
  simp only [wfE, Op.wf, Bool.and_eq_true] at h
  obtain ⟨⟨⟨⟨hn, hb0⟩, hb1⟩, hty⟩, hl⟩ := h
  have h := And.intro hn hl
  have hty : ty ∈ tys := by simpa [tys, or_assoc] using hty
  obtain ⟨a, rfl⟩ := one_of h.1
  have hw := h.2
  simp only [wfEL, Bool.and_eq_true] at hw
  have ha := g a (by simp) X W sc ok le hw.1
  obtain ⟨b1, b2, b3, b4⟩ := wfB_out ok le hb0
  obtain ⟨c1, c2, c3, c4⟩ := wfB_out ok le hb1
  have hT : PE X (.Name (Str.ofString ty) r) (tC (.ty ty)) := pe_bltn c1 c2 (boot_ty hty) rfl c3 c4
  refine PE.weak (pe_callB call_isi b1 b2 (by decide +kernel) (pa_cons ha (pa_cons hT pa_nil rfl) (plain_er a hw.1).star) b3 b4 (plain_er a hw.1).star rfl) fun σ H Q h => ?_
  exact tE_mono (tL_one (tE_prim h)) fun x _ h1 => pp_isi hty h1
theorem PE.or {X : Cx} {e : Expr} {t t' : TE} (h : PE X e t) (h' : PE X e t') : PE X e (fun σ H Q => t σ H Q ∨ t' σ H Q) := ⟨fun pins s σ H Q I q => q.elim (h.run pins s σ H Q I) (h'.run pins s σ H Q I)⟩
theorem er_fam {k : Nat} {p q r : Pos} {es : List Expr} (a : Op) (h : a.fam ≠ 0) : a.er k p q r es = famEr a.fam p q es := by
  cases a <;> first | (exact absurd rfl h) | (rcases es with _ | ⟨x, _ | ⟨y, _ | _⟩⟩ <;> rfl)
theorem alt_split {K : PySem.W.Frag} {T : Tbl} {cA : Nat → Addr} {W : WX} {a b : Op} {kk : Nat} {p q r : Pos} {es : List ME} {σ : St} {H : Hp} {Q : VK} (h : tE K T cA W (.prim (.alt a b) kk p q r es) σ H Q) : tE K T cA W (.prim a kk p q r es) σ H Q ∨ tE K T cA W (.prim b kk p q r es) σ H Q := by
  obtain ⟨F, env, fps, ext, s, o, m⟩ := h
  simp only [evE] at m
  cases e : evL T es env with
  | stuck => rw [e] at m; exact m.elim
  | exc c env1 =>
    refine .inl ⟨F, env, fps, ext, s, o, ?_⟩
    simp only [evE]
    rw [e] at m ⊢
    exact m
  | ok y =>
    cases ea : a.sem y.1 with
    | some z =>
      refine .inl ⟨F, env, fps, ext, s, o, ?_⟩
      simp only [evE]
      rw [e] at m ⊢
      simp only [R.bind_ok, Op.sem, s_alt, ea] at m ⊢
      exact m
    | none =>
      refine .inr ⟨F, env, fps, ext, s, o, ?_⟩
      simp only [evE]
      rw [e] at m ⊢
      simp only [R.bind_ok, Op.sem, s_alt, ea] at m ⊢
      exact m
theorem se_alt {a b : Op} {kk : Nat} {p q r : Pos} {es : List ME} (ga : SE G T cA pr k (.prim a kk p q r es)) (gb : SE G T cA pr k (.prim b kk p q r es)) : SE G T cA pr k (.prim (.alt a b) kk p q r es) := fun X W sc ok le h => by
  simp only [wfE, Op.wf, Bool.and_eq_true, beq_iff_eq, bne_iff_ne] at h
  obtain ⟨⟨⟨⟨h1, h2⟩, h3⟩, h4⟩, h5⟩ := h
  have pa := ga X W sc ok le (by simp only [wfE, Bool.and_eq_true]; exact ⟨h3, h5⟩)
  have pb := gb X W sc ok le (by simp only [wfE, Bool.and_eq_true]; exact ⟨h4, h5⟩)
  simp only [er] at pa pb ⊢
  rw [er_fam a h2] at pa
  rw [er_fam b (h1 ▸ h2), ← h1] at pb
  exact PE.weak (PE.or pa pb) fun σ H Q q => alt_split q
theorem se_prim {op : Op} {kk : Nat} {p q r : Pos} {es : List ME} (g : ∀ e ∈ es, SE G T cA pr k e) : SE G T cA pr k (.prim op kk p q r es) := by
  induction op
  case alt a b iha ihb => exact se_alt iha ihb
  case add => exact se_add g
  case sub => exact se_sub g
  case mul => exact se_mul g
  case fdiv => exact se_fdiv g
  case mod => exact se_mod g
  case pow => exact se_pow g
  case addS => exact se_addS g
  case addL => exact se_addL g
  case addT => exact se_addT g
  case lt => exact se_lt g
  case le => exact se_le g
  case gt => exact se_gt g
  case ge => exact se_ge g
  case ltS => exact se_ltS g
  case eq => exact se_eq g
  case ne => exact se_ne g
  case inS => exact se_inS g
  case notinS => exact se_notinS g
  case inL => exact se_inL g
  case notinL => exact se_notinL g
  case inT => exact se_inT g
  case notinT => exact se_notinT g
  case inD => exact se_inD g
  case notinD => exact se_notinD g
  case isN => exact se_isN g
  case notN => exact se_notN g
  case neg => exact se_neg g
  case tup => exact se_tup g
  case lst => exact se_lst g
  case dnK => exact se_dnK g
  case dnT => exact se_dnT g
  case ix => exact se_ix g
  case dix => exact se_dix g
  case len => exact se_len g
  case lenD => exact se_lenD g
  case max2 => exact se_max2 g
  case min2 => exact se_min2 g
  case intB => exact se_intB g
  case strI => exact se_strI g
  case listOf => exact se_listOf g
  case listD => exact se_listD g
  case tupOf => exact se_tupOf g
  case all => exact se_all g
  case any => exact se_any g
  case isi => exact se_isi g
  all_goals exact fun X W sc ok le h => by simp [wfE, Op.wf] at h
end
end Mn

set_option Elab.async false
set_option maxRecDepth 100000
set_option linter.all false
/-! Mn10: the forms of expressions. -/
namespace Mn
open PySem L2
section
variable {G : Nms} {T : Tbl} {cA : Nat → Addr} {pr : List Nat} {k : Nat}
theorem same_none (F : Hp) : Same (fun _ => none) F := fun _ _ h => nomatch h
theorem flat0 (fps : List FP) (ext : FP) : fps.flatten ++ ((if false = true then ([] : FP) else []) ++ ext) = fps.flatten ++ ext := rfl
theorem se_const {c : CV} {kk : Nat} {p : Pos} : SE G T cA pr k (.const c kk p) := fun X W sc ok le h => by
  have fin : ∀ (v : V), (∀ F, Rep X.K F c.val v []) → ∀ σ H Q, tE X.K T cA W (.const c kk p) σ H Q → Q v H := by
    rintro v r σ H Q ⟨F, env, fps, ext, s, o, m⟩
    exact m F H fps v [] (Same.refl _) s o (r F) nofun fun _ => Same.refl _
  cases c with
  | ci n => exact PE.weak pe_int (fin _ fun _ => .int)
  | cs x => exact PE.weak pe_str (fin _ fun _ => .str)
  | cb b => exact PE.weak pe_bl (fin _ fun _ => .bl)
  | cn => exact PE.weak pe_non (fin _ fun _ => .non)
theorem wfV_out {X : Cx} {sc : Scope} {i : Nat} {x : Str} (le : ScLe sc X.env.scope) (h : wfV X.N sc i x = true) : X.N[i]? = some x ∧ Vis X.env.scope x ∧ (x == ("__debug__" : Str)) = false ∧ (x == ("__classdict__" : Str)) = false := by
  unfold wfV okName at h
  simp only [Bool.and_eq_true, Bool.not_eq_true', beq_iff_eq] at h
  obtain ⟨⟨h1, h2⟩, ⟨h3, h4⟩, _⟩ := h
  exact ⟨h1, le.vis h2, by simpa using h3, by simpa using h4⟩
theorem pe_slot {X : Cx} {sc : Scope} {i : Nat} {x : Str} {p : Pos} (le : ScLe sc X.env.scope) (h : wfV X.N sc i x = true) : PE X (.Name x p) (tVar i) := by
  obtain ⟨h1, h2, h3, h4⟩ := wfV_out le h
  exact pe_var h1 h2 h3 h4
theorem Ow.at {F H : Hp} {a b c : FP} (o : Ow F H (a ++ c)) (p : a.Perm b) : Ow F H (b ++ c) := o.perm (p.append (List.Perm.refl _))
theorem se_var {i : Nat} {x : Str} {p : Pos} : SE G T cA pr k (.var i x p) := fun X W sc ok le h => by
  refine PE.weak (pe_slot le (by simpa [wfE] using h)) ?_
  rintro σ H Q ⟨F, env, fps, ext, s, o, m⟩
  simp only [evE] at m
  split at m
  · rename_i y e
    obtain ⟨v, fp, fps', h1, h2, h3, _⟩ := s.get e
    exact ⟨v, h1, m F H fps v fp (Same.refl _) s o h2 (fun _ => (o.at h3).hold.app.1.app.1) fun _ => Same.refl _⟩
  · exact m.elim
theorem se_mv {i : Nat} {x : Str} {p : Pos} : SE G T cA pr k (.mv i x p) := fun X W sc ok le h => by
  refine PE.weak (pe_slot le (by simpa [wfE] using h)) ?_
  rintro σ H Q ⟨F, env, fps, ext, s, o, m⟩
  simp only [evE] at m
  split at m
  · rename_i y e
    obtain ⟨v, fp, fps', h1, h2, h3, h4, _⟩ := s.get e
    refine ⟨v, h1, m F H fps' v fp (Same.refl _) h4 (o.perm ?_) h2 nofun fun _ => Same.refl _⟩
    refine (h3.append (List.Perm.refl ext)).trans ?_
    rw [List.append_assoc]
    exact List.perm_append_comm_assoc _ _ _
  · exact m.elim
theorem se_fz {i : Nat} {x : Str} {p : Pos} : SE G T cA pr k (.fz i x p) := fun X W sc ok le h => by
  refine PE.weak (pe_slot le (by simpa [wfE] using h)) ?_
  rintro σ H Q ⟨F, env, fps, ext, s, o, m⟩
  simp only [evE] at m
  split at m
  · rename_i y e
    split at m
    · obtain ⟨v, fp, fps', h1, h2, h3, h4, h5⟩ := s.get e
      have o2 : Ow F H (fp ++ (fps'.flatten ++ ext)) := o.perm (by
        refine (h3.append (List.Perm.refl ext)).trans ?_
        rw [List.append_assoc])
      obtain ⟨z1, z2, z3⟩ := o2.freeze
      obtain ⟨fps2, q1, q2⟩ := h5 _ y.frz [] z1 (h2.frz z1 z2)
      exact ⟨v, h1, m _ H fps2 v [] z1 q1 (z3.perm ((by simpa using q2.symm : fps'.flatten.Perm fps2.flatten).append (List.Perm.refl _))) (h2.frz z1 z2) nofun fun _ => Same.refl _⟩
    · exact m.elim
  · exact m.elim
theorem se_glob {j : Nat} {x : Str} {p : Pos} : SE G T cA pr k (.glob j x p) := fun X W sc ok le h => by
  simp only [wfE, okName, Bool.and_eq_true, beq_iff_eq, Bool.not_eq_true'] at h
  obtain ⟨⟨h1, h2⟩, ⟨h3, h4⟩, h5⟩ := h
  cases e : T.gls[j]? with
  | none =>
    refine ⟨fun pins s σ H Q I q => ?_⟩
    obtain ⟨F, env, fps, ext, s, o, m⟩ := q
    simp only [evE, e] at m
    exact m.elim
  | some y =>
    obtain ⟨u, w, g1, g2, g3⟩ := ok.gl j x y h1 e
    refine PE.weak (pe_glob (le.glo h2) g1 g2 (by simpa using h3)) ?_
    rintro σ H Q ⟨F, env, fps, ext, s, o, m⟩
    simp only [evE, e] at m
    exact m F H fps w [] (Same.refl _) s o (g3.mono (same_none F)) nofun fun _ => Same.refl _
theorem se_stuck {m : ME} (h : ∀ T env, evE T m env = .stuck) : SE G T cA pr k m := fun X W sc ok le _ =>
  ⟨fun pins s σ H Q I q => by
    obtain ⟨F, env, fps, ext, s, o, m⟩ := q
    rw [h] at m
    exact m.elim⟩
theorem st_stuck {m : ME} (h : ∀ T env, evT T m env = .stuck) : STt G T cA pr k m := fun X W sc ok le _ =>
  ⟨fun pins s σ H Q I q => by
    obtain ⟨F, env, fps, ext, s, o, m⟩ := q
    rw [h] at m
    exact m.elim⟩
theorem set_self {σ : St} {i : Nat} {v : V} (h : σ[i]? = some (some v)) : σ.set i (some v) = σ := by
  apply List.ext_getElem?
  intro j
  by_cases e : i = j
  · subst e
    rw [List.getElem?_set_self (List.getElem?_eq_some_iff.mp h).1]; exact h.symm
  · rw [List.getElem?_set_ne e]
theorem Sl.there {K : PySem.W.Frag} {F : Hp} : ∀ {env : Env} {σ : St} {fps : List FP} {i : Nat}, Sl K F env σ fps → (env[i]?.getD none).isSome = true → ∃ v, σ[i]? = some (some v)
  | _, _, _, _, .snil, h => by simp at h
  | _, _, _, 0, .sno r, h => by simp at h
  | _, _, _, i + 1, .sno r, h => by
    obtain ⟨v, e⟩ := Sl.there (i := i) r (by simpa using h)
    exact ⟨v, by simpa using e⟩
  | _, _, _, 0, .ssome a r, h => ⟨_, rfl⟩
  | _, _, _, i + 1, .ssome a r, h => by
    obtain ⟨v, e⟩ := Sl.there (i := i) r (by simpa using h)
    exact ⟨v, by simpa using e⟩
theorem se_ixv {i : Nat} {x : Str} {px p : Pos} {e : ME} (g : SE G T cA pr k e) : SE G T cA pr k (.ixv i x px e p) := fun X W sc ok le h => by
  simp only [wfE, Bool.and_eq_true] at h
  refine PE.weak (pe_ix ix_seq (pe_slot le h.1) (g X W sc ok le h.2) (plain_er e h.2).ix) ?_
  rintro σ H Q ⟨F, env, fps, ext, s, o, m⟩
  simp only [evE] at m
  split at m
  · rename_i hi
    obtain ⟨v, hv⟩ := s.there hi
    refine ⟨v, hv, F, env, fps, ext, s, o, ?_⟩
    revert m
    cases evE T e env with
    | stuck => exact id
    | exc c e => exact id
    | ok a =>
      obtain ⟨y, u, env1⟩ := a
      intro m F2 H2 fps2 w fp a1 a2 a3 a4 a5 a6
      simp only [R.bind_ok] at m
      cases e1 : env1[i]? with
      | none => simp only [e1] at m; exact m.elim
      | some ox =>
        cases ox with
        | none => simp only [e1] at m; exact m.elim
        | some x1 =>
          simp only [e1] at m
          obtain ⟨v', fpx, fps', h1, h2, h3, _⟩ := a2.get e1
          obtain rfl : v' = v := Option.some.inj (Option.some.inj (h1.symm.trans hv))
          have oo : Ow F2 H2 (fps2.flatten ++ ([] ++ ext)) := a3.sub (List.Sublist.append (List.Sublist.refl _) (by simpa using List.sublist_append_right (if u = true then fp else []) ext))
          refine pp_ix (K := X.K) ⟨F2, [(x1, false), (y, true)], [] ++ [] ++ (if true = true then [] else []), fps2.flatten, ext, ?_, by simpa using oo, ?_⟩
          · have hd : Hold H2 fpx := (oo.at h3).hold.app.1.app.1
            have base : Ags X.K F2 H2 [(y, true)] [w] ([] ++ if true = true then fp else []) := .cons a4 nofun .nil
            cases a4 with
            | int => exact .cons (u := false) h2 (fun _ => hd) (.cons .int nofun .nil)
            | non => exact .cons (u := false) h2 (fun _ => hd) (.cons .non nofun .nil)
            | bl => exact .cons (u := false) h2 (fun _ => hd) (.cons .bl nofun .nil)
            | str => exact .cons (u := false) h2 (fun _ => hd) (.cons .str nofun .nil)
            | _ =>
              exfalso
              revert m
              cases x1 <;> exact id
          · show match s_ix [(x1, false), (y, true)] with | some (y, u) => _ | none => False
            revert m
            cases s_ix [(x1, false), (y, true)] with
            | none => exact id
            | some q =>
              obtain ⟨z, u'⟩ := q
              intro m F3 H3 v3 fp3 b1 b2 b3 b4 b5
              exact m F3 H3 fps2 v3 fp3 (Same.trans a1 b1) (a2.mono b1) b3 b4 b5 fun hp => Same.trans (a6 hp) b2
  · exact m.elim
end
end Mn

set_option Elab.async false
set_option maxRecDepth 100000
set_option linter.all false
/-! Mn11: methods, slices, and, or, not, conditional expressions, chains; tests. -/
namespace Mn
open PySem L2
section
variable {K : PySem.W.Frag} {T : Tbl} {cA : Nat → Addr} {W : WX} {σ : St} {H : Hp} {Q : VK}
theorem tE_meth {op : Op} {p q : Pos} {e : ME} {es : List ME} {P : V → Hp → Prop} (hP : ∀ F x v fp H, Same F H → Hold H fp → Rep K F x v fp → op.recv x = true → P v H)
    (h : tE K T cA W (.meth op p q e es) σ H Q) : tE K T cA W e σ H fun x H1 => P x H1 ∧ tL K T cA W es σ H1 fun xs H2 => Pp K op (x :: xs) H2 Q := by
  obtain ⟨F, env, fps, ext, s, o, m⟩ := h
  refine ⟨F, env, fps, ext, s, o, ?_⟩
  simp only [evE] at m
  revert m
  cases evE T e env with
  | stuck => exact id
  | exc c e => exact id
  | ok a =>
    obtain ⟨x, u, env1⟩ := a
    intro m F2 H2 fps2 v fp a1 a2 a3 a4 a5 a6
    simp only [R.bind_ok] at m
    by_cases hr : op.recv x = true
    · rw [if_pos hr] at m
      have hh : Hold H2 fp := by
        cases u with
        | false => exact a5 rfl
        | true => exact a3.hold.app.2.app.1
      refine ⟨hP F2 x v fp H2 a3.same hh a4 hr, F2, env1, fps2, _, a2, a3, ?_⟩
      revert m
      cases evL T es env1 with
      | stuck => exact id
      | exc c e => exact fun m F3 H3 fps3 b1 b2 b3 => m F3 H3 fps3 (Same.trans a1 b1) b2 (b3.sub (List.Sublist.append (List.Sublist.refl _) (List.sublist_append_right _ _)))
      | ok q =>
        obtain ⟨xs, env2⟩ := q
        intro m F3 H3 fps3 vs fo b1 b2 b3 b4 b5
        simp only [R.bind_ok] at m
        by_cases hc : (u || x.noOwn || pureL es) = true
        · rw [if_pos hc] at m
          refine ⟨F3, (x, u) :: xs, _, fps3.flatten, ext, .cons (a4.mono b1) (fun hu => ?_) b4, by simpa [List.append_assoc] using b3, ?_⟩
          · simp only [Bool.or_eq_true] at hc
            rcases hc with (hc | hc) | hc
            · rw [hu] at hc; cases hc
            · rw [a4.noOwn hc]; exact Hold.nil
            · exact (a5 hu).mono (b5 hc)
          · revert m
            cases op.sem ((x, u) :: xs) with
            | none => exact id
            | some yu =>
              obtain ⟨y, u'⟩ := yu
              intro m F4 H4 w fp4 c1 c2 c3 c4 c5
              refine m F4 H4 fps3 w fp4 (Same.trans a1 (Same.trans b1 c1)) (b2.mono c1) c3 c4 c5 fun hp => ?_
              simp only [ME.pure, Bool.and_eq_true] at hp
              exact Same.trans (a6 hp.1) (Same.trans (b5 hp.2) c2)
        · rw [if_neg hc] at m; exact m.elim
    · rw [if_neg hr] at m; exact m.elim
def tI (K : PySem.W.Frag) (T : Tbl) (cA : Nat → Addr) (W : WX) (σ : St) : List ME → Hp → (List Int → Hp → Prop) → Prop
  | [], H, k => k [] H
  | e :: es, H, k => tE K T cA W e σ H fun y H1 => ∃ i, y = .int i ∧ tI K T cA W σ es H1 fun is H2 => k (i :: is) H2
theorem tI_of {es : List ME} : ∀ {F H : Hp} {env : Env} {fps : List FP} {ext : FP} {k : List Int → Hp → Prop}, Sl K F env σ fps → Ow F H (fps.flatten ++ ext) →
    (match evI T es env with
      | .ok (is, env2) => ∀ F2 H2 fps2, Same F F2 → Sl K F2 env2 σ fps2 → Ow F2 H2 (fps2.flatten ++ ext) → (pureL es = true → Same H H2) → k is H2
      | .exc c env2 => ∀ F2 H2 fps2, Same F F2 → Sl K F2 env2 σ fps2 → Ow F2 H2 (fps2.flatten ++ ext) → W (.ref (cA c)) none σ H2
      | .stuck => False) → tI K T cA W σ es H k := by
  induction es with
  | nil => exact fun {F H env fps ext k} s o m => m F H fps (Same.refl _) s o fun _ => Same.refl _
  | cons e es ih =>
    intro F H env fps ext k s o m
    refine ⟨F, env, fps, ext, s, o, ?_⟩
    simp only [evI] at m
    revert m
    cases evE T e env with
    | stuck => exact id
    | exc c e => exact id
    | ok a =>
      obtain ⟨x, u, env1⟩ := a
      intro m F2 H2 fps2 v fp a1 a2 a3 a4 a5 a6
      simp only [R.bind_ok] at m
      cases a4 <;> try exact m.elim
      rename_i i
      refine ⟨i, rfl, ih (ext := ext) a2 (a3.sub (List.Sublist.append (List.Sublist.refl _) (List.sublist_append_right _ _))) ?_⟩
      dsimp only at m
      revert m
      cases evI T es env1 with
      | stuck => exact id
      | exc c e => exact fun m F3 H3 fps3 b1 b2 b3 => m F3 H3 fps3 (Same.trans a1 b1) b2 b3
      | ok q =>
        obtain ⟨is, env2⟩ := q
        intro m F3 H3 fps3 b1 b2 b3 b4
        refine m F3 H3 fps3 (Same.trans a1 b1) b2 b3 fun hp => ?_
        simp only [pureL, Bool.and_eq_true] at hp
        exact Same.trans (a6 hp.1) (b4 hp.2)
theorem ags_ints {F H : Hp} : ∀ is : List Int, Ags K F H (is.map fun i => (Val.int i, true)) (is.map V.int) []
  | [] => .nil
  | i :: is => by simpa using Ags.cons (u := true) (fp := []) (fo := []) Rep.int nofun (ags_ints is)
theorem tE_slc {op : Op} {p q : Pos} {e : ME} {es : List ME} (h : tE K T cA W (.slc op p q e es) σ H Q) : tE K T cA W e σ H fun x H1 => tI K T cA W σ es H1 fun is H2 => Pp K op (x :: is.map V.int) H2 Q := by
  obtain ⟨F, env, fps, ext, s, o, m⟩ := h
  refine ⟨F, env, fps, ext, s, o, ?_⟩
  simp only [evE] at m
  revert m
  cases evE T e env with
  | stuck => exact id
  | exc c e => exact id
  | ok a =>
    obtain ⟨x, u, env1⟩ := a
    intro m F2 H2 fps2 v fp a1 a2 a3 a4 a5 a6
    simp only [R.bind_ok] at m
    refine tI_of (ext := (if u = true then fp else []) ++ ext) a2 a3 ?_
    revert m
    cases evI T es env1 with
    | stuck => exact id
    | exc c e => exact fun m F3 H3 fps3 b1 b2 b3 => m F3 H3 fps3 (Same.trans a1 b1) b2 (b3.sub (List.Sublist.append (List.Sublist.refl _) (List.sublist_append_right _ _)))
    | ok q =>
      obtain ⟨is, env2⟩ := q
      intro m F3 H3 fps3 b1 b2 b3 b5
      simp only [R.bind_ok] at m
      by_cases hc : (u || x.noOwn || pureL es) = true
      · rw [if_pos hc] at m
        refine ⟨F3, (x, u) :: is.map fun i => (Val.int i, true), [] ++ (if u = true then fp else []), fps3.flatten, ext, .cons (a4.mono b1) (fun hu => ?_) (ags_ints is), by simpa [List.append_assoc] using b3, ?_⟩
        · simp only [Bool.or_eq_true] at hc
          rcases hc with (hc | hc) | hc
          · rw [hu] at hc; cases hc
          · rw [a4.noOwn hc]; exact Hold.nil
          · exact (a5 hu).mono (b5 hc)
        · revert m
          cases op.sem ((x, u) :: is.map fun i => (Val.int i, true)) with
          | none => exact id
          | some yu =>
            obtain ⟨y, u'⟩ := yu
            intro m F4 H4 w fp4 c1 c2 c3 c4 c5
            refine m F4 H4 fps3 w fp4 (Same.trans a1 (Same.trans b1 c1)) (b2.mono c1) c3 c4 c5 fun hp => ?_
            simp only [ME.pure, Bool.and_eq_true] at hp
            exact Same.trans (a6 hp.1) (Same.trans (b5 hp.2) c2)
      · rw [if_neg hc] at m; exact m.elim
end
section
variable {G : Nms} {T : Tbl} {cA : Nat → Addr} {pr : List Nat} {k : Nat}
theorem se_meth {op : Op} {p q : Pos} {e : ME} {es : List ME} (g : SE G T cA pr k e) (gs : ∀ e ∈ es, SE G T cA pr k e) : SE G T cA pr k (.meth op p q e es) := fun X W sc ok le h => by
  simp only [wfE, Bool.and_eq_true] at h
  obtain ⟨⟨⟨h1, h2⟩, h3⟩, h4⟩ := h
  cases op <;> try (simp [Op.wfm] at h1; done)
  obtain ⟨b, rfl⟩ := one_of (by simpa [Op.wfm] using h1)
  simp only [wfEL, Bool.and_eq_true] at h4
  have ha := g X W sc ok le h3
  have hb := gs b (by simp) X W sc ok le h4.1
  refine PE.weak (pe_join ha hb (plain_er b h4.1).star (plain_er e h3).attr (by simpa [sameLine] using h2)) fun σ H Q h => ?_
  exact tE_mono (tE_meth (P := fun v _ => ∃ z, v = .str z) (fun F x v fp H _ _ r hr => by cases r <;> first | exact ⟨_, rfl⟩ | (simp [Op.recv] at hr)) h) fun x H1 ⟨h1, h2⟩ => ⟨h1, tE_mono (tL_one h2) fun y H2 h3 => pp_join h3⟩
/-- the numbers of a slice as its parts are read -/
theorem PE.or' {X : Cx} {e : Expr} {t t' : TE} (h : PE X e t) (h' : PE X e t') : PE X e (fun σ H Q => t σ H Q ∨ t' σ H Q) := ⟨fun pins s σ H Q I q => q.elim (h.run pins s σ H Q I) (h'.run pins s σ H Q I)⟩
theorem slc_sl {lo hi : Bool} {a : Expr} {r : List Expr} {q p : Pos} : ∀ {op : Op}, op.slB = some (lo, hi) → slcEr op a r q p = slE lo hi a r q p := by
  intro op h
  cases op <;> simp [Op.slB] at h
  case slL => obtain ⟨rfl, rfl⟩ := h; rfl
  case slT => obtain ⟨rfl, rfl⟩ := h; rfl
  case slS => obtain ⟨rfl, rfl⟩ := h; rfl
  case alt x y => simp only [slcEr, h]
theorem alt_splitS {K : PySem.W.Frag} {T : Tbl} {cA : Nat → Addr} {W : WX} {a b : Op} {p q : Pos} {e0 : ME} {es : List ME} {σ : St} {H : Hp} {Q : VK} (h : tE K T cA W (.slc (.alt a b) p q e0 es) σ H Q) : tE K T cA W (.slc a p q e0 es) σ H Q ∨ tE K T cA W (.slc b p q e0 es) σ H Q := by
  obtain ⟨F, env, fps, ext, s, o, m⟩ := h
  simp only [evE] at m
  cases e1 : evE T e0 env with
  | stuck => rw [e1] at m; exact m.elim
  | exc c env1 =>
    refine .inl ⟨F, env, fps, ext, s, o, ?_⟩
    simp only [evE]
    rw [e1] at m ⊢
    exact m
  | ok y =>
  obtain ⟨x, u, env1⟩ := y
  rw [e1] at m
  simp only [R.bind_ok] at m
  cases e : evI T es env1 with
  | stuck => rw [e] at m; exact m.elim
  | exc c env2 =>
    refine .inl ⟨F, env, fps, ext, s, o, ?_⟩
    simp only [evE]
    rw [e1]
    simp only [R.bind_ok]
    rw [e] at m ⊢
    exact m
  | ok y =>
    obtain ⟨is, env2⟩ := y
    cases ea : a.sem ((x, u) :: is.map fun i => (Val.int i, true)) with
    | some z =>
      refine .inl ⟨F, env, fps, ext, s, o, ?_⟩
      simp only [evE]
      rw [e1]
      simp only [R.bind_ok]
      rw [e] at m ⊢
      simp only [R.bind_ok, Op.sem, s_alt, ea] at m ⊢
      exact m
    | none =>
      refine .inr ⟨F, env, fps, ext, s, o, ?_⟩
      simp only [evE]
      rw [e1]
      simp only [R.bind_ok]
      rw [e] at m ⊢
      simp only [R.bind_ok, Op.sem, s_alt, ea] at m ⊢
      exact m
theorem slc_alt {a b : Op} {p q : Pos} {e : ME} {es : List ME} (ga : SE G T cA pr k (.slc a p q e es)) (gb : SE G T cA pr k (.slc b p q e es)) : SE G T cA pr k (.slc (.alt a b) p q e es) := fun X W sc ok le h => by
  simp only [wfE, Op.wfs, Bool.and_eq_true, beq_iff_eq] at h
  obtain ⟨⟨⟨⟨⟨h1, h2⟩, h3⟩, h4⟩, h5⟩, h6⟩ := h
  have pa := ga X W sc ok le (by simp only [wfE, Bool.and_eq_true]; exact ⟨⟨h3, h5⟩, h6⟩)
  have pb := gb X W sc ok le (by simp only [wfE, Bool.and_eq_true]; exact ⟨⟨h4, h5⟩, h6⟩)
  obtain ⟨⟨lo, hi⟩, e0⟩ := Option.isSome_iff_exists.mp h2
  simp only [er] at pa pb ⊢
  rw [slc_sl e0] at pa
  rw [slc_sl (h1 ▸ e0)] at pb
  rw [slc_sl (show (Op.alt a b).slB = some (lo, hi) from e0)]
  exact PE.weak (PE.or' pa pb) fun σ H Q q => alt_splitS q
theorem se_slc0 {op : Op} {p q : Pos} {e : ME} {es : List ME} (g : SE G T cA pr k e) (gs : ∀ e ∈ es, SE G T cA pr k e) (hna : ∀ a b, op ≠ .alt a b) : SE G T cA pr k (.slc op p q e es) := fun X W sc ok le h => by
  simp only [wfE, Bool.and_eq_true] at h
  obtain ⟨⟨h1, h3⟩, h4⟩ := h
  have ha := g X W sc ok le h3
  have core : ∀ (lo hi : Bool) (r : V → Option Int → Option Int → Hp → VK → Prop), SlR X r → (es.length == (if lo then 1 else 0) + (if hi then 1 else 0)) = true →
      (∀ x vs H Q, Pp X.K op (x :: vs) H Q → ∃ l u, Pts lo hi vs l u ∧ r x l u H Q) → PE X (slE lo hi (er e) (erL es) q p) (tE X.K T cA W (.slc op p q e es)) := by
    intro lo hi r hr hn hp
    cases lo <;> cases hi
    · obtain rfl := none_of (by simpa using hn)
      refine PE.weak (pe_slice hr ha po_none po_none) fun σ H Q h => ?_
      exact tE_mono (tE_slc h) fun x H1 h1 => by
        obtain ⟨l, u, q1, q2⟩ := hp _ _ _ _ h1
        cases q1; exact q2
    · obtain ⟨b, rfl⟩ := one_of (by simpa using hn)
      simp only [wfEL, Bool.and_eq_true] at h4
      have hb := gs b (by simp) X W sc ok le h4.1
      refine PE.weak (pe_slice hr ha po_none (po_some hb)) fun σ H Q h => ?_
      exact tE_mono (tE_slc h) fun x H1 h1 => tE_mono h1 fun y H2 ⟨i, e1, h2⟩ => ⟨i, e1, by
        obtain ⟨l, u, q1, q2⟩ := hp _ _ _ _ h2
        cases q1; exact q2⟩
    · obtain ⟨b, rfl⟩ := one_of (by simpa using hn)
      simp only [wfEL, Bool.and_eq_true] at h4
      have hb := gs b (by simp) X W sc ok le h4.1
      refine PE.weak (pe_slice hr ha (po_some hb) po_none) fun σ H Q h => ?_
      exact tE_mono (tE_slc h) fun x H1 h1 => tE_mono h1 fun y H2 ⟨i, e1, h2⟩ => ⟨i, e1, by
        obtain ⟨l, u, q1, q2⟩ := hp _ _ _ _ h2
        cases q1; exact q2⟩
    · obtain ⟨b, c, rfl⟩ := two_of (by simpa using hn)
      simp only [wfEL, Bool.and_eq_true] at h4
      have hb := gs b (by simp) X W sc ok le h4.1
      have hc := gs c (by simp) X W sc ok le h4.2.1
      refine PE.weak (pe_slice hr ha (po_some hb) (po_some hc)) fun σ H Q h => ?_
      exact tE_mono (tE_slc h) fun x H1 h1 => tE_mono h1 fun y H2 ⟨i, e1, h2⟩ => ⟨i, e1, tE_mono h2 fun z H3 ⟨j, e2, h3⟩ => ⟨j, e2, by
        obtain ⟨l, u, q1, q2⟩ := hp _ _ _ _ h3
        cases q1; exact q2⟩⟩
  cases op <;> try (simp [Op.wfs] at h1; done)
  case alt => exact absurd rfl (hna _ _)
  · rename_i lo hi
    exact core lo hi _ sl_list (by simpa [Op.wfs] using h1) fun x vs H Q h => pp_slL h
  · rename_i lo hi
    exact core lo hi _ sl_tupA (by simpa [Op.wfs] using h1) fun x vs H Q h => pp_slT h
  · rename_i lo hi
    exact core lo hi _ sl_str (by simpa [Op.wfs] using h1) fun x vs H Q h => pp_slS h
theorem se_slc {op : Op} {p q : Pos} {e : ME} {es : List ME} (g : SE G T cA pr k e) (gs : ∀ e ∈ es, SE G T cA pr k e) : SE G T cA pr k (.slc op p q e es) := by
  induction op with
  | alt a b iha ihb => exact slc_alt iha ihb
  | _ => exact se_slc0 g gs nofun
end
end Mn

set_option Elab.async false
set_option maxRecDepth 100000
set_option linter.all false
/-! Mn12: and, or, not, conditional expressions, chains, calls; tests. -/
namespace Mn
open PySem L2
section
variable {G : Nms} {T : Tbl} {cA : Nat → Addr} {pr : List Nat} {k : Nat}
/-- the first part evaluated; then the rest from there -/
theorem tE_bind {K : PySem.W.Frag} {W : WX} {σ : St} {H : Hp} {Q : VK} {F : Hp} {env : Env} {fps : List FP} {ext : FP} {e : ME} {pu : Bool} {f : Val × Bool × Env → R (Val × Bool × Env)} {k : V → Hp → Prop}
    (s : Sl K F env σ fps) (o : Ow F H (fps.flatten ++ ext)) (m : PoE K cA W pu F H σ ext Q ((evE T e env).bind f)) (hpu : pu = true → e.pure = true)
    (h : ∀ x u env1 F2 H2 fps2 v fp, PoE K cA W pu F H σ ext Q (f (x, u, env1)) → Same F F2 → Sl K F2 env1 σ fps2 → Ow F2 H2 (fps2.flatten ++ ((if u then fp else []) ++ ext)) → Rep K F2 x v fp → (u = false → Hold H2 fp) → (pu = true → Same H H2) → k v H2) :
    tE K T cA W e σ H k := by
  refine ⟨F, env, fps, ext, s, o, ?_⟩
  revert m
  cases evE T e env with
  | stuck => exact id
  | exc c e => exact id
  | ok a =>
    obtain ⟨x, u, env1⟩ := a
    exact fun m F2 H2 fps2 v fp a1 a2 a3 a4 a5 a6 => h x u env1 F2 H2 fps2 v fp m a1 a2 a3 a4 a5 fun hp => a6 (hpu hp)
/-- what is wanted, from further on -/
theorem PoE.later {K : PySem.W.Frag} {W : WX} {σ : St} {F F2 H H2 : Hp} {Q : VK} {ext : FP} {pu pu' : Bool} {r : R (Val × Bool × Env)} (m : PoE K cA W pu F H σ ext Q r) (a1 : Same F F2) (a6 : pu = true → Same H H2) (hp : pu = true → pu' = true) : PoE K cA W pu' F2 H2 σ ext Q r := by
  revert m
  cases r with
  | stuck => exact id
  | exc c e => exact fun m F3 H3 fps3 b1 b2 b3 => m F3 H3 fps3 (Same.trans a1 b1) b2 b3
  | ok a =>
    obtain ⟨x, u, env1⟩ := a
    exact fun m F3 H3 fps3 v fp b1 b2 b3 b4 b5 b6 => m F3 H3 fps3 v fp (Same.trans a1 b1) b2 b3 b4 b5 fun h => Same.trans (a6 h) (b6 (hp h))
theorem Ow.tmp {F H : Hp} {a b c : FP} (o : Ow F H (a ++ (b ++ c))) : Ow F H (a ++ c) := o.sub (List.Sublist.append (List.Sublist.refl _) (List.sublist_append_right _ _))
theorem se_and : ∀ {es : List ME} {e : ME} {p : Pos}, SE G T cA pr k e → (∀ e ∈ es, SE G T cA pr k e) → SE G T cA pr k (.andE e es p)
  | [], e, p, g, _ => fun X W sc ok le h => by
    simp only [wfE, wfEL, Bool.and_eq_true] at h
    refine PE.weak (pe_one (g X W sc ok le h.1)) ?_
    rintro σ H Q ⟨F, env, fps, ext, s, o, m⟩
    simp only [evE] at m
    refine tE_bind s o m (fun hp => by simpa [ME.pure, pureL] using hp) fun x u env1 F2 H2 fps2 v fp m a1 a2 a3 a4 a5 a6 => ?_
    simp only [evAnd] at m
    exact m F2 H2 fps2 v fp a1 a2 a3 a4 a5 a6
  | b :: rest, e, p, g, gs => fun X W sc ok le h => by
    simp only [wfE, wfEL, Bool.and_eq_true] at h
    obtain ⟨h1, h2, h3⟩ := h
    have hb := se_and (p := p) (gs b (by simp)) (fun e he => gs e (List.mem_cons_of_mem _ he)) X W sc ok le (by simp [wfE, h2, h3])
    refine PE.weak (pe_and (g X W sc ok le h1) hb) ?_
    rintro σ H Q ⟨F, env, fps, ext, s, o, m⟩
    simp only [evE] at m
    refine tE_bind s o m (fun hp => by simp only [ME.pure, Bool.and_eq_true] at hp; exact hp.1) fun x u env1 F2 H2 fps2 v fp m a1 a2 a3 a4 a5 a6 => ?_
    simp only [evAnd] at m
    cases a4 <;> try exact m.elim
    rename_i c
    refine ⟨c, rfl, ?_⟩
    cases c with
    | true => exact ⟨F2, env1, fps2, ext, a2, a3.tmp, m.later a1 a6 (fun hp => by simp only [ME.pure, pureL, Bool.and_eq_true] at hp ⊢; exact hp.2)⟩
    | false => exact m F2 H2 fps2 (.bl false) [] a1 a2 a3.drop .bl nofun a6
theorem se_or : ∀ {es : List ME} {e : ME} {p : Pos}, SE G T cA pr k e → (∀ e ∈ es, SE G T cA pr k e) → SE G T cA pr k (.orE e es p)
  | [], e, p, g, _ => fun X W sc ok le h => by
    simp only [wfE, wfEL, Bool.and_eq_true] at h
    refine PE.weak (pe_one (g X W sc ok le h.1)) ?_
    rintro σ H Q ⟨F, env, fps, ext, s, o, m⟩
    simp only [evE] at m
    refine tE_bind s o m (fun hp => by simpa [ME.pure, pureL] using hp) fun x u env1 F2 H2 fps2 v fp m a1 a2 a3 a4 a5 a6 => ?_
    simp only [evOr] at m
    exact m F2 H2 fps2 v fp a1 a2 a3 a4 a5 a6
  | b :: rest, e, p, g, gs => fun X W sc ok le h => by
    simp only [wfE, wfEL, Bool.and_eq_true] at h
    obtain ⟨h1, h2, h3⟩ := h
    have hb := se_or (p := p) (gs b (by simp)) (fun e he => gs e (List.mem_cons_of_mem _ he)) X W sc ok le (by simp [wfE, h2, h3])
    refine PE.weak (pe_or (g X W sc ok le h1) hb) ?_
    rintro σ H Q ⟨F, env, fps, ext, s, o, m⟩
    simp only [evE] at m
    refine tE_bind s o m (fun hp => by simp only [ME.pure, Bool.and_eq_true] at hp; exact hp.1) fun x u env1 F2 H2 fps2 v fp m a1 a2 a3 a4 a5 a6 => ?_
    simp only [evOr] at m
    cases a4 <;> try exact m.elim
    rename_i c
    refine ⟨c, rfl, ?_⟩
    cases c with
    | false => exact ⟨F2, env1, fps2, ext, a2, a3.tmp, m.later a1 a6 (fun hp => by simp only [ME.pure, pureL, Bool.and_eq_true] at hp ⊢; exact hp.2)⟩
    | true => exact m F2 H2 fps2 (.bl true) [] a1 a2 a3.drop .bl nofun a6
theorem se_not {e : ME} {p : Pos} (g : SE G T cA pr k e) : SE G T cA pr k (.notE e p) := fun X W sc ok le h => by
  refine PE.weak (pe_not (g X W sc ok le (by simpa [wfE] using h))) ?_
  rintro σ H Q ⟨F, env, fps, ext, s, o, m⟩
  simp only [evE] at m
  refine tE_bind s o m (fun hp => hp) fun x u env1 F2 H2 fps2 v fp m a1 a2 a3 a4 a5 a6 => ?_
  cases a4 <;> try exact m.elim
  exact ⟨_, rfl, m F2 H2 fps2 _ [] a1 a2 a3.drop .bl nofun a6⟩
/-! tests -/
theorem tT_bind {K : PySem.W.Frag} {W : WX} {σ : St} {H : Hp} {Q : Bool → Hp → Prop} {F : Hp} {env : Env} {fps : List FP} {ext : FP} {e : ME} {pu : Bool} {f : Bool × Env → R (Bool × Env)} {k : Bool → Hp → Prop}
    (s : Sl K F env σ fps) (o : Ow F H (fps.flatten ++ ext)) (m : PoT K cA W pu F H σ ext Q ((evT T e env).bind f)) (hpu : pu = true → e.pure = true)
    (h : ∀ b env1 F2 H2 fps2, PoT K cA W pu F H σ ext Q (f (b, env1)) → Same F F2 → Sl K F2 env1 σ fps2 → Ow F2 H2 (fps2.flatten ++ ext) → (pu = true → Same H H2) → k b H2) :
    tT K T cA W e σ H k := by
  refine ⟨F, env, fps, ext, s, o, ?_⟩
  revert m
  cases evT T e env with
  | stuck => exact id
  | exc c e => exact id
  | ok a =>
    obtain ⟨b, env1⟩ := a
    exact fun m F2 H2 fps2 a1 a2 a3 a6 => h b env1 F2 H2 fps2 m a1 a2 a3 fun hp => a6 (hpu hp)
theorem PoT.later {K : PySem.W.Frag} {W : WX} {σ : St} {F F2 H H2 : Hp} {Q : Bool → Hp → Prop} {ext : FP} {pu pu' : Bool} {r : R (Bool × Env)} (m : PoT K cA W pu F H σ ext Q r) (a1 : Same F F2) (a6 : pu = true → Same H H2) (hp : pu = true → pu' = true) : PoT K cA W pu' F2 H2 σ ext Q r := by
  revert m
  cases r with
  | stuck => exact id
  | exc c e => exact fun m F3 H3 fps3 b1 b2 b3 => m F3 H3 fps3 (Same.trans a1 b1) b2 b3
  | ok a =>
    obtain ⟨b, env1⟩ := a
    exact fun m F3 H3 fps3 b1 b2 b3 b6 => m F3 H3 fps3 (Same.trans a1 b1) b2 b3 fun h => Same.trans (a6 h) (b6 (hp h))
theorem st_and : ∀ {es : List ME} {e : ME} {p : Pos}, STt G T cA pr k e → (∀ e ∈ es, STt G T cA pr k e) → ∀ (X : Cx) (W : WX) (sc : Scope), XOk G T cA k X W → ScLe sc X.env.scope → wfE G X.N pr sc (.tAnd e es p) = true → PW X (.BoolOp .And (er e :: erL es) p) (tT X.K T cA W (.tAnd e es p))
  | [], e, p, g, _ => fun X W sc ok le h => by
    simp only [wfE, wfEL, Bool.and_eq_true] at h
    refine ⟨fun wh pins s σ H Q I h => (pw_and1 (g X W sc ok le (by simp_all))).run wh pins s σ H Q I ?_⟩
    obtain ⟨F, env, fps, ext, s, o, m⟩ := h
    simp only [evT] at m
    refine tT_bind s o m (fun hp => by simpa [ME.pure, pureL] using hp) fun b env1 F2 H2 fps2 m a1 a2 a3 a6 => ?_
    simp only [evTAnd] at m
    exact m F2 H2 fps2 a1 a2 a3 a6
  | b :: rest, e, p, g, gs => fun X W sc ok le h => by
    simp only [wfE, wfEL, Bool.and_eq_true] at h
    obtain ⟨h1, h2, h3⟩ := h
    have hb := st_and (p := p) (gs b (by simp)) (fun e he => gs e (List.mem_cons_of_mem _ he)) X W sc ok le (by simp [wfE, h2, h3])
    refine ⟨fun wh pins s σ H Q I h => (pw_and (g X W sc ok le h1) hb).run wh pins s σ H Q I ?_⟩
    obtain ⟨F, env, fps, ext, s, o, m⟩ := h
    simp only [evT] at m
    refine tT_bind s o m (fun hp => by simp only [ME.pure, Bool.and_eq_true] at hp; exact hp.1) fun c env1 F2 H2 fps2 m a1 a2 a3 a6 => ?_
    cases c with
    | true =>
      refine iteT ⟨F2, env1, fps2, ext, a2, a3, ?_⟩
      simp only [evTAnd, if_true] at m
      simp only [evT]
      exact m.later a1 a6 (fun hp => by simp only [ME.pure, pureL, Bool.and_eq_true] at hp ⊢; exact hp.2)
    | false =>
      refine iteF ?_
      simp only [evTAnd] at m
      exact m F2 H2 fps2 a1 a2 a3 a6
theorem st_or : ∀ {es : List ME} {e : ME} {p : Pos}, STt G T cA pr k e → (∀ e ∈ es, STt G T cA pr k e) → ∀ (X : Cx) (W : WX) (sc : Scope), XOk G T cA k X W → ScLe sc X.env.scope → wfE G X.N pr sc (.tOr e es p) = true → PW X (.BoolOp .Or (er e :: erL es) p) (tT X.K T cA W (.tOr e es p))
  | [], e, p, g, _ => fun X W sc ok le h => by
    simp only [wfE, wfEL, Bool.and_eq_true] at h
    refine ⟨fun wh pins s σ H Q I h => (pw_or1 (g X W sc ok le (by simp_all))).run wh pins s σ H Q I ?_⟩
    obtain ⟨F, env, fps, ext, s, o, m⟩ := h
    simp only [evT] at m
    refine tT_bind s o m (fun hp => by simpa [ME.pure, pureL] using hp) fun b env1 F2 H2 fps2 m a1 a2 a3 a6 => ?_
    simp only [evTOr] at m
    exact m F2 H2 fps2 a1 a2 a3 a6
  | b :: rest, e, p, g, gs => fun X W sc ok le h => by
    simp only [wfE, wfEL, Bool.and_eq_true] at h
    obtain ⟨h1, h2, h3⟩ := h
    have hb := st_or (p := p) (gs b (by simp)) (fun e he => gs e (List.mem_cons_of_mem _ he)) X W sc ok le (by simp [wfE, h2, h3])
    refine ⟨fun wh pins s σ H Q I h => (pw_or (g X W sc ok le h1) hb).run wh pins s σ H Q I ?_⟩
    obtain ⟨F, env, fps, ext, s, o, m⟩ := h
    simp only [evT] at m
    refine tT_bind s o m (fun hp => by simp only [ME.pure, Bool.and_eq_true] at hp; exact hp.1) fun c env1 F2 H2 fps2 m a1 a2 a3 a6 => ?_
    cases c with
    | false =>
      refine iteF ⟨F2, env1, fps2, ext, a2, a3, ?_⟩
      simp only [evTOr] at m
      simp only [evT]
      exact PoT.later (r := (evT T b env1).bind (evTOr T rest)) m a1 a6 (fun hp => by simp only [ME.pure, pureL, Bool.and_eq_true] at hp ⊢; exact hp.2)
    | true =>
      refine iteT ?_
      simp only [evTOr, if_true] at m
      exact m F2 H2 fps2 a1 a2 a3 a6
theorem st_not {e : ME} {p : Pos} (g : STt G T cA pr k e) : STt G T cA pr k (.tNot e p) := fun X W sc ok le h => by
  refine PT.weak (pt_not (g X W sc ok le (by simpa [wfE] using h))) ?_
  rintro σ H Q ⟨F, env, fps, ext, s, o, m⟩
  simp only [evT] at m
  refine tT_bind s o m (fun hp => hp) fun b env1 F2 H2 fps2 m a1 a2 a3 a6 => ?_
  exact m F2 H2 fps2 a1 a2 a3 a6
theorem emp_eq {α β : Type} {xs : List α} {vs : List β} (h : xs.length = vs.length) : (!xs.isEmpty) = !vs.isEmpty := by
  cases xs <;> cases vs <;> simp_all
/-- a value's truth -/
theorem truth_rep {K : PySem.W.Frag} {F H : Hp} {x : Val} {v : V} {f : FP} {b : Bool} (r : Rep K F x v f) (s : Same F H) (h : Hold H f) (e : x.truth = some b) : TruV K v H b := by
  cases r with
  | non => cases e; rfl
  | bl => cases e; rfl
  | int => cases e; rfl
  | str =>
    simp only [Val.truth] at e
    split at e
    · rename_i hz
      cases e; exact ⟨hz, rfl⟩
    · cases e
  | tup e1 r1 =>
    cases e
    refine .inr (.inl ⟨_, .of (s _ _ e1), ?_⟩)
    exact emp_eq r1.length
  | lstF e1 r1 =>
    cases e
    refine .inl ⟨_, .of (s _ _ e1), ?_⟩
    exact emp_eq r1.length
  | lstO r1 =>
    cases e
    refine .inl ⟨_, .of h.cons.1, ?_⟩
    exact emp_eq r1.length
  | dKF e1 k1 r1 =>
    cases e
    refine .inr (.inr ⟨_, s _ _ e1, ?_⟩)
    exact emp_eq (by simpa using congrArg List.length k1)
  | dKO k1 r1 =>
    cases e
    refine .inr (.inr ⟨_, h.cons.1, ?_⟩)
    exact emp_eq (by simpa using congrArg List.length k1)
  | dTF => cases e
  | dTO => cases e
  | scr => cases e
/-- an expression that is tested by its value -/
def tEB (K : PySem.W.Frag) (T : Tbl) (cA : Nat → Addr) (W : WX) (m : ME) : TT := fun σ H Q => tE K T cA W m σ H fun v H1 => ∃ b, TruV K v H1 b ∧ Q b H1
theorem tEB_of {K : PySem.W.Frag} {W : WX} {e : ME} {σ : St} {H : Hp} {Q : Bool → Hp → Prop} (h : tT K T cA W (.tru e) σ H Q) : tEB K T cA W e σ H Q := by
  obtain ⟨F, env, fps, ext, s, o, m⟩ := h
  refine ⟨F, env, fps, ext, s, o, ?_⟩
  simp only [evT] at m
  revert m
  cases evE T e env with
  | stuck => exact id
  | exc c e => exact id
  | ok a =>
    obtain ⟨x, u, env1⟩ := a
    intro m F2 H2 fps2 v fp a1 a2 a3 a4 a5 a6
    simp only [R.bind_ok] at m
    cases e1 : x.truth with
    | none => simp only [e1] at m; exact m.elim
    | some b =>
      simp only [e1] at m
      have hh : Hold H2 fp := by
        cases u with
        | false => exact a5 rfl
        | true => exact a3.hold.app.2.app.1
      exact ⟨b, truth_rep a4 a3.same hh e1, m F2 H2 fps2 a1 a2 a3.tmp a6⟩
theorem TruV.bl {K : PySem.W.Frag} {H : Hp} {c b : Bool} (h : TruV K (.bl c) H b) : b = c := h
end
end Mn

set_option Elab.async false
set_option maxRecDepth 100000
set_option linter.all false
/-! Mn13: tests by values, conditional expressions, chains. -/
namespace Mn
open PySem L2
def Op.isB : Op → Bool
  | .lt | .le | .gt | .ge | .ltS | .eq | .ne | .inS | .notinS | .inL | .notinL | .inT | .notinT | .inD | .notinD | .isN | .notN => true
  | _ => false
theorem isB_bl {op : Op} {xs : List (Val × Bool)} {y : Val} {u : Bool} (h : op.isB = true) (e : op.sem xs = some (y, u)) : ∃ b, y = .bl b := by
  cases op <;> first | (simp [Op.isB] at h; done) | skip
  case lt =>
    simp only [Op.sem] at e
    unfold s_lt at e
    split at e <;> (first | (cases e; done) | (cases e; exact ⟨_, rfl⟩) | (split at e <;> first | (cases e; done) | (cases e; exact ⟨_, rfl⟩)) | (simp at e; obtain ⟨k, _, e, _⟩ := e; exact ⟨_, e.symm⟩))
  case le =>
    simp only [Op.sem] at e
    unfold s_le at e
    split at e <;> (first | (cases e; done) | (cases e; exact ⟨_, rfl⟩) | (split at e <;> first | (cases e; done) | (cases e; exact ⟨_, rfl⟩)) | (simp at e; obtain ⟨k, _, e, _⟩ := e; exact ⟨_, e.symm⟩))
  case gt =>
    simp only [Op.sem] at e
    unfold s_gt at e
    split at e <;> (first | (cases e; done) | (cases e; exact ⟨_, rfl⟩) | (split at e <;> first | (cases e; done) | (cases e; exact ⟨_, rfl⟩)) | (simp at e; obtain ⟨k, _, e, _⟩ := e; exact ⟨_, e.symm⟩))
  case ge =>
    simp only [Op.sem] at e
    unfold s_ge at e
    split at e <;> (first | (cases e; done) | (cases e; exact ⟨_, rfl⟩) | (split at e <;> first | (cases e; done) | (cases e; exact ⟨_, rfl⟩)) | (simp at e; obtain ⟨k, _, e, _⟩ := e; exact ⟨_, e.symm⟩))
  case ltS =>
    simp only [Op.sem] at e
    unfold s_ltS at e
    split at e <;> (first | (cases e; done) | (cases e; exact ⟨_, rfl⟩) | (split at e <;> first | (cases e; done) | (cases e; exact ⟨_, rfl⟩)) | (simp at e; obtain ⟨k, _, e, _⟩ := e; exact ⟨_, e.symm⟩))
  case eq =>
    simp only [Op.sem] at e
    unfold s_eq at e
    split at e <;> (first | (cases e; done) | (cases e; exact ⟨_, rfl⟩) | (split at e <;> first | (cases e; done) | (cases e; exact ⟨_, rfl⟩)) | (simp at e; obtain ⟨k, _, e, _⟩ := e; exact ⟨_, e.symm⟩))
  case ne =>
    simp only [Op.sem] at e
    unfold s_ne at e
    split at e <;> (first | (cases e; done) | (cases e; exact ⟨_, rfl⟩) | (split at e <;> first | (cases e; done) | (cases e; exact ⟨_, rfl⟩)) | (simp at e; obtain ⟨k, _, e, _⟩ := e; exact ⟨_, e.symm⟩))
  case inS =>
    simp only [Op.sem] at e
    unfold s_inS at e
    split at e <;> (first | (cases e; done) | (cases e; exact ⟨_, rfl⟩) | (split at e <;> first | (cases e; done) | (cases e; exact ⟨_, rfl⟩)) | (simp at e; obtain ⟨k, _, e, _⟩ := e; exact ⟨_, e.symm⟩))
  case notinS =>
    simp only [Op.sem] at e
    unfold s_notinS at e
    split at e <;> (first | (cases e; done) | (cases e; exact ⟨_, rfl⟩) | (split at e <;> first | (cases e; done) | (cases e; exact ⟨_, rfl⟩)) | (simp at e; obtain ⟨k, _, e, _⟩ := e; exact ⟨_, e.symm⟩))
  case inL =>
    simp only [Op.sem] at e
    unfold s_inL at e
    split at e <;> (first | (cases e; done) | (cases e; exact ⟨_, rfl⟩) | (split at e <;> first | (cases e; done) | (cases e; exact ⟨_, rfl⟩)) | (simp at e; obtain ⟨k, _, e, _⟩ := e; exact ⟨_, e.symm⟩))
  case notinL =>
    simp only [Op.sem] at e
    unfold s_notinL at e
    split at e <;> (first | (cases e; done) | (cases e; exact ⟨_, rfl⟩) | (split at e <;> first | (cases e; done) | (cases e; exact ⟨_, rfl⟩)) | (simp at e; obtain ⟨k, _, e, _⟩ := e; exact ⟨_, e.symm⟩))
  case inT =>
    simp only [Op.sem] at e
    unfold s_inT at e
    split at e <;> (first | (cases e; done) | (cases e; exact ⟨_, rfl⟩) | (split at e <;> first | (cases e; done) | (cases e; exact ⟨_, rfl⟩)) | (simp at e; obtain ⟨k, _, e, _⟩ := e; exact ⟨_, e.symm⟩))
  case notinT =>
    simp only [Op.sem] at e
    unfold s_notinT at e
    split at e <;> (first | (cases e; done) | (cases e; exact ⟨_, rfl⟩) | (split at e <;> first | (cases e; done) | (cases e; exact ⟨_, rfl⟩)) | (simp at e; obtain ⟨k, _, e, _⟩ := e; exact ⟨_, e.symm⟩))
  case inD =>
    simp only [Op.sem] at e
    unfold s_inD at e
    split at e <;> (first | (cases e; done) | (cases e; exact ⟨_, rfl⟩) | (split at e <;> first | (cases e; done) | (cases e; exact ⟨_, rfl⟩)) | (simp at e; obtain ⟨k, _, e, _⟩ := e; exact ⟨_, e.symm⟩))
  case notinD =>
    simp only [Op.sem] at e
    unfold s_notinD at e
    split at e <;> (first | (cases e; done) | (cases e; exact ⟨_, rfl⟩) | (split at e <;> first | (cases e; done) | (cases e; exact ⟨_, rfl⟩)) | (simp at e; obtain ⟨k, _, e, _⟩ := e; exact ⟨_, e.symm⟩))
  case isN =>
    simp only [Op.sem] at e
    unfold s_isN at e
    split at e <;> (first | (cases e; done) | (cases e; exact ⟨_, rfl⟩) | (split at e <;> first | (cases e; done) | (cases e; exact ⟨_, rfl⟩)) | (simp at e; obtain ⟨k, _, e, _⟩ := e; exact ⟨_, e.symm⟩))
  case notN =>
    simp only [Op.sem] at e
    unfold s_notN at e
    split at e <;> (first | (cases e; done) | (cases e; exact ⟨_, rfl⟩) | (split at e <;> first | (cases e; done) | (cases e; exact ⟨_, rfl⟩)) | (simp at e; obtain ⟨k, _, e, _⟩ := e; exact ⟨_, e.symm⟩))

section
variable {G : Nms} {T : Tbl} {cA : Nat → Addr} {pr : List Nat} {k : Nat}
/-- a test whose value is a truth -/
theorem tE_bl {K : PySem.W.Frag} {W : WX} {e : ME} {σ : St} {H : Hp} {Q : Bool → Hp → Prop} (hb : ∀ env x u env1, evE T e env = .ok (x, u, env1) → ∃ b, x = .bl b) (h : tT K T cA W (.tru e) σ H Q) :
    tE K T cA W e σ H fun v H1 => ∃ c, v = .bl c ∧ Q c H1 := by
  obtain ⟨F, env, fps, ext, s, o, m⟩ := h
  refine ⟨F, env, fps, ext, s, o, ?_⟩
  simp only [evT] at m
  have hb := hb env
  revert m hb
  cases evE T e env with
  | stuck => exact fun m _ => m
  | exc c e => exact fun m _ => m
  | ok a =>
    obtain ⟨x, u, env1⟩ := a
    intro m hb F2 H2 fps2 v fp a1 a2 a3 a4 a5 a6
    obtain ⟨b, rfl⟩ := hb x u env1 rfl
    simp only [R.bind_ok, Val.truth] at m
    cases a4
    exact ⟨b, rfl, m F2 H2 fps2 a1 a2 a3.tmp a6⟩
theorem prim_bl {op : Op} {kk : Nat} {p q r : Pos} {es : List ME} (h : op.isB = true) : ∀ env x u env1, evE T (.prim op kk p q r es) env = .ok (x, u, env1) → ∃ b, x = .bl b := by
  intro env x u env1 e
  simp only [evE] at e
  cases e1 : evL T es env with
  | stuck => simp [e1] at e
  | exc c w => simp [e1] at e
  | ok a =>
    obtain ⟨xs, env2⟩ := a
    simp only [e1, R.bind_ok] at e
    cases e2 : op.sem xs with
    | none => simp [e2] at e
    | some yu =>
      obtain ⟨y, u'⟩ := yu
      simp only [e2] at e
      cases e
      exact isB_bl h e2
/-- what is tested by its value alone -/
theorem PlainT.tr {e : Expr} (h : PlainT e) (env : PySem.Env) (whole : Sem Value) : isTrue e env whole = (do let v ← whole; standAt e.pos; holding [v] (truthy v)) := by cases h <;> rfl
theorem st_plain {e : ME} (g : SE G T cA pr k e) (hp : PlainT (er e)) : STt G T cA pr k (.tru e) := fun X W sc ok le h => by
  simp only [wfE, Bool.and_eq_true] at h
  exact PT.weak (pt_truth (g X W sc ok le h.2) (hp.tr X.env)) fun σ H Q h => tEB_of h
theorem st_lt {kk : Nat} {p q r : Pos} {es : List ME} (g : ∀ e ∈ es, SE G T cA pr k e) : STt G T cA pr k (.tru (.prim .lt kk p q r es)) := fun X W sc ok le h => by
  simp only [wfE, Op.wf, Bool.and_eq_true] at h
  obtain ⟨a, b, rfl⟩ := two_of h.2.1
  have hw := h.2.2
  simp only [wfEL, Bool.and_eq_true] at hw
  have ha := g a (by simp) X W sc ok le hw.1
  have hb := g b (by simp) X W sc ok le hw.2.1
  exact PT.weak (pt_cmpR op_lt ha hb (plain_er b hw.2.1).mark) fun σ H Q h => bin_ok (fun x y H Q => pp_lt) (tE_bl (prim_bl rfl) h)
theorem st_le {kk : Nat} {p q r : Pos} {es : List ME} (g : ∀ e ∈ es, SE G T cA pr k e) : STt G T cA pr k (.tru (.prim .le kk p q r es)) := fun X W sc ok le h => by
  simp only [wfE, Op.wf, Bool.and_eq_true] at h
  obtain ⟨a, b, rfl⟩ := two_of h.2.1
  have hw := h.2.2
  simp only [wfEL, Bool.and_eq_true] at hw
  have ha := g a (by simp) X W sc ok le hw.1
  have hb := g b (by simp) X W sc ok le hw.2.1
  exact PT.weak (pt_cmpR op_le ha hb (plain_er b hw.2.1).mark) fun σ H Q h => bin_ok (fun x y H Q => pp_le) (tE_bl (prim_bl rfl) h)
theorem st_gt {kk : Nat} {p q r : Pos} {es : List ME} (g : ∀ e ∈ es, SE G T cA pr k e) : STt G T cA pr k (.tru (.prim .gt kk p q r es)) := fun X W sc ok le h => by
  simp only [wfE, Op.wf, Bool.and_eq_true] at h
  obtain ⟨a, b, rfl⟩ := two_of h.2.1
  have hw := h.2.2
  simp only [wfEL, Bool.and_eq_true] at hw
  have ha := g a (by simp) X W sc ok le hw.1
  have hb := g b (by simp) X W sc ok le hw.2.1
  exact PT.weak (pt_cmpR op_gt ha hb (plain_er b hw.2.1).mark) fun σ H Q h => bin_ok (fun x y H Q => pp_gt) (tE_bl (prim_bl rfl) h)
theorem st_ge {kk : Nat} {p q r : Pos} {es : List ME} (g : ∀ e ∈ es, SE G T cA pr k e) : STt G T cA pr k (.tru (.prim .ge kk p q r es)) := fun X W sc ok le h => by
  simp only [wfE, Op.wf, Bool.and_eq_true] at h
  obtain ⟨a, b, rfl⟩ := two_of h.2.1
  have hw := h.2.2
  simp only [wfEL, Bool.and_eq_true] at hw
  have ha := g a (by simp) X W sc ok le hw.1
  have hb := g b (by simp) X W sc ok le hw.2.1
  exact PT.weak (pt_cmpR op_ge ha hb (plain_er b hw.2.1).mark) fun σ H Q h => bin_ok (fun x y H Q => pp_ge) (tE_bl (prim_bl rfl) h)
theorem st_ltS {kk : Nat} {p q r : Pos} {es : List ME} (g : ∀ e ∈ es, SE G T cA pr k e) : STt G T cA pr k (.tru (.prim .ltS kk p q r es)) := fun X W sc ok le h => by
  simp only [wfE, Op.wf, Bool.and_eq_true] at h
  obtain ⟨a, b, rfl⟩ := two_of h.2.1
  have hw := h.2.2
  simp only [wfEL, Bool.and_eq_true] at hw
  have ha := g a (by simp) X W sc ok le hw.1
  have hb := g b (by simp) X W sc ok le hw.2.1
  exact PT.weak (pt_cmpR op_lt_str ha hb (plain_er b hw.2.1).mark) fun σ H Q h => bin_ok (fun x y H Q => pp_ltS) (tE_bl (prim_bl rfl) h)
theorem st_eq {kk : Nat} {p q r : Pos} {es : List ME} (g : ∀ e ∈ es, SE G T cA pr k e) : STt G T cA pr k (.tru (.prim .eq kk p q r es)) := fun X W sc ok le h => by
  simp only [wfE, Op.wf, Bool.and_eq_true] at h
  obtain ⟨a, b, rfl⟩ := two_of h.2.1
  have hw := h.2.2
  simp only [wfEL, Bool.and_eq_true] at hw
  have ha := g a (by simp) X W sc ok le hw.1
  have hb := g b (by simp) X W sc ok le hw.2.1
  exact PT.weak (pt_cmpR (op_eqD ok.u64) ha hb (plain_er b hw.2.1).mark) fun σ H Q h => bin_ok (fun x y H Q => pp_eq) (tE_bl (prim_bl rfl) h)
theorem st_ne {kk : Nat} {p q r : Pos} {es : List ME} (g : ∀ e ∈ es, SE G T cA pr k e) : STt G T cA pr k (.tru (.prim .ne kk p q r es)) := fun X W sc ok le h => by
  simp only [wfE, Op.wf, Bool.and_eq_true] at h
  obtain ⟨a, b, rfl⟩ := two_of h.2.1
  have hw := h.2.2
  simp only [wfEL, Bool.and_eq_true] at hw
  have ha := g a (by simp) X W sc ok le hw.1
  have hb := g b (by simp) X W sc ok le hw.2.1
  exact PT.weak (pt_cmpR (op_neD ok.u64) ha hb (plain_er b hw.2.1).mark) fun σ H Q h => bin_ok (fun x y H Q => pp_ne) (tE_bl (prim_bl rfl) h)
theorem st_inS {kk : Nat} {p q r : Pos} {es : List ME} (g : ∀ e ∈ es, SE G T cA pr k e) : STt G T cA pr k (.tru (.prim .inS kk p q r es)) := fun X W sc ok le h => by
  simp only [wfE, Op.wf, Bool.and_eq_true] at h
  obtain ⟨a, b, rfl⟩ := two_of h.2.1
  have hw := h.2.2
  simp only [wfEL, Bool.and_eq_true] at hw
  have ha := g a (by simp) X W sc ok le hw.1
  have hb := g b (by simp) X W sc ok le hw.2.1
  exact PT.weak (pt_cmpR op_in_sign ha hb (plain_er b hw.2.1).mark) fun σ H Q h => bin_ok (fun x y H Q => pp_inS) (tE_bl (prim_bl rfl) h)
theorem st_notinS {kk : Nat} {p q r : Pos} {es : List ME} (g : ∀ e ∈ es, SE G T cA pr k e) : STt G T cA pr k (.tru (.prim .notinS kk p q r es)) := fun X W sc ok le h => by
  simp only [wfE, Op.wf, Bool.and_eq_true] at h
  obtain ⟨a, b, rfl⟩ := two_of h.2.1
  have hw := h.2.2
  simp only [wfEL, Bool.and_eq_true] at hw
  have ha := g a (by simp) X W sc ok le hw.1
  have hb := g b (by simp) X W sc ok le hw.2.1
  exact PT.weak (pt_cmpR op_notIn_sign ha hb (plain_er b hw.2.1).mark) fun σ H Q h => bin_ok (fun x y H Q => pp_notinS) (tE_bl (prim_bl rfl) h)
theorem st_inL {kk : Nat} {p q r : Pos} {es : List ME} (g : ∀ e ∈ es, SE G T cA pr k e) : STt G T cA pr k (.tru (.prim .inL kk p q r es)) := fun X W sc ok le h => by
  simp only [wfE, Op.wf, Bool.and_eq_true] at h
  obtain ⟨a, b, rfl⟩ := two_of h.2.1
  have hw := h.2.2
  simp only [wfEL, Bool.and_eq_true] at hw
  have ha := g a (by simp) X W sc ok le hw.1
  have hb := g b (by simp) X W sc ok le hw.2.1
  exact PT.weak (pt_cmpR (op_inD ok.u65) ha hb (plain_er b hw.2.1).mark) fun σ H Q h => bin_ok (fun x y H Q => pp_inL) (tE_bl (prim_bl rfl) h)
theorem st_notinL {kk : Nat} {p q r : Pos} {es : List ME} (g : ∀ e ∈ es, SE G T cA pr k e) : STt G T cA pr k (.tru (.prim .notinL kk p q r es)) := fun X W sc ok le h => by
  simp only [wfE, Op.wf, Bool.and_eq_true] at h
  obtain ⟨a, b, rfl⟩ := two_of h.2.1
  have hw := h.2.2
  simp only [wfEL, Bool.and_eq_true] at hw
  have ha := g a (by simp) X W sc ok le hw.1
  have hb := g b (by simp) X W sc ok le hw.2.1
  exact PT.weak (pt_cmpR (op_notInD ok.u65) ha hb (plain_er b hw.2.1).mark) fun σ H Q h => bin_ok (fun x y H Q => pp_notinL) (tE_bl (prim_bl rfl) h)
theorem st_inT {kk : Nat} {p q r : Pos} {es : List ME} (g : ∀ e ∈ es, SE G T cA pr k e) : STt G T cA pr k (.tru (.prim .inT kk p q r es)) := fun X W sc ok le h => by
  simp only [wfE, Op.wf, Bool.and_eq_true] at h
  obtain ⟨a, b, rfl⟩ := two_of h.2.1
  have hw := h.2.2
  simp only [wfEL, Bool.and_eq_true] at hw
  have ha := g a (by simp) X W sc ok le hw.1
  have hb := g b (by simp) X W sc ok le hw.2.1
  exact PT.weak (pt_cmpR op_in_seq ha hb (plain_er b hw.2.1).mark) fun σ H Q h => bin_ok (fun x y H Q => pp_inT) (tE_bl (prim_bl rfl) h)
theorem st_notinT {kk : Nat} {p q r : Pos} {es : List ME} (g : ∀ e ∈ es, SE G T cA pr k e) : STt G T cA pr k (.tru (.prim .notinT kk p q r es)) := fun X W sc ok le h => by
  simp only [wfE, Op.wf, Bool.and_eq_true] at h
  obtain ⟨a, b, rfl⟩ := two_of h.2.1
  have hw := h.2.2
  simp only [wfEL, Bool.and_eq_true] at hw
  have ha := g a (by simp) X W sc ok le hw.1
  have hb := g b (by simp) X W sc ok le hw.2.1
  exact PT.weak (pt_cmpR op_notIn_seq ha hb (plain_er b hw.2.1).mark) fun σ H Q h => bin_ok (fun x y H Q => pp_notinT) (tE_bl (prim_bl rfl) h)
theorem st_inD {kk : Nat} {p q r : Pos} {es : List ME} (g : ∀ e ∈ es, SE G T cA pr k e) : STt G T cA pr k (.tru (.prim .inD kk p q r es)) := fun X W sc ok le h => by
  simp only [wfE, Op.wf, Bool.and_eq_true] at h
  obtain ⟨a, b, rfl⟩ := two_of h.2.1
  have hw := h.2.2
  simp only [wfEL, Bool.and_eq_true] at hw
  have ha := g a (by simp) X W sc ok le hw.1
  have hb := g b (by simp) X W sc ok le hw.2.1
  exact PT.weak (pt_cmp (pc_din ok.u1 ha hb) (plain_er b hw.2.1).mark) fun σ H Q h => tE_mono (tL_two (tE_prim (tE_bl (prim_bl rfl) h))) fun x _ h1 => tE_mono h1 fun y _ h2 => pp_inD h2
theorem st_notinD {kk : Nat} {p q r : Pos} {es : List ME} (g : ∀ e ∈ es, SE G T cA pr k e) : STt G T cA pr k (.tru (.prim .notinD kk p q r es)) := fun X W sc ok le h => by
  simp only [wfE, Op.wf, Bool.and_eq_true] at h
  obtain ⟨a, b, rfl⟩ := two_of h.2.1
  have hw := h.2.2
  simp only [wfEL, Bool.and_eq_true] at hw
  have ha := g a (by simp) X W sc ok le hw.1
  have hb := g b (by simp) X W sc ok le hw.2.1
  exact PT.weak (pt_cmp (pc_dnotin ok.u1 ha hb) (plain_er b hw.2.1).mark) fun σ H Q h => tE_mono (tL_two (tE_prim (tE_bl (prim_bl rfl) h))) fun x _ h1 => tE_mono h1 fun y _ h2 => pp_notinD h2
theorem st_isN {kk : Nat} {p q r : Pos} {es : List ME} (g : ∀ e ∈ es, SE G T cA pr k e) : STt G T cA pr k (.tru (.prim .isN kk p q r es)) := fun X W sc ok le h => by
  simp only [wfE, Op.wf, Bool.and_eq_true] at h
  obtain ⟨a, rfl⟩ := one_of h.2.1
  have hw := h.2.2
  simp only [wfEL, Bool.and_eq_true] at hw
  have ha := g a (by simp) X W sc ok le hw.1
  exact PT.weak (pt_cmp (pc_isN ha)) fun σ H Q h => tE_mono (tL_one (tE_prim (tE_bl (prim_bl rfl) h))) fun x _ h1 => pp_isN h1
theorem st_notN {kk : Nat} {p q r : Pos} {es : List ME} (g : ∀ e ∈ es, SE G T cA pr k e) : STt G T cA pr k (.tru (.prim .notN kk p q r es)) := fun X W sc ok le h => by
  simp only [wfE, Op.wf, Bool.and_eq_true] at h
  obtain ⟨a, rfl⟩ := one_of h.2.1
  have hw := h.2.2
  simp only [wfEL, Bool.and_eq_true] at hw
  have ha := g a (by simp) X W sc ok le hw.1
  exact PT.weak (pt_cmp (pc_notN ha)) fun σ H Q h => tE_mono (tL_one (tE_prim (tE_bl (prim_bl rfl) h))) fun x _ h1 => pp_notN h1
theorem op_plainT {op : Op} (h : op.isB = false) (h2 : ∀ a b, op ≠ .alt a b) (k : Nat) (p q r : Pos) (es : List Expr) : PlainT (op.er k p q r es) := by
  unfold Op.er
  split <;> first | constructor | (simp [Op.isB] at h; done) | exact absurd rfl (h2 _ _)
theorem PT.or {X : Cx} {e : Expr} {t t' : TT} (h : PT X e t) (h' : PT X e t') : PT X e (fun σ H Q => t σ H Q ∨ t' σ H Q) := ⟨fun pins s σ H Q I q => q.elim (h.run pins s σ H Q I) (h'.run pins s σ H Q I)⟩
theorem alt_splitT {K : PySem.W.Frag} {W : WX} {a b : Op} {kk : Nat} {p q r : Pos} {es : List ME} {σ : St} {H : Hp} {Q : Bool → Hp → Prop} (h : tT K T cA W (.tru (.prim (.alt a b) kk p q r es)) σ H Q) : tT K T cA W (.tru (.prim a kk p q r es)) σ H Q ∨ tT K T cA W (.tru (.prim b kk p q r es)) σ H Q := by
  obtain ⟨F, env, fps, ext, s, o, m⟩ := h
  simp only [evT, evE] at m
  cases e : evL T es env with
  | stuck => rw [e] at m; exact m.elim
  | exc c env1 =>
    refine .inl ⟨F, env, fps, ext, s, o, ?_⟩
    simp only [evT, evE]
    rw [e] at m ⊢
    exact m
  | ok y =>
    cases ea : a.sem y.1 with
    | some z =>
      refine .inl ⟨F, env, fps, ext, s, o, ?_⟩
      simp only [evT, evE]
      rw [e] at m ⊢
      simp only [R.bind_ok, Op.sem, s_alt, ea] at m ⊢
      exact m
    | none =>
      refine .inr ⟨F, env, fps, ext, s, o, ?_⟩
      simp only [evT, evE]
      rw [e] at m ⊢
      simp only [R.bind_ok, Op.sem, s_alt, ea] at m ⊢
      exact m
theorem st_alt {a b : Op} {kk : Nat} {p q r : Pos} {es : List ME} (ga : STt G T cA pr k (.tru (.prim a kk p q r es))) (gb : STt G T cA pr k (.tru (.prim b kk p q r es))) : STt G T cA pr k (.tru (.prim (.alt a b) kk p q r es)) := fun X W sc ok le h => by
  simp only [wfE, Op.wf, Bool.and_eq_true, beq_iff_eq, bne_iff_ne] at h
  obtain ⟨h0, ⟨⟨⟨h1, h2⟩, h3⟩, h4⟩, h5⟩ := h
  have pa := ga X W sc ok le (by simp only [wfE, Bool.and_eq_true]; exact ⟨rfl, h3, h5⟩)
  have pb := gb X W sc ok le (by simp only [wfE, Bool.and_eq_true]; exact ⟨rfl, h4, h5⟩)
  simp only [er] at pa pb ⊢
  rw [er_fam a h2] at pa
  rw [er_fam b (h1 ▸ h2), ← h1] at pb
  exact PT.weak (PT.or pa pb) fun σ H Q q => alt_splitT q
theorem st_prim0 {op : Op} {kk : Nat} {p q r : Pos} {es : List ME} (h2 : ∀ a b, op ≠ .alt a b) (g : ∀ e ∈ es, SE G T cA pr k e) : STt G T cA pr k (.tru (.prim op kk p q r es)) := by
  by_cases hB : op.isB = false
  · exact st_plain (se_prim g) (op_plainT hB h2 _ _ _ _ _)
  · cases op <;> try exact absurd rfl hB
    case lt => exact st_lt g
    case le => exact st_le g
    case gt => exact st_gt g
    case ge => exact st_ge g
    case ltS => exact st_ltS g
    case eq => exact st_eq g
    case ne => exact st_ne g
    case inS => exact st_inS g
    case notinS => exact st_notinS g
    case inL => exact st_inL g
    case notinL => exact st_notinL g
    case inT => exact st_inT g
    case notinT => exact st_notinT g
    case inD => exact st_inD g
    case notinD => exact st_notinD g
    case isN => exact st_isN g
    case notN => exact st_notN g
theorem st_prim {op : Op} {kk : Nat} {p q r : Pos} {es : List ME} (g : ∀ e ∈ es, SE G T cA pr k e) : STt G T cA pr k (.tru (.prim op kk p q r es)) := by
  induction op with
  | alt a b iha ihb => exact st_alt iha ihb
  | _ => exact st_prim0 nofun g

/-! conditional expressions -/
theorem se_ife {c a b : ME} {p : Pos} (gc : STt G T cA pr k c) (ga : SE G T cA pr k a) (gb : SE G T cA pr k b) : SE G T cA pr k (.ife c a b p) := fun X W sc ok le h => by
  simp only [wfE, Bool.and_eq_true] at h
  obtain ⟨⟨h1, h2⟩, h3⟩ := h
  refine PE.weak (pe_ifExp (gc X W sc ok le h1) (ga X W sc ok le h2) (gb X W sc ok le h3)) ?_
  rintro σ H Q ⟨F, env, fps, ext, s, o, m⟩
  simp only [evE] at m
  refine ⟨F, env, fps, ext, s, o, ?_⟩
  revert m
  cases evT T c env with
  | stuck => exact id
  | exc c e => exact id
  | ok q =>
    obtain ⟨t, env1⟩ := q
    intro m F2 H2 fps2 a1 a2 a3 a6
    cases t with
    | true => exact iteT ⟨F2, env1, fps2, ext, a2, a3, PoE.later (r := evE T a env1) m a1 (fun hp => a6 (by simp only [ME.pure, Bool.and_eq_true] at hp; exact hp.1.1)) (fun hp => by simp only [ME.pure, Bool.and_eq_true] at hp; exact hp.1.2)⟩
    | false => exact iteF ⟨F2, env1, fps2, ext, a2, a3, PoE.later (r := evE T b env1) m a1 (fun hp => a6 (by simp only [ME.pure, Bool.and_eq_true] at hp; exact hp.1.1)) (fun hp => by simp only [ME.pure, Bool.and_eq_true] at hp; exact hp.2)⟩
/-! chains of two comparisons of numbers -/
def cmpF : Op → Int → Int → Bool
  | .lt => fun i j => decide (i < j) | .le => fun i j => decide (i ≤ j) | .gt => fun i j => decide (j < i) | _ => fun i j => decide (j ≤ i)
def isOrd (o : Op) : Bool := o matches .lt | .le | .gt | .ge
theorem ord_rule {X : Cx} {o : Op} (h : isOrd o = true) : OpR X (compareOp (cmpO o)) (rI0 fun i j => .bl (cmpF o i j)) := by
  cases o <;> first | exact op_lt | exact op_le | exact op_gt | exact op_ge | (simp [isOrd] at h)
theorem ord_sem {o : Op} (h : isOrd o = true) {x y : Val} {u t : Bool} : (∃ i j, x = .int i ∧ y = .int j ∧ o.sem [(x, u), (y, t)] = some (.bl (cmpF o i j), true)) ∨ o.sem [(x, u), (y, t)] = none := by
  cases o <;> first | (simp [isOrd] at h; done) | skip
  all_goals (cases x <;> first | exact .inr rfl | (cases y <;> first | exact .inr rfl | exact .inl ⟨_, _, rfl, rfl, rfl⟩))
theorem ord_mark {o1 o2 : Op} {b c : Expr} (h : isOrd o2 = true) : lastMarks [cmpO o1, cmpO o2] [b, c] = false := by
  show behindInMarks (cmpO o2) c = false
  cases o2 <;> first | exact nomark c (by decide) (by decide) | (simp [isOrd] at h)
theorem tE_chain {K : PySem.W.Frag} {W : WX} {σ : St} {H : Hp} {Q : VK} {o1 o2 : Op} {a b c : ME} {p : Pos} (h1 : isOrd o1 = true) (h2 : isOrd o2 = true) (h : tE K T cA W (.chain o1 o2 a b c p) σ H Q) :
    tChain (rI0 fun i j => .bl (cmpF o1 i j)) (rI0 fun i j => .bl (cmpF o2 i j)) (tE K T cA W a) (tE K T cA W b) (tE K T cA W c) σ H Q := by
  obtain ⟨F, env, fps, ext, s, o, m⟩ := h
  simp only [evE] at m
  refine tE_bind s o m (fun hp => by simp only [ME.pure, Bool.and_eq_true] at hp; exact hp.1.1) fun x u env1 F2 H2 fps2 v fp m a1 a2 a3 a4 a5 a6 => ?_
  have m2 := m.later (pu' := b.pure && c.pure) a1 a6 (fun hp => by simp only [ME.pure, Bool.and_eq_true] at hp ⊢; exact ⟨hp.1.2, hp.2⟩)
  refine tE_bind a2 a3.tmp m2 (fun hp => by simp only [Bool.and_eq_true] at hp; exact hp.1) fun y t env2 F3 H3 fps3 w fp2 m b1 b2 b3 b4 b5 b6 => ?_
  split at m
  · rcases ord_sem (o := o1) h1 (x := x) (y := y) (u := u) (t := t) with ⟨i, j, rfl, rfl, e⟩ | e
    · rw [e] at m
      obtain ⟨rfl, _⟩ := a4.int_inv
      obtain ⟨rfl, _⟩ := b4.int_inv
      refine ⟨i, j, rfl, rfl, _, rfl, ?_⟩
      cases ec : cmpF o1 i j with
      | true =>
        simp only [ec] at m
        have m3 := m.later (pu' := c.pure) b1 b6 (fun hp => by simp only [Bool.and_eq_true] at hp; exact hp.2)
        refine iteT (tE_bind b2 b3.tmp m3 (fun hp => hp) fun z t2 env3 F4 H4 fps4 w4 fp4 m c1 c2 c3 c4 c5 c6 => ?_)
        rcases ord_sem (o := o2) h2 (x := .int j) (y := z) (u := t) (t := t2) with ⟨i', j', e1, rfl, e2⟩ | e2
        · rw [e2] at m
          cases e1
          obtain ⟨rfl, _⟩ := c4.int_inv
          exact ⟨_, _, rfl, rfl, m F4 H4 fps4 _ [] c1 c2 c3.drop .bl nofun c6⟩
        · rw [e2] at m; exact m.elim
      | false =>
        simp only [ec] at m
        exact iteF (m F3 H3 fps3 _ [] b1 b2 b3.drop .bl nofun b6)
    · rw [e] at m; exact m.elim
  · exact m.elim
theorem isOrd_of {o : Op} (h : (o matches .lt | .le | .gt | .ge) = true) : isOrd o = true := h
theorem se_chain {o1 o2 : Op} {a b c : ME} {p : Pos} (ga : SE G T cA pr k a) (gb : SE G T cA pr k b) (gc : SE G T cA pr k c) : SE G T cA pr k (.chain o1 o2 a b c p) := fun X W sc ok le h => by
  simp only [wfE, Bool.and_eq_true] at h
  obtain ⟨⟨⟨⟨h1, h2⟩, h3⟩, h4⟩, h5⟩ := h
  exact PE.weak (pe_chain (ord_rule (isOrd_of h1)) (ord_rule (isOrd_of h2)) (ga X W sc ok le h3) (gb X W sc ok le h4) (gc X W sc ok le h5) (ord_mark (isOrd_of h2))) fun σ H Q h => tE_chain (isOrd_of h1) (isOrd_of h2) h
theorem chain_bl {o1 o2 : Op} {a b c : ME} {p : Pos} : ∀ env x u env1, evE T (.chain o1 o2 a b c p) env = .ok (x, u, env1) → ∃ b, x = .bl b := by
  intro env x u env1 e
  simp only [evE] at e
  cases e1 : evE T a env with
  | stuck => simp [e1] at e
  | exc c w => simp [e1] at e
  | ok a1 =>
    obtain ⟨x1, u1, env2⟩ := a1
    simp only [e1, R.bind_ok] at e
    cases e2 : evE T b env2 with
    | stuck => simp [e2] at e
    | exc c w => simp [e2] at e
    | ok a2 =>
      obtain ⟨x2, u2, env3⟩ := a2
      simp only [e2, R.bind_ok] at e
      split at e
      · split at e
        · cases e3 : evE T c env3 with
          | stuck => simp [e3] at e
          | exc c w => simp [e3] at e
          | ok a3 =>
            obtain ⟨x3, u3, env4⟩ := a3
            simp only [e3, R.bind_ok] at e
            split at e <;> cases e
            exact ⟨_, rfl⟩
        · cases e; exact ⟨_, rfl⟩
        · cases e
      · cases e
theorem st_chain {o1 o2 : Op} {a b c : ME} {p : Pos} (ga : SE G T cA pr k a) (gb : SE G T cA pr k b) (gc : SE G T cA pr k c) : STt G T cA pr k (.tru (.chain o1 o2 a b c p)) := fun X W sc ok le h => by
  simp only [wfE, Bool.and_eq_true] at h
  obtain ⟨_, ⟨⟨⟨h1, h2⟩, h3⟩, h4⟩, h5⟩ := h
  exact PT.weak (pt_chain (ord_rule (isOrd_of h1)) (ord_rule (isOrd_of h2)) (ga X W sc ok le h3) (gb X W sc ok le h4) (gc X W sc ok le h5) (ord_mark (isOrd_of h2))) fun σ H Q h => tE_chain (isOrd_of h1) (isOrd_of h2) (tE_bl chain_bl h)
end
end Mn

set_option Elab.async false
set_option maxRecDepth 100000
set_option linter.all false
/-! Mn14: calls of defs. -/
namespace Mn
open PySem L2
section
variable {K : PySem.W.Frag} {F F' : Hp}
inductive Agv (K : PySem.W.Frag) (F : Hp) (σ : St) : List (Option Nat × Val) → List V → FP → Prop
  | nil : Agv K F σ [] [] []
  | val {x v fp as vs fo} : Rep K F x v fp → Agv K F σ as vs fo → Agv K F σ ((none, x) :: as) (v :: vs) (fo ++ fp)
  | lnd {i y v as vs fo} : σ[i]? = some (some v) → Agv K F σ as vs fo → Agv K F σ ((some i, y) :: as) (v :: vs) fo
theorem Agv.len {σ : St} : ∀ {as vs fo}, Agv K F σ as vs fo → as.length = vs.length
  | _, _, _, .nil => rfl
  | _, _, _, .val _ r => by simp [r.len]
  | _, _, _, .lnd _ r => by simp [r.len]
theorem perm4 {a b c d : FP} : (a ++ (b ++ (c ++ d))).Perm (c ++ (a ++ (b ++ d))) := by
  have h1 : (b ++ (c ++ d)).Perm (c ++ (b ++ d)) := List.perm_append_comm_assoc _ _ _
  exact (h1.append_left a).trans (List.perm_append_comm_assoc _ _ _)
theorem lend_out {σ : St} : ∀ {as : List (Option Nat × Val)} {vs : List V} {fo : FP} {env : Env} {fps : List FP} {xs : List Val} {env3 : Env}, Agv K F σ as vs fo → Sl K F env σ fps → lendOut env as = some (xs, env3) →
    ∃ fpa fps3, Reps K F xs vs fpa ∧ Sl K F env3 σ fps3 ∧ (fps.flatten ++ fo).Perm (fpa ++ fps3.flatten)
  | _, _, _, env, fps, xs, env3, .nil, s, e => by
    simp [lendOut] at e
    obtain ⟨rfl, rfl⟩ := e
    exact ⟨[], fps, .nil, s, by simp⟩
  | _, _, _, env, fps, xs, env3, .val (fp := fp) (fo := fo) a r, s, e => by
    simp only [lendOut] at e
    cases e1 : lendOut env _ with
    | none => rw [e1] at e; cases e
    | some q =>
      rw [e1] at e
      cases e
      obtain ⟨fpa, fps3, h1, h2, h3⟩ := lend_out (xs := q.1) (env3 := q.2) r s e1
      refine ⟨fp ++ fpa, fps3, .cons a h1, h2, ?_⟩
      rw [← List.append_assoc]
      refine (h3.append (List.Perm.refl fp)).trans ?_
      exact List.perm_append_comm.trans (by rw [List.append_assoc])
  | _, _, _, env, fps, xs, env3, .lnd (i := i) hv r, s, e => by
    simp only [lendOut] at e
    split at e
    · rename_i x ex
      obtain ⟨v, fp, fps', h1, h2, h3, h4, _⟩ := s.get ex
      cases e1 : lendOut (env.set i none) _ with
      | none => rw [e1] at e; cases e
      | some q =>
        rw [e1] at e
        cases e
        obtain ⟨fpa, fps3, q1, q2, q3⟩ := lend_out (xs := q.1) (env3 := q.2) r h4 e1
        obtain rfl := Option.some.inj (Option.some.inj (h1.symm.trans hv))
        refine ⟨fp ++ fpa, fps3, .cons h2 q1, q2, ?_⟩
        refine (h3.append (List.Perm.refl _)).trans ?_
        rw [List.append_assoc, List.append_assoc]
        exact q3.append_left fp
    · cases e
theorem lend_back {σ : St} : ∀ {as : List (Option Nat × Val)} {vs : List V} {fo : FP} {outs : List (Option Val)} {fo' : FP} {env : Env} {fps : List FP} {env4 : Env}, Agv K F σ as vs fo → Outs K F' outs vs fo' → Sl K F' env σ fps → lendBack env as outs = some env4 →
    ∃ fps4 rest, Sl K F' env4 σ fps4 ∧ (fo' ++ fps.flatten).Perm (fps4.flatten ++ rest)
  | _, _, _, _, _, env, fps, env4, .nil, .nil, s, e => by
    simp [lendBack] at e
    subst e
    exact ⟨fps, [], s, by simp⟩
  | _, _, _, _, _, env, fps, env4, .val a r, .no ro, s, e => lend_back r ro s (by simpa [lendBack] using e)
  | _, _, _, _, _, env, fps, env4, .val a r, .so (fp := fp) (fo := fo2) b ro, s, e => by
    obtain ⟨fps4, rest, h1, h2⟩ := lend_back r ro s (by simpa [lendBack] using e)
    refine ⟨fps4, fp ++ rest, h1, ?_⟩
    rw [List.append_assoc]
    refine (h2.append_left fp).trans ?_
    exact List.perm_append_comm_assoc _ _ _
  | _, _, _, _, _, env, fps, env4, .lnd hv r, .no ro, s, e => by simp [lendBack] at e
  | _, _, _, _, _, env, fps, env4, .lnd (i := i) hv r, .so (x := x) (fp := fp) (fo := fo2) b ro, s, e => by
    simp only [lendBack] at e
    have hi : i < env.length := by rw [s.length]; exact (List.getElem?_eq_some_iff.mp hv).1
    obtain ⟨fps2, q1, g, q2, q3⟩ := s.put (i := i) hi b
    rw [set_self hv] at q1
    obtain ⟨fps4, rest, h1, h2⟩ := lend_back r ro q1 e
    obtain ⟨c, hc⟩ := q2.exists_perm_append
    refine ⟨fps4, c ++ rest, h1, ?_⟩
    have e1 : (fp ++ fo2 ++ fps.flatten).Perm (fp ++ fo2 ++ (g ++ c)) := hc.append_left _
    have e2 : (fp ++ fo2 ++ (g ++ c)).Perm (c ++ (fo2 ++ (fp ++ g))) := by
      have t : (fp ++ fo2 ++ (g ++ c)).Perm (c ++ (fp ++ fo2 ++ g)) := by
        rw [← List.append_assoc]; exact List.perm_append_comm
      refine t.trans (List.Perm.append_left c ?_)
      rw [List.append_assoc]
      exact List.perm_append_comm_assoc _ _ _
    have e3 : (c ++ (fo2 ++ (fp ++ g))).Perm (c ++ (fo2 ++ fps2.flatten)) := (q3.symm.append_left fo2).append_left c
    refine e1.trans (e2.trans (e3.trans ((h2.append_left c).trans ?_)))
    exact List.perm_append_comm_assoc _ _ _
end
section
variable {G : Nms} {T : Tbl} {cA : Nat → Addr} {pr : List Nat} {k : Nat}
def PoA (K : PySem.W.Frag) (cA : Nat → Addr) (W : WX) (F H : Hp) (σ : St) (ext : FP) (Q : List V → Hp → Prop) : R (List (Option Nat × Val) × Env) → Prop
  | .ok (as, env2) => ∀ F2 H2 fps2 vs fo, Same F F2 → Sl K F2 env2 σ fps2 → Ow F2 H2 (fps2.flatten ++ (fo ++ ext)) → Agv K F2 σ as vs fo → Q vs H2
  | .exc c env2 => ∀ F2 H2 fps2, Same F F2 → Sl K F2 env2 σ fps2 → Ow F2 H2 (fps2.flatten ++ ext) → W (.ref (cA c)) none σ H2
  | .stuck => False
def tA (K : PySem.W.Frag) (T : Tbl) (cA : Nat → Addr) (W : WX) (es : List ME) : TA := fun σ H Q => ∃ F env fps ext, Sl K F env σ fps ∧ Ow F H (fps.flatten ++ ext) ∧ PoA K cA W F H σ ext Q (evArgs T es env)
theorem Agv.mono {K : PySem.W.Frag} {F F' : Hp} (h : Same F F') {σ : St} : ∀ {as vs fo}, Agv K F σ as vs fo → Agv K F' σ as vs fo
  | _, _, _, .nil => .nil
  | _, _, _, .val a r => .val (a.mono h) (r.mono h)
  | _, _, _, .lnd a r => .lnd a (r.mono h)
theorem pa_args {X : Cx} {W : WX} {sc : Scope} (ok : XOk G T cA k X W) (le : ScLe sc X.env.scope) : ∀ es : List ME, (∀ e ∈ es, SE G T cA pr k e) → wfEL G X.N pr sc es = true → PA X (erL es) (tA X.K T cA W es)
  | [], _, _ => PA.weak pa_nil fun σ H Q h => by
    obtain ⟨F, env, fps, ext, s, o, m⟩ := h
    simp only [evArgs] at m
    exact m F H fps [] [] (Same.refl _) s o .nil
  | e :: es, g, h => by
    simp only [wfEL, Bool.and_eq_true] at h
    have hr := pa_args ok le es (fun e' he => g e' (List.mem_cons_of_mem _ he)) h.2
    cases hl : lendIx e with
    | some i =>
      cases e <;> simp [lendIx] at hl
      subst hl
      rename_i i x p
      refine PA.weak (pa_cons (pe_slot le (by simpa [wfE] using h.1)) hr rfl) ?_
      rintro σ H Q ⟨F, env, fps, ext, s, o, m⟩
      simp only [evArgs, lendIx] at m
      split at m
      · rename_i hi
        obtain ⟨v, hv⟩ := s.there hi
        refine ⟨v, hv, F, env, fps, ext, s, o, ?_⟩
        revert m
        cases evArgs T es env with
        | stuck => exact id
        | exc c e => exact id
        | ok a =>
          obtain ⟨as, env2⟩ := a
          exact fun m F2 H2 fps2 vs fo a1 a2 a3 a4 => m F2 H2 fps2 (v :: vs) fo a1 a2 a3 (.lnd hv a4)
      · exact m.elim
    | none =>
      refine PA.weak (pa_cons (g e List.mem_cons_self X W sc ok le h.1) hr (plain_er e h.1).star) ?_
      rintro σ H Q ⟨F, env, fps, ext, s, o, m⟩
      simp only [evArgs, hl] at m
      refine ⟨F, env, fps, ext, s, o, ?_⟩
      revert m
      cases evE T e env with
      | stuck => exact id
      | exc c e => exact id
      | ok a =>
        obtain ⟨x, u, env1⟩ := a
        intro m F2 H2 fps2 v fp a1 a2 a3 a4 a5 a6
        simp only [R.bind_ok] at m
        refine ⟨F2, env1, fps2, _, a2, a3, ?_⟩
        revert m
        cases evArgs T es env1 with
        | stuck => exact id
        | exc c e => exact fun m F3 H3 fps3 b1 b2 b3 => m F3 H3 fps3 (Same.trans a1 b1) b2 (b3.sub (List.Sublist.append (List.Sublist.refl _) (List.sublist_append_right _ _)))
        | ok q =>
          obtain ⟨as, env2⟩ := q
          intro m F3 H3 fps3 vs fo b1 b2 b3 b4
          simp only [R.bind_ok] at m
          by_cases hs : storable x u = true
          · rw [if_pos hs] at m
            have e : (if u = true then fp else []) = fp := by
              cases u with
              | true => rfl
              | false => rw [a4.noOwn (by simpa [storable] using hs)]; rfl
            rw [e] at b3
            exact m F3 H3 fps3 (v :: vs) (fo ++ fp) (Same.trans a1 b1) b2 (by simpa [List.append_assoc] using b3) (.val (a4.mono b1) b4)
          · rw [if_neg hs] at m; exact m.elim
theorem se_call {j : Nat} {f : Str} {p q : Pos} {es : List ME} (gs : ∀ e ∈ es, SE G T cA pr k e) : SE G T cA pr k (.call j f p q es) := fun X W sc ok le h => by
  have hne := wfE_call h
  simp only [wfE, okName, Bool.and_eq_true, beq_iff_eq, Bool.not_eq_true', decide_eq_true_eq] at h
  obtain ⟨⟨⟨⟨h1, h2⟩, ⟨h3, h4⟩, h5⟩, h6⟩, h7⟩ := h
  obtain ⟨fn, fa, fd, ps, e, g1, g2, g3, g4⟩ := ok.fn j f h1
  cases es with
  | nil => simp at h6
  | cons e0 er0 =>
    have h7' := h7
    simp only [wfEL, Bool.and_eq_true] at h7'
    refine PE.weak (pe_callS (E := WE W) g1 ok.room (le.glo h2) g2 g3 g4 (fun σ => passAt ok.tk σ) (pa_args ok le (e0 :: er0) gs h7) (by simpa using h3) (plain_er e0 h7'.1).star (backTo_any er0 h7'.2)) ?_
    rintro σ H Q ⟨F, env, fps, ext, s, o, m⟩
    simp only [evE, e] at m
    refine ⟨F, env, fps, ext, s, o, ?_⟩
    revert m
    cases evArgs T (e0 :: er0) env with
    | stuck => exact id
    | exc c e => exact id
    | ok a =>
      obtain ⟨as, env1⟩ := a
      intro m F2 H2 fps2 vs fo a1 a2 a3 a4
      simp only [R.bind_ok] at m
      cases e1 : lendOut env1 as with
      | none => simp only [e1] at m; exact m.elim
      | some q1 =>
        obtain ⟨xs, env2⟩ := q1
        simp only [e1] at m
        obtain ⟨fpa, fps3, r1, r2, r3⟩ := lend_out a4 a2 e1
        refine ⟨F2, xs, fpa, fps3.flatten ++ ext, r1, a3.perm ?_, ?_⟩
        · have t := r3.append (List.Perm.refl ext)
          simpa [List.append_assoc] using t
        · revert m
          cases fn xs with
          | stuck => exact id
          | ok y outs =>
            intro m F3 H3 v fy fo' b1 b2 b3 b4
            dsimp only at m
            cases e2 : lendBack env2 as outs with
            | none => simp only [e2] at m; exact m.elim
            | some env3 =>
              simp only [e2] at m
              obtain ⟨fps4, rest, c1, c2⟩ := lend_back a4 b3 (r2.mono b1) e2
              refine m F3 H3 fps4 v fy (Same.trans a1 b1) c1 ?_ b2 nofun nofun
              have t : Ow F3 H3 (fps4.flatten ++ (rest ++ (fy ++ ext))) := b4.perm (by
                have t1 : (fy ++ (fo' ++ (fps3.flatten ++ ext))).Perm ((fo' ++ fps3.flatten) ++ (fy ++ ext)) := by
                  rw [← List.append_assoc fo']
                  exact List.perm_append_comm_assoc _ _ _
                refine t1.trans ?_
                have t2 := c2.append (List.Perm.refl (fy ++ ext))
                rw [List.append_assoc (fps4.flatten)] at t2
                exact t2)
              exact t.tmp
          | exc c outs =>
            intro m F3 H3 fo' b1 b3 b4
            dsimp only at m
            cases e2 : lendBack env2 as outs with
            | none => simp only [e2] at m; exact m.elim
            | some env3 =>
              simp only [e2] at m
              obtain ⟨fps4, rest, c1, c2⟩ := lend_back a4 b3 (r2.mono b1) e2
              refine m F3 H3 fps4 (Same.trans a1 b1) c1 ?_
              have t : Ow F3 H3 (fps4.flatten ++ (rest ++ ext)) := b4.perm (by
                rw [← List.append_assoc fo']
                have t2 := c2.append (List.Perm.refl ext)
                rw [List.append_assoc (fps4.flatten)] at t2
                exact t2)
              exact t.tmp
end
end Mn

set_option Elab.async false
set_option maxRecDepth 100000
set_option linter.all false
/-! Mn15: targets, and what loops walk. -/
namespace Mn
open PySem L2
/-! targets -/
mutual
def gT (K : PySem.W.Frag) : Tgt → TG
  | .nm i _ _ => gName i
  | .tp ts _ _ => gTup K ts.length (gTs K ts)
def gTs (K : PySem.W.Frag) : List Tgt → TGs
  | [] => gNil
  | t :: ts => gCons (gT K t) (gTs K ts)
end
theorem Tgt.erL_len : ∀ ts : List Tgt, (Tgt.erL ts).length = ts.length
  | [] => rfl
  | t :: ts => by simp [Tgt.erL, Tgt.erL_len ts]
theorem assignEach_er (env : PySem.Env) : ∀ ts : List Tgt, (assignEach (Tgt.erL ts) env).length = ts.length ∧ (assignEach (Tgt.erL ts) env).findIdx? (·.1) = none
  | [] => ⟨rfl, rfl⟩
  | t :: ts => by
    obtain ⟨h1, h2⟩ := assignEach_er env ts
    have e : assignEach (Tgt.erL (t :: ts)) env = (false, assign t.er env) :: assignEach (Tgt.erL ts) env := by
      cases t <;> rfl
    rw [e]
    exact ⟨by simp [h1], by simp [List.findIdx?_cons, h2]⟩
mutual
theorem pg_tgt {X : Cx} {N : List Str} {sc : Scope} {pr : List Nat} (hc : X.calm = true) (nd : X.N.Nodup) (le : ScLe sc X.env.scope) : ∀ t : Tgt, t.wf X.N sc pr = true → PG X t.er (gT X.K t)
  | .nm i x p, h => by
    simp only [Tgt.wf, Bool.and_eq_true, beq_iff_eq] at h
    exact pg_name nd h.1.1 (.inl (le.loc h.1.2)) (.inr (le.loc h.1.2))
  | .tp ts k p, h => pg_tup hc (pgs_tgt (N := N) hc nd le ts (by simpa [Tgt.wf] using h)) (assignEach_er X.env ts).1 (assignEach_er X.env ts).2
theorem pgs_tgt {X : Cx} {N : List Str} {sc : Scope} {pr : List Nat} (hc : X.calm = true) (nd : X.N.Nodup) (le : ScLe sc X.env.scope) : ∀ ts : List Tgt, Tgt.wfL X.N sc pr ts = true → PGs X (Tgt.erL ts) (gTs X.K ts)
  | [], _ => pgs_nil
  | t :: ts, h => by
    simp only [Tgt.wfL, Bool.and_eq_true] at h
    exact pgs_cons (pg_tgt (N := N) hc nd le t h.1) (pgs_tgt (N := N) hc nd le ts h.2) (by cases t <;> rfl)
end
mutual
theorem pg_tgt1 {X : Cx} {sc : Scope} {pr : List Nat} (hc : X.calm = true) (nd : X.N.Nodup) (le : ScLe sc X.env.scope) (hs : X.env.scope = sc) (hf : ∀ x, X.fn x = true) : ∀ t : Tgt, t.wf1 X.N sc pr = true → PG X t.er (gT X.K t)
  | .nm i x p, h => by
    simp only [Tgt.wf1, locB, Bool.and_eq_true, beq_iff_eq] at h
    refine pg_name nd h.1.1 ?_ (.inl (hf x))
    rw [hs]
    have h2 := h.1.2
    split at h2
    · exact .inl (by assumption)
    · exact .inr (by assumption)
    · cases h2
  | .tp ts k p, h => pg_tup hc (pgs_tgt1 hc nd le hs hf ts (by simpa [Tgt.wf1] using h)) (assignEach_er X.env ts).1 (assignEach_er X.env ts).2
theorem pgs_tgt1 {X : Cx} {sc : Scope} {pr : List Nat} (hc : X.calm = true) (nd : X.N.Nodup) (le : ScLe sc X.env.scope) (hs : X.env.scope = sc) (hf : ∀ x, X.fn x = true) : ∀ ts : List Tgt, Tgt.wfL1 X.N sc pr ts = true → PGs X (Tgt.erL ts) (gTs X.K ts)
  | [], _ => pgs_nil
  | t :: ts, h => by
    simp only [Tgt.wfL1, Bool.and_eq_true] at h
    exact pgs_cons (pg_tgt1 hc nd le hs hf t h.1) (pgs_tgt1 hc nd le hs hf ts h.2) (by cases t <;> rfl)
end
section
variable {K : PySem.W.Frag} {F H : Hp}
/-- slots that are kept as they were at the entry -/
def Kept (pr : List Nat) (σ0 σ : St) : Prop := ∀ i ∈ pr, σ[i]? = σ0[i]?
theorem Kept.set {pr : List Nat} {σ0 σ : St} {i : Nat} {v : Option V} (h : Kept pr σ0 σ) (hi : pr.contains i = false) : Kept pr σ0 (σ.set i v) := fun j hj => by
  have : i ≠ j := fun e => by
    subst e
    rw [List.contains_eq_mem, decide_eq_false_iff_not] at hi
    exact hi hj
  rw [List.getElem?_set_ne this]
  exact h j hj
mutual
/-- the slots of a target -/
def Tgt.has : Tgt → Nat → Bool
  | .nm i _ _, j => i == j
  | .tp ts _ _, j => Tgt.hasL ts j
def Tgt.hasL : List Tgt → Nat → Bool
  | [], _ => false
  | t :: ts, j => t.has j || Tgt.hasL ts j
end
mutual
/-- a target takes a value: the slots behind it -/
theorem tgt_bind {N : List Str} {sc : Scope} {pr : List Nat} {σ0 : St} : ∀ (t : Tgt) {x : Val} {v : V} {fp : FP} {env env' : Env} {σ : St} {fps : List FP} {Q : St → Hp → Prop}, (t.wf N sc pr = true ∨ t.wf1 N sc pr = true) → t.bind x env = some env' → Rep K F x v fp → Same F H → Sl K F env σ fps → Kept pr σ0 σ →
    (∀ σ' fps', Sl K F env' σ' fps' → Kept pr σ0 σ' → (∃ g, (fp ++ fps.flatten).Perm (fps'.flatten ++ g)) → (∀ j, t.has j = false → σ'[j]? = σ[j]?) → Q σ' H) → gT K t v σ H Q
  | .nm i y p, x, v, fp, env, env', σ, fps, Q, hw, e, r, s, sl, hk, k => by
    simp only [Tgt.bind] at e
    split at e
    · rename_i hi
      cases e
      obtain ⟨fps2, q1, g, q2, q3⟩ := sl.put (i := i) hi r
      obtain ⟨c, hc⟩ := q2.exists_perm_append
      have hp : pr.contains i = false := by
        rcases hw with h | h
        · simp only [Tgt.wf, Bool.and_eq_true, Bool.not_eq_true'] at h; exact h.2
        · simp only [Tgt.wf1, Bool.and_eq_true, Bool.not_eq_true'] at h; exact h.2
      refine k _ fps2 q1 (hk.set hp) ⟨c, ?_⟩ fun j hj => by
        have : i ≠ j := by simpa [Tgt.has] using hj
        rw [List.getElem?_set_ne this]
      refine (hc.append_left fp).trans ?_
      rw [← List.append_assoc]
      exact q3.symm.append_right c
    · cases e
  | .tp ts k0 p, x, v, fp, env, env', σ, fps, Q, hw, e, r, s, sl, hk, k => by
    cases r with
    | tup er rr =>
      simp only [Tgt.bind] at e
      have hw' : Tgt.wfL N sc pr ts = true ∨ Tgt.wfL1 N sc pr ts = true := hw.imp (fun h => by simpa [Tgt.wf] using h) fun h => by simpa [Tgt.wf1] using h
      have hl := tgts_len e
      refine ⟨_, _, rfl, .of (s _ _ er), ?_, tgts_bind ts hw' e rr s sl hk fun σ' fps' a b c d => k σ' fps' a b c fun j hj => d j (by simpa [Tgt.has] using hj)⟩
      rw [← rr.length, hl]
    | _ => simp [Tgt.bind] at e
theorem tgts_bind {N : List Str} {sc : Scope} {pr : List Nat} {σ0 : St} : ∀ (ts : List Tgt) {xs : List Val} {vs : List V} {fp : FP} {env env' : Env} {σ : St} {fps : List FP} {Q : St → Hp → Prop}, (Tgt.wfL N sc pr ts = true ∨ Tgt.wfL1 N sc pr ts = true) → Tgt.bindL ts xs env = some env' → Reps K F xs vs fp → Same F H → Sl K F env σ fps → Kept pr σ0 σ →
    (∀ σ' fps', Sl K F env' σ' fps' → Kept pr σ0 σ' → (∃ g, (fp ++ fps.flatten).Perm (fps'.flatten ++ g)) → (∀ j, Tgt.hasL ts j = false → σ'[j]? = σ[j]?) → Q σ' H) → gTs K ts vs σ H Q
  | [], xs, vs, fp, env, env', σ, fps, Q, hw, e, r, s, sl, hk, k => by
    cases r with
    | nil =>
      simp only [Tgt.bindL] at e
      cases e
      exact ⟨rfl, k σ fps sl hk ⟨[], by simp⟩ fun _ _ => rfl⟩
    | cons a b => simp [Tgt.bindL] at e
  | t :: ts, xs, vs, fp, env, env', σ, fps, Q, hw, e, r, s, sl, hk, k => by
    cases r with
    | nil => simp [Tgt.bindL] at e
    | cons a b =>
      rename_i x v fpa xs vs fpb
      simp only [Tgt.bindL] at e
      have hw1 : t.wf N sc pr = true ∨ t.wf1 N sc pr = true := hw.imp (fun h => by simp only [Tgt.wfL, Bool.and_eq_true] at h; exact h.1) fun h => by simp only [Tgt.wfL1, Bool.and_eq_true] at h; exact h.1
      have hw2 : Tgt.wfL N sc pr ts = true ∨ Tgt.wfL1 N sc pr ts = true := hw.imp (fun h => by simp only [Tgt.wfL, Bool.and_eq_true] at h; exact h.2) fun h => by simp only [Tgt.wfL1, Bool.and_eq_true] at h; exact h.2
      cases e1 : t.bind x env with
      | none => rw [e1] at e; cases e
      | some env1 =>
        rw [e1] at e
        refine ⟨v, vs, rfl, tgt_bind t hw1 e1 a s sl hk fun σ1 fps1 sl1 hk1 ⟨g1, hg1⟩ hj1 => ?_⟩
        refine tgts_bind ts hw2 e b s sl1 hk1 fun σ2 fps2 sl2 hk2 ⟨g2, hg2⟩ hj2 => k σ2 fps2 sl2 hk2 ⟨g2 ++ g1, ?_⟩ fun j hj => by
          simp only [Tgt.hasL, Bool.or_eq_false_iff] at hj
          rw [hj2 j hj.2, hj1 j hj.1]
        have t1 : ((fpa ++ fpb) ++ fps.flatten).Perm (fpb ++ (fpa ++ fps.flatten)) := by
          rw [List.append_assoc]
          exact List.perm_append_comm_assoc _ _ _
        refine t1.trans ((hg1.append_left fpb).trans ?_)
        rw [← List.append_assoc]
        refine (hg2.append_right g1).trans ?_
        rw [List.append_assoc]
theorem tgts_len : ∀ {ts : List Tgt} {xs : List Val} {env env' : Env}, Tgt.bindL ts xs env = some env' → xs.length = ts.length
  | [], [], _, _, _ => rfl
  | [], _ :: _, _, _, e => by simp [Tgt.bindL] at e
  | _ :: _, [], _, _, e => by simp [Tgt.bindL] at e
  | t :: ts, x :: xs, env, env', e => by
    simp only [Tgt.bindL] at e
    cases e1 : t.bind x env with
    | none => rw [e1] at e; cases e
    | some env1 => rw [e1] at e; simp [tgts_len e]
end
end
end Mn

set_option Elab.async false
set_option maxRecDepth 100000
set_option linter.all false
/-! Mn16: what loops walk, put together. -/
namespace Mn
open PySem L2
theorem PI.weak {X : Cx} {tg e : Expr} {t t' : TI} (h : PI X tg e t) (k : ∀ σ H R, t' σ H R → t σ H R) : PI X tg e t' := ⟨fun pins s σ H R I q => h.run pins s σ H R I (k _ _ _ q)⟩
def Wk (K : PySem.W.Frag) : IK → List V → Hp → (It → Hp → Prop) → Prop
  | .list, vs, H, R => ∃ a, vs = [.ref a] ∧ (∃ xs, SqL K H a xs) ∧ R (Itl K a) H
  | .tuple, vs, H, R => ∃ a, vs = [.ref a] ∧ (∃ xs, SqT K H a xs) ∧ R (Itt K a) H
  | .text, vs, H, R => ∃ z, vs = [.str z] ∧ R (Its z) H
  | .range1, vs, H, R => ∃ j : Int, vs = [.int j] ∧ -(2 ^ 62) ≤ j ∧ j < 2 ^ 62 ∧ R (Itr 0 j.toNat) H
  | .range2, vs, H, R => ∃ i j : Int, vs = [.int i, .int j] ∧ (-(2 ^ 62) ≤ i ∧ i < 2 ^ 62 ∧ -(2 ^ 62) ≤ j ∧ j < 2 ^ 62) ∧ R (Itr i (j - i).toNat) H
  | .zipL, vs, H, R => ∃ a b xs ys, vs = [.ref a, .ref b] ∧ SqL K H a xs ∧ SqL K H b ys ∧ R (Itz K a b) H
  | .zipS, vs, H, R => ∃ x y : Str, vs = [.str x, .str y] ∧ R (ItzS x y) H
  | .keys, _, _, _ => False
section
variable {G : Nms} {T : Tbl} {cA : Nat → Addr} {pr : List Nat} {k : Nat}
theorem pi_src {X : Cx} {W : WX} {sc : Scope} {ik : IK} {t : Tgt} {its : List ME} {q r : Pos} (ok : XOk G T cA k X W) (le : ScLe sc X.env.scope) (hw : ik.wf G sc t its.length = true) (hl : wfEL G X.N pr sc its = true) (g : ∀ e ∈ its, SE G T cA pr k e) :
    PI X t.er (ik.er (erL its) q r) (fun σ H R => tL X.K T cA W its σ H fun vs H1 => Wk X.K ik vs H1 R) := by
  have one : ∀ {a : ME}, its = [a] → PE X (er a) (tE X.K T cA W a) ∧ Plain (er a) := fun {a} e => by
    subst e
    simp only [wfEL, Bool.and_eq_true] at hl
    exact ⟨g a (by simp) X W sc ok le hl.1, plain_er a hl.1⟩
  cases ik with
  | list =>
    obtain ⟨a, rfl⟩ := one_of (by simpa [IK.wf] using hw)
    exact PI.weak (pi_list (one rfl).1) fun σ H R h => tE_mono (tL_one h) fun x H1 ⟨b, e1, h1⟩ => ⟨b, by simpa using e1, h1⟩
  | tuple =>
    obtain ⟨a, rfl⟩ := one_of (by simpa [IK.wf] using hw)
    exact PI.weak (pi_tup (one rfl).1) fun σ H R h => tE_mono (tL_one h) fun x H1 ⟨b, e1, h1⟩ => ⟨b, by simpa using e1, h1⟩
  | text =>
    obtain ⟨a, rfl⟩ := one_of (by simpa [IK.wf] using hw)
    exact PI.weak (pi_str (one rfl).1) fun σ H R h => tE_mono (tL_one h) fun x H1 ⟨b, e1, h1⟩ => ⟨b, by simpa using e1, h1⟩
  | range1 =>
    simp only [IK.wf, Bool.and_eq_true] at hw
    obtain ⟨a, rfl⟩ := one_of hw.1
    obtain ⟨b1, b2, b3, b4⟩ := wfB_out ok le hw.2
    obtain ⟨ha, pa⟩ := one rfl
    exact PI.weak (pi_range1 b1 b2 (pa_cons ha pa_nil pa.star) pa.star) fun σ H R h => tE_mono (tL_one h) fun x H1 h1 => h1
  | range2 =>
    simp only [IK.wf, Bool.and_eq_true] at hw
    obtain ⟨a, b, rfl⟩ := two_of hw.1
    obtain ⟨b1, b2, b3, b4⟩ := wfB_out ok le hw.2
    simp only [wfEL, Bool.and_eq_true] at hl
    have ha := g a (by simp) X W sc ok le hl.1
    have hb := g b (by simp) X W sc ok le hl.2.1
    have pa := plain_er a hl.1
    have pb := plain_er b hl.2.1
    exact PI.weak (pi_range2 b1 b2 (pa_cons ha (pa_cons hb pa_nil pb.star) pa.star) (by rw [pa.star, pb.star]; rfl) (by rw [pb.star]; rfl)) fun σ H R h => tE_mono (tL_two h) fun x H1 h1 => tE_mono h1 fun y H2 h2 => h2
  | zipL =>
    simp only [IK.wf, Bool.and_eq_true] at hw
    obtain ⟨a, b, rfl⟩ := two_of hw.1.1
    obtain ⟨b1, b2, b3, b4⟩ := wfB_out ok le hw.1.2
    simp only [wfEL, Bool.and_eq_true] at hl
    have ha := g a (by simp) X W sc ok le hl.1
    have hb := g b (by simp) X W sc ok le hl.2.1
    have pa := plain_er a hl.1
    have pb := plain_er b hl.2.1
    cases t with
    | nm => simp [Tgt.isTp] at hw
    | tp ts kk p =>
      exact PI.weak (pi_zip b1 b2 (pa_cons ha (pa_cons hb pa_nil pb.star) pa.star) pa.star (backTo_any (X := X) (G := G) (pr := pr) (sc := sc) [b] (by simp only [wfEL, hl.2.1]; rfl))) fun σ H R h => tE_mono (tL_two h) fun x H1 h1 => tE_mono h1 fun y H2 h2 => h2
  | zipS =>
    simp only [IK.wf, Bool.and_eq_true] at hw
    obtain ⟨a, b, rfl⟩ := two_of hw.1.1
    obtain ⟨b1, b2, b3, b4⟩ := wfB_out ok le hw.1.2
    simp only [wfEL, Bool.and_eq_true] at hl
    have ha := g a (by simp) X W sc ok le hl.1
    have hb := g b (by simp) X W sc ok le hl.2.1
    have pa := plain_er a hl.1
    have pb := plain_er b hl.2.1
    cases t with
    | nm => simp [Tgt.isTp] at hw
    | tp ts kk p =>
      exact PI.weak (pi_zs b1 b2 (pa_cons ha (pa_cons hb pa_nil pb.star) pa.star) pa.star (backTo_any (X := X) (G := G) (pr := pr) (sc := sc) [b] (by simp only [wfEL, hl.2.1]; rfl))) fun σ H R h => tE_mono (tL_two h) fun x H1 h1 => tE_mono h1 fun y H2 h2 => h2
  | keys => simp [IK.wf] at hw
end
section
variable {K : PySem.W.Frag} {F H : Hp}
theorem reps_at {xs : List Val} {vs : List V} (r : Reps K F xs vs []) {i : Nat} {x : Val} {v : V} (e : xs[i]? = some x) (e2 : vs[i]? = some v) : Rep K F x v [] := by
  obtain ⟨v', fp, h1, h2, h3⟩ := r.get e
  rw [h1] at e2; cases e2
  obtain rfl := List.sublist_nil.mp h3
  exact h2
theorem walk_zs {x y : Str} : Walk (ItzS x y) (min x.cps.size y.cps.size) (fun _ => True) (fun i H v H' => ∃ T c d, v = .ref T ∧ H T = none ∧ H' = upd H T (.tup [.str ⟨#[c]⟩, .str ⟨#[d]⟩]) ∧ x.cps[i]? = some c ∧ y.cps[i]? = some d) :=
  ⟨fun i _ hi _ => ⟨by omega, by omega⟩, fun _ _ => ⟨by omega, by omega, by omega⟩, fun _ _ _ _ _ _ y => y⟩
/-- a list that stays -/
theorem lst_stays {u : Bool} {v : V} {f fo : FP} {o : Bool} {ys : List Val} (r : Rep K F (.lst o ys) v f) (s : Same F H) (h : u = false → Hold H f) (hh : Hold H (if u then f else [])) (hf : ∀ e ∈ (if u then f else []), e ∈ fo) :
    ∃ a vs g, v = .ref a ∧ SqL K H a vs ∧ Reps K F ys vs g ∧ ∀ H', Hold H' fo → Same F H' → ((u || (Val.lst o ys).noOwn) = true ∨ Same H H') → SqL K H' a vs := by
  cases r with
  | lstF e r => exact ⟨_, _, [], rfl, .of (s _ _ e), r, fun H' _ s' _ => .of (s' _ _ e)⟩
  | lstO r =>
    rename_i a vs fp
    have hold : Hold H ((a, .lst vs) :: fp) := held1 h hh
    refine ⟨a, vs, fp, rfl, .of hold.cons.1, r, fun H' h1 s' h2 => ?_⟩
    cases u with
    | true => exact .of (h1 _ (hf _ List.mem_cons_self))
    | false =>
      rcases h2 with z | z
      · simp [Val.noOwn] at z
      · exact .of (z _ _ hold.cons.1)
theorem Ags.one' {x : Val} {u : Bool} {vs : List V} {fo : FP} (a : Ags K F H [(x, u)] vs fo) : ∃ v f, vs = [v] ∧ Rep K F x v f ∧ (u = false → Hold H f) ∧ fo = if u then f else [] := by
  cases a with
  | cons r h a => cases a; exact ⟨_, _, rfl, r, h, rfl⟩
theorem Ags.two' {x y : Val} {u t : Bool} {vs : List V} {fo : FP} (a : Ags K F H [(x, u), (y, t)] vs fo) : ∃ v f w g, vs = [v, w] ∧ Rep K F x v f ∧ Rep K F y w g ∧ (u = false → Hold H f) ∧ (t = false → Hold H g) ∧ fo = (if t then g else []) ++ if u then f else [] := by
  cases a with
  | cons r h a =>
    cases a with
    | cons r2 h2 a => cases a; exact ⟨_, _, _, _, rfl, r, r2, h, h2, rfl⟩
theorem wk_of {ik : IK} {xs : List (Val × Bool)} {vs : List V} {fo base ext : FP} {items : List Val} {R : It → Hp → Prop} (A : Ags K F H xs vs fo) (o : Ow F H (base ++ (fo ++ ext))) (hi : ik.items xs = some items)
    (k : ∀ (J : It) (Gp : Hp → Prop) (Y : Nat → Hp → V → Hp → Prop), Walk J items.length Gp Y →
      (∀ H', Hold H' fo → Same F H' → (ik.stays xs = true ∨ Same H H') → Gp H') →
      (∀ (i : Nat) F' H1 v H1' x, Y i H1 v H1' → items[i]? = some x → Same F F' → Same F' H1 → ∃ F'', Same F' F'' ∧ Same H1 H1' ∧ Rep K F'' x v [] ∧ ∀ L, Ow F' H1 L → Ow F'' H1' L) → R J H) : Wk K ik vs H R := by
  have at_ : ∀ {ys : List Val} {ws : List V}, Reps K F ys ws [] → ∀ (i : Nat) F' H1 v H1' x, YAt ws i H1 v H1' → ys[i]? = some x → Same F F' → Same F' H1 → ∃ F'', Same F' F'' ∧ Same H1 H1' ∧ Rep K F'' x v [] ∧ ∀ L, Ow F' H1 L → Ow F'' H1' L := by
    rintro ys ws r i F' H1 v H1' x ⟨rfl, e1⟩ e2 s1 s2
    exact ⟨F', Same.refl _, Same.refl _, (reps_at r e2 e1).mono s1, fun L h => h⟩
  have rng : ∀ {lo : Int} {n : Nat}, ∀ (i : Nat) F' H1 v H1' x, YFn (fun i => V.int (lo + (i : Nat))) i H1 v H1' → (rangeV lo n)[i]? = some x → Same F F' → Same F' H1 → ∃ F'', Same F' F'' ∧ Same H1 H1' ∧ Rep K F'' x v [] ∧ ∀ L, Ow F' H1 L → Ow F'' H1' L := by
    rintro lo n i F' H1 v H1' x ⟨rfl, rfl⟩ e2 s1 s2
    refine ⟨F', Same.refl _, Same.refl _, ?_, fun L h => h⟩
    unfold rangeV at e2
    rw [List.getElem?_map] at e2
    cases e3 : (List.range n)[i]? with
    | none => rw [e3] at e2; cases e2
    | some j =>
      rw [e3] at e2; cases e2
      obtain ⟨hj, e4⟩ := List.getElem?_eq_some_iff.mp e3
      rw [List.getElem_range] at e4
      subst e4
      exact .int
  have rlen : ∀ (lo : Int) (n : Nat), (rangeV lo n).length = n := fun lo n => by simp [rangeV]
  unfold IK.items at hi
  split at hi
  · rename_i og ys u
    split at hi
    · rename_i hn
      cases hi
      obtain ⟨v, f, rfl, r, h1, rfl⟩ := A.one'
      have hh : Hold H (if u = true then f else []) := o.held
      obtain ⟨a, ws, g, rfl, q1, q2, q3⟩ := lst_stays r o.same h1 hh fun _ h => h
      obtain rfl := q2.noOwn hn
      refine ⟨a, rfl, ⟨ws, q1⟩, k (Itl K a) (fun H => SqL K H a ws) (YAt ws) (by rw [q2.length]; exact walk_list (K := K) (a := a) (xs := ws)) (fun H' h2 s' h3 => q3 H' h2 s' ?_) (at_ q2)⟩
      simpa [IK.stays] using h3
    · cases hi
  · rename_i ys u
    split at hi
    · rename_i hn
      cases hi
      obtain ⟨v, f, rfl, r, h1, rfl⟩ := A.one'
      cases r with
      | tup e r =>
        rename_i a ws
        obtain rfl := r.noOwn hn
        exact ⟨a, rfl, ⟨ws, .of (o.same _ _ e)⟩, k (Itt K a) (fun H => SqT K H a ws) (YAt ws) (by rw [r.length]; exact walk_tup (K := K) (a := a) (xs := ws)) (fun H' h2 s' h3 => .of (s' _ _ e)) (at_ r)⟩
    · cases hi
  · rename_i z u
    cases hi
    obtain ⟨v, f, rfl, r, h1, rfl⟩ := A.one'
    obtain ⟨rfl, rfl⟩ := r.str_inv
    refine ⟨z, rfl, k _ _ _ (by rw [List.length_map, Array.length_toList]; exact walk_str (z := z)) (fun H' h2 s' h3 => trivial) ?_⟩
    rintro i F' H1 v H1' x ⟨rfl, c, e1, rfl⟩ e2 s1 s2
    refine ⟨F', Same.refl _, Same.refl _, ?_, fun L h => h⟩
    rw [List.getElem?_map, Array.getElem?_toList, e1] at e2
    cases e2
    exact .str
  · rename_i j u
    split at hi
    · rename_i hs
      cases hi
      obtain ⟨v, f, rfl, r, h1, rfl⟩ := A.one'
      obtain ⟨rfl, rfl⟩ := r.int_inv
      simp only [small62, Bool.and_eq_true, decide_eq_true_eq] at hs
      exact ⟨j, rfl, hs.1, hs.2, k _ _ _ (by rw [rlen]; exact walk_range (lo := 0) (n := j.toNat)) (fun H' h2 s' h3 => trivial) (by simpa using rng (lo := 0) (n := j.toNat))⟩
    · cases hi
  · rename_i i u j u'
    split at hi
    · rename_i hs
      cases hi
      obtain ⟨v, f, w, g, rfl, r1, r2, h1, h2, rfl⟩ := A.two'
      obtain ⟨rfl, rfl⟩ := r1.int_inv
      obtain ⟨rfl, rfl⟩ := r2.int_inv
      simp only [small62, Bool.and_eq_true, decide_eq_true_eq] at hs
      exact ⟨i, j, rfl, ⟨hs.1.1, hs.1.2, hs.2.1, hs.2.2⟩, k _ _ _ (by rw [rlen]; exact walk_range (lo := i) (n := (j - i).toNat)) (fun H' h2 s' h3 => trivial) rng⟩
    · cases hi
  · rename_i o1 ys u o2 zs u'
    split at hi
    · rename_i hs
      cases hi
      simp only [Bool.and_eq_true] at hs
      obtain ⟨v, f, w, g, rfl, r1, r2, h1, h2, rfl⟩ := A.two'
      have hh := o.held.app
      obtain ⟨a, ws1, g1, rfl, q1, q2, q3⟩ := lst_stays (fo := (if u' = true then g else []) ++ if u = true then f else []) r1 o.same h1 hh.2 (fun _ h => List.mem_append_right _ h)
      obtain ⟨b, ws2, g2, rfl, p1, p2, p3⟩ := lst_stays (fo := (if u' = true then g else []) ++ if u = true then f else []) r2 o.same h2 hh.1 (fun _ h => List.mem_append_left _ h)
      obtain rfl := q2.noOwn hs.1
      obtain rfl := p2.noOwn hs.2
      refine ⟨a, b, ws1, ws2, rfl, q1, p1, k (Itz K a b) (fun H => SqL K H a ws1 ∧ SqL K H b ws2) _ (by rw [List.length_map, List.length_zip]; exact walk_zip (K := K) (a := a) (b := b) (xs := ws1) (ys := ws2) (by rw [q2.length, p2.length])) (fun H' h3 s' h4 => ⟨q3 H' h3 s' ?_, p3 H' h3 s' ?_⟩) ?_⟩
      · refine h4.imp (fun z => ?_) id
        simp only [IK.stays, List.all_cons, List.all_nil, Bool.and_true, Bool.and_eq_true] at z
        exact z.1
      · refine h4.imp (fun z => ?_) id
        simp only [IK.stays, List.all_cons, List.all_nil, Bool.and_true, Bool.and_eq_true] at z
        exact z.2
      · rintro i F' H1 v H1' x ⟨Tn, x1, x2, rfl, hT, rfl, e1, e2⟩ e3 s1 s2
        rw [List.getElem?_map] at e3
        cases e4 : (ys.zip zs)[i]? with
        | none => rw [e4] at e3; cases e3
        | some pq =>
          rw [e4] at e3; cases e3
          obtain ⟨y1, y2⟩ := List.getElem?_zip_eq_some.mp e4
          have hF : F' Tn = none := s2.free hT
          refine ⟨upd F' Tn (.tup [x1, x2]), upd_sub hF, upd_sub hT, .tup upd_same (.cons (fp := []) (fps := []) (((reps_at q2 y1 e1).mono s1).mono (upd_sub hF)) (.cons (fp := []) (fps := []) (((reps_at p2 y2 e2).mono s1).mono (upd_sub hF)) .nil)), fun L h => (h.newF hT).2.2⟩
    · cases hi
  · rename_i x0 u y0 u'
    cases hi
    obtain ⟨v, f, w, g, rfl, r1, r2, h1, h2, rfl⟩ := A.two'
    obtain ⟨rfl, rfl⟩ := r1.str_inv
    obtain ⟨rfl, rfl⟩ := r2.str_inv
    refine ⟨x0, y0, rfl, k _ _ _ (by rw [List.length_map, List.length_zip, Array.length_toList, Array.length_toList]; exact walk_zs) (fun H' h2 s' h3 => trivial) ?_⟩
    rintro i F' H1 v H1' x ⟨Tn, c, d, rfl, hT, rfl, e1, e2⟩ e3 s1 s2
    rw [List.getElem?_map] at e3
    cases e4 : (x0.cps.toList.zip y0.cps.toList)[i]? with
    | none => rw [e4] at e3; cases e3
    | some pq =>
      rw [e4] at e3; cases e3
      obtain ⟨y1, y2⟩ := List.getElem?_zip_eq_some.mp e4
      rw [Array.getElem?_toList, e1] at y1
      rw [Array.getElem?_toList, e2] at y2
      cases y1; cases y2
      have hF : F' Tn = none := s2.free hT
      exact ⟨upd F' Tn (.tup [.str ⟨#[pq.1]⟩, .str ⟨#[pq.2]⟩]), upd_sub hF, upd_sub hT, .tup upd_same (.cons (fp := []) (fps := []) .str (.cons (fp := []) (fps := []) .str .nil)), fun L h => (h.newF hT).2.2⟩
  · cases hi
end
end Mn

set_option Elab.async false
set_option maxRecDepth 100000
set_option linter.all false
/-! Mn17: list comprehensions. -/
namespace Mn
open PySem L2
section
variable {K : PySem.W.Frag} {F H : Hp}
theorem Sl.congr : ∀ {env : Env} {σ σ' : St} {fps : List FP}, Sl K F env σ fps → (∀ (j : Nat) (x : Val), env[j]? = some (some x) → σ'[j]? = σ[j]?) → σ'.length = σ.length → Sl K F env σ' fps
  | _, _, σ', _, .snil, _, h => by
    have : σ' = [] := List.length_eq_zero_iff.mp h
    subst this; exact .snil
  | _, _, [], _, .sno r, _, h => by simp at h
  | _, _, v :: σ', _, .sno r, h1, h => .sno (r.congr (fun j x e => by simpa using h1 (j + 1) x (by simpa using e)) (by simpa using h))
  | _, _, [], _, .ssome a r, _, h => by simp at h
  | _, _, v :: σ', _, .ssome a r, h1, h => by
    have := h1 0 _ rfl
    simp at this
    subst this
    exact .ssome a (r.congr (fun j x e => by simpa using h1 (j + 1) x (by simpa using e)) (by simpa using h))
theorem Sl.unset : ∀ {env : Env} {σ : St} {fps : List FP} (i : Nat), Sl K F env σ fps → ∃ fps' g, Sl K F (env.set i none) σ fps' ∧ fps.flatten.Perm (fps'.flatten ++ g) ∧ (∀ x : Val, env[i]? = some (some x) → x.noOwn = true → g = []) ∧ ((∀ x : Val, env[i]? ≠ some (some x)) → g = [])
  | _, _, _, i, .snil => ⟨[], [], .snil, by simp, by simp, by simp⟩
  | _, _, _, 0, .sno (fps := fps) r => ⟨[] :: fps, [], .sno r, by simp, by simp, by simp⟩
  | _, _, _, 0, .ssome (fp := fp) (fps := fps) a r => ⟨[] :: fps, fp, .sno r, by simpa using List.perm_append_comm, fun x e h => by simp at e; subst e; exact a.noOwn h, fun h => absurd rfl (h _)⟩
  | _, _, _, i + 1, .sno r => by
    obtain ⟨fps', g, h1, h2, h3, h4⟩ := Sl.unset i r
    exact ⟨[] :: fps', g, .sno h1, by simpa using h2, fun x e => h3 x (by simpa using e), fun h => h4 fun x => by simpa using h x⟩
  | _, _, _, i + 1, .ssome (fp := fp) a r => by
    obtain ⟨fps', g, h1, h2, h3, h4⟩ := Sl.unset i r
    exact ⟨fp :: fps', g, .ssome a h1, by simpa [List.append_assoc] using h2.append_left fp, fun x e => h3 x (by simpa using e), fun h => h4 fun x => by simpa using h x⟩
theorem wipeE_len (env : Env) : ∀ vs : List Nat, (wipeE env vs).length = env.length
  | [] => rfl
  | v :: vs => by simp [wipeE, wipeE_len env vs]
theorem wipeE_get {env : Env} {j : Nat} {x : Val} : ∀ {vs : List Nat}, (wipeE env vs)[j]? = some (some x) → env[j]? = some (some x) ∧ j ∉ vs
  | [], h => ⟨h, by simp⟩
  | v :: vs, h => by
    simp only [wipeE] at h
    by_cases e : v = j
    · subst e
      by_cases hl : v < (wipeE env vs).length
      · rw [List.getElem?_set_self hl] at h; cases h
      · have : ((wipeE env vs).set v none)[v]? = none := by rw [List.getElem?_eq_none]; simpa using hl
        rw [this] at h; cases h
    · rw [List.getElem?_set_ne e] at h
      obtain ⟨h1, h2⟩ := wipeE_get h
      exact ⟨h1, by simp [h2, Ne.symm e]⟩
/-- slots forgotten -/
theorem Sl.wipe {env : Env} {σ : St} : ∀ (vs : List Nat) {fps : List FP}, Sl K F env σ fps → ∃ fps' g, Sl K F (wipeE env vs) σ fps' ∧ fps.flatten.Perm (fps'.flatten ++ g) ∧ (wipeOk env vs = true → g = [])
  | [], fps, s => ⟨fps, [], s, by simp, fun _ => rfl⟩
  | v :: vs, fps, s => by
    obtain ⟨f1, g1, h1, h2, h3⟩ := Sl.wipe vs s
    obtain ⟨f2, g2, k1, k2, k3, k4⟩ := h1.unset v
    refine ⟨f2, g2 ++ g1, k1, ?_, fun hw => ?_⟩
    · refine h2.trans ((k2.append_right g1).trans ?_)
      rw [List.append_assoc]
    · simp only [wipeOk, List.all_cons, Bool.and_eq_true] at hw
      rw [h3 hw.2, List.append_nil]
      by_cases hx : ∃ x, (wipeE env vs)[v]? = some (some x)
      · obtain ⟨x, hx⟩ := hx
        have e := (wipeE_get hx).1
        refine k3 x hx ?_
        have := hw.1
        rw [e] at this
        exact this
      · exact k4 fun x hx' => hx ⟨x, hx'⟩
theorem wipe_len (σ : St) (vs : List Nat) : (L2.wipe σ vs).length = σ.length := wipe_length σ vs
theorem wipe_get {σ : St} {j : Nat} : ∀ {vs : List Nat}, j ∉ vs → (L2.wipe σ vs)[j]? = σ[j]?
  | [], _ => rfl
  | v :: vs, h => by
    have h1 : v ≠ j := fun e => h (by simp [e])
    show ((L2.wipe σ vs).set v none)[j]? = _
    rw [List.getElem?_set_ne h1]
    exact wipe_get fun z => h (List.mem_cons_of_mem _ z)
theorem wipe_in {σ σ' : St} (hl : σ.length = σ'.length) {j : Nat} : ∀ {vs : List Nat}, j ∈ vs → (L2.wipe σ vs)[j]? = (L2.wipe σ' vs)[j]?
  | [], h => by simp at h
  | v :: vs, h => by
    show ((L2.wipe σ vs).set v none)[j]? = ((L2.wipe σ' vs).set v none)[j]?
    by_cases e : v = j
    · subst e
      by_cases hv : v < σ.length
      · rw [List.getElem?_set_self (by rw [wipe_len]; exact hv), List.getElem?_set_self (by rw [wipe_len, ← hl]; exact hv)]
      · rw [List.getElem?_eq_none (by rw [List.length_set, wipe_len]; omega), List.getElem?_eq_none (by rw [List.length_set, wipe_len]; omega)]
    · rw [List.getElem?_set_ne e, List.getElem?_set_ne e]
      exact wipe_in hl ((List.mem_cons.mp h).resolve_left fun z => e z.symm)
theorem wipe_eq {σ σ' : St} {vs : List Nat} (hl : σ.length = σ'.length) (h : ∀ j, j ∉ vs → σ[j]? = σ'[j]?) : L2.wipe σ vs = L2.wipe σ' vs := by
  apply List.ext_getElem?
  intro j
  by_cases hj : j ∈ vs
  · exact wipe_in hl hj
  · rw [wipe_get hj, wipe_get hj]; exact h j hj
/-- the slots of a comprehension's own names as they were -/
theorem Sl.restore {F F' : Hp} {env1 : Env} {σ : St} {fps1 : List FP} (s1 : Sl K F env1 σ fps1) (hs : Same F F') : ∀ (vs : List Nat) {env2 : Env} {fps2 : List FP}, (∀ i ∈ vs, ∀ x : Val, env1[i]? = some (some x) → x.noOwn = true) → Sl K F' env2 σ fps2 →
    ∃ fps3 g, Sl K F' (vs.foldl (fun e i => e.set i (env1[i]?.getD none)) env2) σ fps3 ∧ fps2.flatten.Perm (fps3.flatten ++ g)
  | [], env2, fps2, _, s => ⟨fps2, [], s, by simp⟩
  | v :: vs, env2, fps2, hw, s => by
    have step : ∃ f2 g2, Sl K F' (env2.set v (env1[v]?.getD none)) σ f2 ∧ fps2.flatten.Perm (f2.flatten ++ g2) := by
      cases e : env1[v]? with
      | none =>
        obtain ⟨f2, g2, k1, k2, _⟩ := s.unset v
        exact ⟨f2, g2, k1, k2⟩
      | some ox =>
        cases ox with
        | none =>
          obtain ⟨f2, g2, k1, k2, _⟩ := s.unset v
          exact ⟨f2, g2, k1, k2⟩
        | some x =>
          obtain ⟨w, fp, _, h1, h2, _⟩ := s1.get e
          have e0 := h2.noOwn (hw v List.mem_cons_self x e)
          subst e0
          have hv : v < env2.length := by rw [s.length]; exact (List.getElem?_eq_some_iff.mp h1).1
          obtain ⟨f2, q1, g, q2, q3⟩ := s.put hv (h2.mono hs)
          rw [set_self h1] at q1
          obtain ⟨c, hc⟩ := q2.exists_perm_append
          exact ⟨f2, c, q1, hc.trans ((by simpa using q3.symm : g.Perm f2.flatten).append_right c)⟩
    obtain ⟨f2, g2, k1, k2⟩ := step
    obtain ⟨f3, g3, l1, l2⟩ := Sl.restore s1 hs vs (fun i hi => hw i (List.mem_cons_of_mem _ hi)) k1
    refine ⟨f3, g3 ++ g2, l1, k2.trans ((l2.append_right g2).trans ?_)⟩
    rw [List.append_assoc]
end
end Mn

set_option Elab.async false
set_option maxRecDepth 100000
set_option linter.all false
/-! Mn18: list comprehensions, read as the run says. -/
namespace Mn
open PySem L2
section
variable {G : Nms} {T : Tbl} {cA : Nat → Addr} {pr : List Nat} {k : Nat}
theorem lookup_relabel {env : PySem.Env} (x : Str) (kd : NameKind) : ∀ {names : List (Str × NameKind)}, names.lookup x = some kd →
    (names.map fun (n, k) => if (k == NameKind.free && env.scope.kind == .function && env.kindOf n == some .cell) then (n, NameKind.cell) else (n, k)).lookup x = some kd ∨
    (kd = .free ∧ (names.map fun (n, k) => if (k == NameKind.free && env.scope.kind == .function && env.kindOf n == some .cell) then (n, NameKind.cell) else (n, k)).lookup x = some .cell)
  | [], h => by simp at h
  | (n, k) :: r, h => by
    simp only [List.map_cons]
    rw [List.lookup_cons] at h
    cases e : x == n with
    | true =>
      rw [e] at h
      cases h
      by_cases hc : (kd == NameKind.free && env.scope.kind == .function && env.kindOf n == some .cell) = true
      · rw [if_pos hc]
        right
        have : kd = .free := by
          simp only [Bool.and_eq_true, beq_iff_eq] at hc
          exact hc.1.1
        exact ⟨this, by rw [List.lookup_cons, e]⟩
      · rw [if_neg hc]
        left
        rw [List.lookup_cons, e]
    | false =>
      rw [e] at h
      have h' := lookup_relabel (env := env) x kd h
      by_cases hc : (k == NameKind.free && env.scope.kind == .function && env.kindOf n == some .cell) = true
      · rw [if_pos hc, List.lookup_cons, e]; exact h'
      · rw [if_neg hc, List.lookup_cons, e]; exact h'
theorem ScLe.relabel (cs : Scope) (env : PySem.Env) : ScLe cs (relabel cs env) := fun x kd h => lookup_relabel x kd h
theorem XOk.blk {X : Cx} {W : WX} (ok : XOk G T cA k X W) (s : Shared) (H : Hp) (cs : Scope) (C : Addr) (cl : List (Str × Addr)) (fp : List Addr) : XOk G T cA k (X.blk s H cs (compEnvC cs cl C X.env) fp) (fun _ _ _ _ => False) where
  room := ok.room
  calm := ok.calm
  nd := ok.nd
  tk := takes0
  po := PassesOwn.never
  gl := ok.gl
  fn := ok.fn
  bl := ok.bl
  ec := ok.ec
theorem blkOk_le {N : List Str} {sc sc' cs : Scope} {own : List (Str × Nat)} (b : BlkOk N sc cs own) (le : ScLe sc sc') : BlkOk N sc' cs own :=
  ⟨b.kind, b.uniq, b.ix, fun y hy e => by
    rcases b.free y hy e with z | z
    · rcases le _ _ z with w | ⟨w, _⟩
      · exact .inl w
      · cases w
    · rcases le _ _ z with w | ⟨_, w⟩
      · exact .inr w
      · exact .inl w, b.own⟩
theorem ik_plain {ik : IK} {sc : Scope} {t : Tgt} {N : List Str} {its : List ME} {q r : Pos} (hw : ik.wf G sc t its.length = true) (hl : wfEL G N pr sc its = true) : Plain (ik.er (erL its) q r) := by
  have one : ∀ {a : ME}, its = [a] → Plain (er a) := fun {a} e => by
    subst e
    simp only [wfEL, Bool.and_eq_true] at hl
    exact plain_er a hl.1
  cases ik with
  | list => obtain ⟨a, rfl⟩ := one_of (by simpa [IK.wf] using hw); exact one rfl
  | tuple => obtain ⟨a, rfl⟩ := one_of (by simpa [IK.wf] using hw); exact one rfl
  | text => obtain ⟨a, rfl⟩ := one_of (by simpa [IK.wf] using hw); exact one rfl
  | keys => simp [IK.wf] at hw
  | range1 =>
    simp only [IK.wf, Bool.and_eq_true] at hw
    obtain ⟨a, rfl⟩ := one_of hw.1
    exact .call fun _ _ _ => .inl (by simp [erL])
  | range2 =>
    simp only [IK.wf, Bool.and_eq_true] at hw
    obtain ⟨a, b, rfl⟩ := two_of hw.1
    exact .call fun _ _ _ => .inl (by simp [erL])
  | zipL =>
    simp only [IK.wf, Bool.and_eq_true] at hw
    obtain ⟨a, b, rfl⟩ := two_of hw.1.1
    exact .call fun _ _ _ => .inl (by simp [erL])
  | zipS =>
    simp only [IK.wf, Bool.and_eq_true] at hw
    obtain ⟨a, b, rfl⟩ := two_of hw.1.1
    exact .call fun _ _ _ => .inl (by simp [erL])
def noW : WX := fun _ _ _ _ => False
/-- the tests of a comprehension -/
def tIfs (K : PySem.W.Frag) (T : Tbl) (cA : Nat → Addr) : List ME → TT
  | [c] => tT K T cA noW c
  | _ => tYes
mutual
theorem Tgt.within_has : ∀ (t : Tgt) {l : List Nat} {j : Nat}, t.within l = true → j ∉ l → t.has j = false
  | .nm i x p, l, j, h, hj => by
    simp only [Tgt.within, List.contains_eq_mem, decide_eq_true_eq] at h
    simp only [Tgt.has, beq_eq_false_iff_ne]
    exact fun e => hj (e ▸ h)
  | .tp ts k p, l, j, h, hj => Tgt.withinL_has ts (by simpa [Tgt.within] using h) hj
theorem Tgt.withinL_has : ∀ (ts : List Tgt) {l : List Nat} {j : Nat}, Tgt.withinL ts l = true → j ∉ l → Tgt.hasL ts j = false
  | [], _, _, _, _ => rfl
  | t :: ts, l, j, h, hj => by
    simp only [Tgt.withinL, Bool.and_eq_true] at h
    simp only [Tgt.hasL, Bool.or_eq_false_iff]
    exact ⟨Tgt.within_has t h.1 hj, Tgt.withinL_has ts h.2 hj⟩
end
/-- where the comprehension stands between two turns -/
structure LcAt (K : PySem.W.Frag) (F2 H2 : Hp) (σ : St) (vs0 : List Nat) (D : Addr) (fo ext : FP) (st : Bool) (run : Env → R (List Val × Env)) (yall : List Val) (envF : Env) (H' : Hp) : Prop where
  ex : ∃ F' env' fps' acc ws fa ys, Same F2 F' ∧ Sl K F' env' (L2.wipe σ vs0) fps' ∧ (∀ (j : Nat) (x : Val), env'[j]? = some (some x) → j ∉ vs0) ∧ Ow F' H' (fps'.flatten ++ ((D, HO.lst ws) :: (fa ++ (fo ++ ext)))) ∧ Reps K F' acc ws fa ∧
    run env' = .ok (ys, envF) ∧ acc ++ ys = yall
  sm : st = true ∨ Same H2 H'
theorem wipe_none {σ : St} {vs : List Nat} {j : Nat} (h : j ∈ vs) : (L2.wipe σ vs)[j]? = none ∨ (L2.wipe σ vs)[j]? = some none := by
  cases e : (L2.wipe σ vs)[j]? with
  | none => exact .inl rfl
  | some o =>
    cases o with
    | none => exact .inr rfl
    | some v => exact absurd h (wipe_some e).2
theorem Sl.vis {K : PySem.W.Frag} {F : Hp} {env : Env} {σ : St} {fps : List FP} (s : Sl K F env σ fps) {j : Nat} {x : Val} (e : env[j]? = some (some x)) : ∃ v, σ[j]? = some (some v) := by
  obtain ⟨v, _, _, h, _⟩ := s.get e
  exact ⟨v, h⟩

mutual
theorem bind_len : ∀ (t : Tgt) {x : Val} {env env' : Env}, t.bind x env = some env' → env'.length = env.length
  | .nm i y p, x, env, env', h => by
    simp only [Tgt.bind] at h
    split at h
    · cases h; simp
    · cases h
  | .tp ts k p, x, env, env', h => by
    cases x <;> simp only [Tgt.bind] at h <;> first | (cases h; done) | exact bindL_len ts h
theorem bindL_len : ∀ (ts : List Tgt) {xs : List Val} {env env' : Env}, Tgt.bindL ts xs env = some env' → env'.length = env.length
  | [], [], _, _, h => by simp only [Tgt.bindL] at h; cases h; rfl
  | [], _ :: _, _, _, h => by simp [Tgt.bindL] at h
  | _ :: _, [], _, _, h => by simp [Tgt.bindL] at h
  | t :: ts, x :: xs, env, env', h => by
    simp only [Tgt.bindL] at h
    cases e : t.bind x env with
    | none => rw [e] at h; cases h
    | some env1 =>
      rw [e] at h
      rw [bindL_len ts h, bind_len t e]
end
theorem wipe_wipe (σ : St) (vs : List Nat) : L2.wipe (L2.wipe σ vs) vs = L2.wipe σ vs := wipe_eq (wipe_len _ _) fun j hj => wipe_get hj
theorem lc_read {elt : ME} {tg : Tgt} {ik : IK} {its : List ME} {q r : Pos} {ifs : List ME} {cs : Scope} {own : List (Str × Nat)} {p : Pos} {X : Cx} {W : WX} {sc : Scope} (h : wfE G X.N pr sc (.lc elt tg ik its q r ifs cs own p) = true) : ∀ σ H Q, tE X.K T cA W (.lc elt tg ik its q r ifs cs own p) σ H Q →
    tLc (fun σ H R => tL X.K T cA W its σ H fun vs H1 => Wk X.K ik vs H1 R) (gT X.K tg) (tIfs X.K T cA ifs) (tE X.K T cA noW elt) (own.map (·.2)) σ H Q := by
  simp only [wfE, Bool.and_eq_true, decide_eq_true_eq] at h
  obtain ⟨⟨⟨⟨⟨⟨⟨⟨w1, w2⟩, w3⟩, w4⟩, w5⟩, w6⟩, w7⟩, w8⟩, w9⟩ := h
  rintro σ H Q ⟨F, env, fps, ext, s, o, m⟩
  simp only [evE] at m
  refine ⟨F, env, fps, ext, s, o, ?_⟩
  revert m
  cases evL T its env with
  | stuck => exact id
  | exc c e => exact id
  | ok a =>
  obtain ⟨xs, env1⟩ := a
  intro m F2 H2 fps2 vs fo a1 a2 a3 a4 a5
  simp only [R.bind_ok] at m
  split at m
  case isFalse => exact m.elim
  rename_i hst
  cases hi : ik.items xs with
  | none => simp only [hi] at m; exact m.elim
  | some items =>
  simp only [hi] at m
  split at m
  case isFalse => exact m.elim
  rename_i hwo
  generalize hv : own.map (·.2) = vs0 at *
  cases hl : lcGo vs0 tg.bind (evIfs T ifs) (evE T elt) items (wipeE env1 vs0) with
  | stuck => simp only [hl] at m; exact m.elim
  | exc c e => simp only [hl] at m; exact m.elim
  | ok q =>
  obtain ⟨yall, envF⟩ := q
  simp only [hl] at m
  split at m
  case isFalse => exact m.elim
  rename_i hlen
  refine wk_of a4 a3 hi fun J Gp Y w hG hY D hD => ?_
  refine lc_it (Qd := fun H' => Q (.ref D) H') w (fun i H' => LcAt X.K F2 H2 σ vs0 D fo ext (ik.stays xs && !(elt.pure && pureL ifs)) (lcGo vs0 tg.bind (evIfs T ifs) (evE T elt) (items.drop i)) yall envF H') ?_ ?_ ?_ ?_
  · obtain ⟨fps', g, k1, k2, k3⟩ := a2.wipe vs0
    obtain rfl := k3 hwo
    rw [List.append_nil] at k2
    refine ⟨⟨F2, wipeE env1 vs0, fps', [], [], [], yall, Same.refl _, k1.congr (fun j x e => wipe_get (wipeE_get e).2) (wipe_len _ _), fun j x e => (wipeE_get e).2, ?_, .nil, hl, rfl⟩, .inr (upd_sub hD)⟩
    refine (a3.newO (o := .lst []) hD).2.perm ?_
    refine (List.Perm.cons _ (k2.append_right _)).trans ?_
    exact List.perm_middle.symm
  · rintro i H' _ ⟨⟨F', env', fps', acc, ws, fa, ys, b1, b2, b3, b4, b5, b6, b7⟩, sm⟩
    exact hG H' (b4.hold.sub fun e he => by simp [he]) (Same.trans b1 b4.same) (sm.imp (fun z => (Bool.and_eq_true _ _ ▸ z).1) id)
  · rintro i x H' H'' hin ⟨⟨F', env', fps', acc, ws, fa, ys, b1, b2, b3, b4, b5, b6, b7⟩, sm⟩ y
    have hxv : items[i]? = some items[i] := List.getElem?_eq_getElem hin
    obtain ⟨F'', c1, c2, c3, c4⟩ := hY i F' H' x H'' _ y hxv b1 b4.same
    rw [List.drop_eq_getElem_cons hin] at b6
    simp only [lcGo] at b6
    cases ebt : tg.bind items[i] (wipeE env' vs0) with
    | none => simp only [ebt] at b6; cases b6
    | some env2 =>
    simp only [ebt] at b6
    obtain ⟨fps3, g3', d1, d2, _⟩ := (b2.mono c1).wipe vs0
    have o2 := c4 _ b4
    have o3 : Ow F'' H'' (fps3.flatten ++ ((D, HO.lst ws) :: (fa ++ (fo ++ ext)))) := by
      have t : Ow F'' H'' (fps3.flatten ++ (g3' ++ ((D, HO.lst ws) :: (fa ++ (fo ++ ext))))) := o2.perm (by
        refine (d2.append_right _).trans ?_
        rw [List.append_assoc])
      exact t.tmp
    refine tgt_bind tg (σ0 := L2.wipe σ vs0) (.inl w2) ebt c3 o2.same d1 (fun _ _ => rfl) fun σ2 fps4 e1 _ hg4 e3 => ?_
    obtain ⟨g4, e2⟩ := hg4
    have len2 : σ2.length = σ.length := by
      have h1 := e1.length
      have h2 := d1.length
      have h3 : env2.length = (wipeE env' vs0).length := bind_len tg ebt
      rw [← h1, h3, h2, wipe_len]
    have hσ : L2.wipe σ2 vs0 = L2.wipe σ vs0 := by
      rw [← wipe_wipe σ vs0]
      exact wipe_eq (by rw [wipe_len]; exact len2) fun j hj => e3 j (Tgt.within_has tg w9 hj)
    have o4 : Ow F'' H'' (fps4.flatten ++ ((D, HO.lst ws) :: (fa ++ (fo ++ ext)))) := by
      have t : Ow F'' H'' (fps4.flatten ++ (g4 ++ ((D, HO.lst ws) :: (fa ++ (fo ++ ext))))) := o3.perm (by
        refine ((by simpa using e2 : fps3.flatten.Perm (fps4.flatten ++ g4)).append_right _).trans ?_
        rw [List.append_assoc])
      exact t.tmp
    refine ⟨hσ, ?_⟩
    have s2 : (ik.stays xs && !(elt.pure && pureL ifs)) = true ∨ Same H2 H'' := sm.imp id fun z => z.trans c2
    -- the slots behind a turn
    have slw : ∀ {F5 : Hp} {env3 : Env} {fps5 : List FP}, Sl X.K F5 env3 σ2 fps5 → ∃ fps6 g6, Sl X.K F5 (wipeE env3 vs0) (L2.wipe σ vs0) fps6 ∧ fps5.flatten.Perm (fps6.flatten ++ g6) := fun {F5 env3 fps5} s5 => by
      obtain ⟨f6, g6, l1, l2, _⟩ := s5.wipe vs0
      refine ⟨f6, g6, l1.congr (fun j x e => ?_) (by rw [wipe_len]; exact len2.symm), l2⟩
      rw [← hσ, wipe_get (wipeE_get e).2]
    have hF : ∀ (env3 : Env) (F5 H5 : Hp) (fps5 : List FP), Same F'' F5 → Sl X.K F5 env3 σ2 fps5 → Ow F5 H5 (fps5.flatten ++ ((D, HO.lst ws) :: (fa ++ (fo ++ ext)))) → ((ik.stays xs && !(elt.pure && pureL ifs)) = true ∨ Same H2 H5) →
        lcGo vs0 tg.bind (evIfs T ifs) (evE T elt) (items.drop (i + 1)) (wipeE env3 vs0) = .ok (ys, envF) → LcAt X.K F2 H2 σ vs0 D fo ext (ik.stays xs && !(elt.pure && pureL ifs)) (lcGo vs0 tg.bind (evIfs T ifs) (evE T elt) (items.drop (i + 1))) yall envF H5 := by
      intro env3 F5 H5 fps5 f1 f2 f3 f4 f5
      obtain ⟨f6, g6, l1, l2⟩ := slw f2
      refine ⟨⟨F5, wipeE env3 vs0, f6, acc, ws, fa, ys, Same.trans b1 (Same.trans c1 f1), l1, fun j x e => (wipeE_get e).2, ?_, b5.mono (Same.trans c1 f1), f5, b7⟩, f4⟩
      have t : Ow F5 H5 (f6.flatten ++ (g6 ++ ((D, HO.lst ws) :: (fa ++ (fo ++ ext))))) := f3.perm (by
        refine (l2.append_right _).trans ?_
        rw [List.append_assoc])
      exact t.tmp
    have hT : ∀ (env3 : Env) (F5 H5 : Hp) (fps5 : List FP), Same F'' F5 → Sl X.K F5 env3 σ2 fps5 → Ow F5 H5 (fps5.flatten ++ ((D, HO.lst ws) :: (fa ++ (fo ++ ext)))) → ((ik.stays xs && !(elt.pure && pureL ifs)) = true ∨ Same H2 H5) →
        (match evE T elt env3 with
          | .ok (y, u, env4) => if storable y u = true then (match lcGo vs0 tg.bind (evIfs T ifs) (evE T elt) (items.drop (i + 1)) (wipeE env4 vs0) with
              | .ok (ys, e) => R.ok (y :: ys, e)
              | _ => .stuck) else .stuck
          | _ => .stuck) = R.ok (ys, envF) →
        tE X.K T cA noW elt σ2 H5 fun y H4 => ∃ acc, H4 D = some (.lst acc) ∧ acc.length < sizeLine ∧ LcAt X.K F2 H2 σ vs0 D fo ext (ik.stays xs && !(elt.pure && pureL ifs)) (lcGo vs0 tg.bind (evIfs T ifs) (evE T elt) (items.drop (i + 1))) yall envF (upd H4 D (.lst (acc ++ [y]))) := by
      intro env3 F5 H5 fps5 f1 f2 f3 f4 f5
      refine ⟨F5, env3, fps5, _, f2, f3, ?_⟩
      revert f5
      cases evE T elt env3 with
      | stuck => intro f5; cases f5
      | exc c e => intro f5; cases f5
      | ok a =>
        obtain ⟨yv, u, env4⟩ := a
        intro f5 F6 H6 fps6 v fp h1 h2 h3 h4 h5 h6
        dsimp only at f5
        split at f5
        case isFalse => cases f5
        rename_i hsto
        cases hr : lcGo vs0 tg.bind (evIfs T ifs) (evE T elt) (items.drop (i + 1)) (wipeE env4 vs0) with
        | stuck => simp only [hr] at f5; cases f5
        | exc c e => simp only [hr] at f5; cases f5
        | ok q2 =>
          obtain ⟨ys', eF⟩ := q2
          simp only [hr] at f5
          cases f5
          have efp : (if u = true then fp else []) = fp := by
            cases u with
            | true => rfl
            | false => rw [h4.noOwn (by simpa [storable] using hsto)]; rfl
          rw [efp] at h3
          have hD6 : H6 D = some (HO.lst ws) := h3.hold (D, HO.lst ws) (by simp)
          obtain ⟨f6, g6, l1, l2⟩ := slw h2
          have hlen2 : acc.length + 1 ≤ sizeLine := by
            have : yall.length = acc.length + (ys'.length + 1) := by rw [← b7]; simp
            omega
          refine ⟨ws, hD6, by rw [← b5.length]; omega, ⟨F6, wipeE env4 vs0, f6, acc ++ [yv], ws ++ [v], fa ++ fp, ys', Same.trans b1 (Same.trans c1 (Same.trans f1 h1)), l1, fun j x e => (wipeE_get e).2, ?_, ?_, hr, by rw [← b7]; simp⟩, ?_⟩
          · have t : Ow F6 H6 ((D, HO.lst ws) :: (f6.flatten ++ (g6 ++ (fp ++ (fa ++ (fo ++ ext)))))) := h3.perm (by
              have t1 : (fps6.flatten ++ (fp ++ ((D, HO.lst ws) :: (fa ++ (fo ++ ext))))).Perm ((f6.flatten ++ g6) ++ (fp ++ ((D, HO.lst ws) :: (fa ++ (fo ++ ext))))) := l2.append_right _
              refine t1.trans ?_
              have t2 : (fp ++ ((D, HO.lst ws) :: (fa ++ (fo ++ ext)))).Perm ((D, HO.lst ws) :: (fp ++ (fa ++ (fo ++ ext)))) := List.perm_middle
              refine (t2.append_left _).trans ?_
              refine List.perm_middle.trans ?_
              rw [List.append_assoc])
            have t3 := (t.set (o' := HO.lst (ws ++ [v])))
            have t4 : Ow F6 (upd H6 D (HO.lst (ws ++ [v]))) ((D, HO.lst (ws ++ [v])) :: (f6.flatten ++ (fp ++ (fa ++ (fo ++ ext))))) := t3.sub (List.Sublist.cons_cons _ (List.Sublist.append (List.Sublist.refl _) (List.sublist_append_right _ _)))
            refine t4.perm ?_
            refine List.perm_middle.symm.trans (List.Perm.append_left _ (List.Perm.cons _ ?_))
            rw [List.append_assoc]
            exact List.perm_append_comm_assoc _ _ _
          · have := (b5.mono (Same.trans c1 (Same.trans f1 h1))).app (Reps.cons h4 .nil)
            simpa using this
          · rcases f4 with z | z
            · exact .inl z
            · by_cases hp : (elt.pure && pureL ifs) = true
              · have hp2 := hp
                simp only [Bool.and_eq_true] at hp2
                refine .inr fun b u e => ?_
                have hb : b ≠ D := ne_of_none e hD
                rw [upd_ne hb]
                exact h6 hp2.1 b u (z b u e)
              · rw [Bool.not_eq_true] at hp
                rw [hp, Bool.or_false] at hst
                exact .inl (by rw [hst, hp]; rfl)
    match ifs, w5, w6, hst, b6, hF, hT with
    | [], _, _, hst, b6, hF, hT =>
      have z := hT env2 F'' H'' fps4 (Same.refl _) e1 o4 s2 b6
      simp only [tIfs, tYes, if_true]
      exact z
    | [c], _, w6, hst, b6, hF, hT =>
      refine ⟨F'', env2, fps4, _, e1, o4, ?_⟩
      revert b6
      simp only [evIfs]
      cases evT T c env2 with
      | stuck => intro b6; cases b6
      | exc c e => intro b6; cases b6
      | ok bq =>
        obtain ⟨b, env3⟩ := bq
        intro b6 F5 H5 fps5 f1 f2 f3 f4
        simp only [R.bind_ok, evTAnd] at b6
        have s5 : (ik.stays xs && !(elt.pure && pureL [c])) = true ∨ Same H2 H5 := by
          rcases s2 with z | z
          · exact .inl z
          · by_cases hp : (elt.pure && pureL [c]) = true
            · have hp2 := hp
              simp only [Bool.and_eq_true, pureL] at hp2
              exact .inr (Same.trans z (f4 hp2.2.1))
            · rw [Bool.not_eq_true] at hp
              rw [hp, Bool.or_false] at hst
              exact .inl (by rw [hst, hp]; rfl)
        cases b with
        | true => exact iteT (hT env3 F5 H5 fps5 f1 f2 f3 s5 b6)
        | false => exact iteF (hF env3 F5 H5 fps5 f1 f2 f3 s5 b6)
    | _ :: _ :: _, w5, _, _, _, _, _ => exact absurd w5 (by simp)
  · rintro H' ⟨⟨F', env', fps', acc, ws, fa, ys, b1, b2, b3, b4, b5, b6, b7⟩, sm⟩
    rw [List.drop_length] at b6
    simp only [lcGo] at b6
    cases b6
    rw [List.append_nil] at b7
    subst b7
    have b2' : Sl X.K F' envF σ fps' := b2.congr (fun j x e => (wipe_get (b3 j x e)).symm) (by rw [wipe_len])
    obtain ⟨f7, g7, l1, l2⟩ := a2.restore b1 vs0 (fun i hi x e => by
      have := List.all_eq_true.mp hwo i hi
      rw [e] at this
      exact this) b2'
    refine m F' H' f7 (.ref D) ((D, .lst ws) :: fa) (Same.trans a1 b1) l1 ?_ (.lstO b5) nofun (fun hp => by
      simp only [ME.pure, Bool.and_eq_true] at hp
      rcases sm with z | z
      · rw [hp.1.1, hp.2] at z
        simp at z
      · exact Same.trans (a5 hp.1.2) z)
    have t : Ow F' H' (f7.flatten ++ (g7 ++ ((D, HO.lst ws) :: (fa ++ (fo ++ ext))))) := b4.perm (by
      refine (l2.append_right _).trans ?_
      rw [List.append_assoc])
    refine t.tmp.sub (List.Sublist.append (List.Sublist.refl _) ?_)
    exact List.Sublist.cons_cons _ (List.Sublist.append (List.Sublist.refl _) (List.sublist_append_right _ _))

structure LcOk (G : Nms) (T : Tbl) (cA : Nat → Addr) (X : Cx) (W : WX) (elt : ME) (tg : Tgt) (ik : IK) (its : List ME) (q r : Pos) (ifs : List ME) (cs : Scope) (own : List (Str × Nat)) : Prop where
  pi : PI X tg.er (ik.er (erL its) q r) (fun σ H R => tL X.K T cA W its σ H fun vs H1 => Wk X.K ik vs H1 R)
  bo : BlkOk X.N X.env.scope cs own
  pg : ∀ (s : Shared) (H : Hp) (C : Addr) (cl : List (Str × Addr)) (fp : List Addr), PG (X.blk s H cs (compEnvC cs cl C X.env) fp) tg.er (gT X.K tg)
  pt : ∀ (s : Shared) (H : Hp) (C : Addr) (cl : List (Str × Addr)) (fp : List Addr), PTs (X.blk s H cs (compEnvC cs cl C X.env) fp) (erL ifs) (tIfs X.K T cA ifs)
  pe : ∀ (s : Shared) (H : Hp) (C : Addr) (cl : List (Str × Addr)) (fp : List Addr), PE (X.blk s H cs (compEnvC cs cl C X.env) fp) (er elt) (tE X.K T cA noW elt)
  fo : ∀ x, foldedSetIterable (ik.er (erL its) q r) X.env x = pure x
theorem lc_ok {elt : ME} {tg : Tgt} {ik : IK} {its : List ME} {q r : Pos} {ifs : List ME} {cs : Scope} {own : List (Str × Nat)} {p : Pos} (g1 : ∀ e ∈ its, SE G T cA pr k e) (g2 : ∀ e ∈ ifs, STt G T cA pr k e) (g3 : SE G T cA pr k elt) {X : Cx} {W : WX} {sc : Scope} (ok : XOk G T cA k X W) (le : ScLe sc X.env.scope) (h : wfE G X.N pr sc (.lc elt tg ik its q r ifs cs own p) = true) :
    LcOk G T cA X W elt tg ik its q r ifs cs own := by
  simp only [wfE, Bool.and_eq_true, decide_eq_true_eq] at h
  obtain ⟨⟨⟨⟨⟨⟨⟨⟨w1, w2⟩, w3⟩, w4⟩, w5⟩, w6⟩, w7⟩, w8⟩, w9⟩ := h
  refine ⟨pi_src ok le w3 w4 g1, blkOk_le (blkOk_by w1) le, fun s H C cl fp => pg_tgt (N := X.N) (X := X.blk s H cs (compEnvC cs cl C X.env) fp) ok.calm ok.nd (ScLe.relabel cs X.env) tg w2, fun s H C cl fp => ?_,
    fun s H C cl fp => g3 _ noW cs (ok.blk s H cs C cl fp) (ScLe.relabel cs X.env) w7, fun x => (ik_plain w3 w4).fold x⟩
  match ifs, w5, w6, g2 with
  | [], _, _, _ => exact pts_nil
  | [c], _, w6, g2 =>
    simp only [wfEL, Bool.and_eq_true] at w6
    exact pts_one (g2 c (by simp) _ noW cs (ok.blk s H cs C cl fp) (ScLe.relabel cs X.env) w6.1)
  | _ :: _ :: _, w5, _, _ => exact absurd w5 (by simp)
theorem se_lc {elt : ME} {tg : Tgt} {ik : IK} {its : List ME} {q r : Pos} {ifs : List ME} {cs : Scope} {own : List (Str × Nat)} {p : Pos} (g1 : ∀ e ∈ its, SE G T cA pr k e) (g2 : ∀ e ∈ ifs, STt G T cA pr k e) (g3 : SE G T cA pr k elt) :
    SE G T cA pr k (.lc elt tg ik its q r ifs cs own p) := fun X W sc ok le h => by
  have z := lc_ok g1 g2 g3 ok le h
  exact PE.weak (pe_lc ok.calm ok.nd z.pi z.bo z.pg z.pt z.pe z.fo) (lc_read h)
end
end Mn

set_option Elab.async false
set_option maxRecDepth 100000
set_option linter.all false
/-! Mn18b: frozen parts; displays of dicts. -/
namespace Mn
open PySem L2
section
variable {G : Nms} {T : Tbl} {cA : Nat → Addr} {pr : List Nat} {k : Nat}
/-- a value that is kept: frozen or not -/
theorem keep_val {K : PySem.W.Frag} {F H : Hp} {x : Val} {u fr : Bool} {v : V} {fp base ext : FP} (o : Ow F H (base ++ ((if u = true then fp else []) ++ ext))) (r : Rep K F x v fp) (hs : storable x u = true) :
    ∃ F2 fp2, Same F F2 ∧ Rep K F2 (fz? fr x) v fp2 ∧ Ow F2 H (base ++ (fp2 ++ ext)) := by
  have e : (if u = true then fp else []) = fp := by
    cases u with
    | true => rfl
    | false => rw [r.noOwn (by simpa [storable] using hs)]; rfl
  rw [e] at o
  cases fr with
  | false => exact ⟨F, fp, Same.refl _, r, o⟩
  | true =>
    have o2 : Ow F H (fp ++ (base ++ ext)) := o.perm (List.perm_append_comm_assoc _ _ _)
    obtain ⟨z1, z2, z3⟩ := o2.freeze
    exact ⟨_, [], z1, r.frz z1 z2, z3⟩

theorem se_fr {e : ME} (g : SE G T cA pr k e) : SE G T cA pr k (.fr e) := fun X W sc ok le h => by
  simp only [wfE, Bool.and_eq_true] at h
  refine PE.weak (g X W sc ok le h.2) ?_
  rintro σ H Q ⟨F, env, fps, ext, s, o, m⟩
  refine ⟨F, env, fps, ext, s, o, ?_⟩
  simp only [evE] at m
  revert m
  cases evE T e env with
  | stuck => exact id
  | exc c e => exact id
  | ok a =>
    obtain ⟨x, u, env1⟩ := a
    intro m F2 H2 fps2 v fp a1 a2 a3 a4 a5 a6
    simp only [R.bind_ok] at m
    split at m
    case isFalse => exact m.elim
    rename_i hs
    obtain ⟨F3, fp2, b1, b2, b3⟩ := keep_val (fr := true) a3 a4 hs
    exact m F3 H2 fps2 v fp2 (Same.trans a1 b1) (a2.mono b1) b3 b2 nofun fun z => nomatch z
/-- the ground with all that the slots own, and without it again -/
def gnd (F H : Hp) (fp : FP) : Hp := fun b => if b ∈ keys fp then H b else F b
def less (F : Hp) (fp : FP) : Hp := fun b => if b ∈ keys fp then none else F b
theorem key_mem {fp : FP} {e : Addr × HO} (h : e ∈ fp) : e.1 ∈ keys fp := List.mem_map.mpr ⟨e, h, rfl⟩
theorem off_keys {F : Hp} {fp : FP} (h : ∀ e ∈ fp, F e.1 = none) {b : Addr} (hb : b ∈ keys fp) : F b = none := by
  obtain ⟨e, he, rfl⟩ := List.mem_map.mp hb
  exact h e he
theorem sl_frz {K : PySem.W.Frag} {F F' : Hp} (hs : Same F F') : ∀ {env : Env} {σ : St} {fps : List FP}, Sl K F env σ fps → Hold F' fps.flatten → ∃ fps', Sl K F' (frzE env) σ fps' ∧ fps'.flatten = []
  | _, _, _, .snil, _ => ⟨[], .snil, rfl⟩
  | _, _, _, .sno r, h => by
    obtain ⟨f, h1, h2⟩ := sl_frz hs r (by simpa using h)
    exact ⟨[] :: f, .sno h1, by simpa using h2⟩
  | _, _, _, .ssome a r, h => by
    rw [List.flatten_cons] at h
    obtain ⟨h0, h1⟩ := h.app
    obtain ⟨f, h2, h3⟩ := sl_frz hs r h1
    exact ⟨[] :: f, .ssome (a.frz hs h0) h2, by simpa using h3⟩
theorem flat_repB {K : PySem.W.Frag} {F F' : Hp} {y : Val} {v : V} {fp : FP} (h : isFlat y = true) (r : Rep K F y v fp) : Rep K F' y v [] ∧ fp = [] := by
  cases r <;> first | (simp [isFlat] at h; done) | exact ⟨by constructor, rfl⟩
theorem se_borC {j : Nat} {f : Str} {p q : Pos} {es : List ME} (g : SE G T cA pr k (.call j f p q es)) : SE G T cA pr k (.borC j f p q es) := fun X W sc ok le h => by
  refine PE.weak (g X W sc ok le (by simpa only [wfE] using h)) ?_
  rintro σ H Q ⟨F, env, fps, ext, s, o, m⟩
  simp only [evE] at m
  split at m
  case isFalse => exact m.elim
  obtain ⟨o1, o2⟩ : Ow F H fps.flatten ∧ Ow F H ext := ⟨o.sub (List.sublist_append_left _ _), o.sub (List.sublist_append_right _ _)⟩
  have hsF : Same F (gnd F H fps.flatten) := fun b u e => by
    unfold gnd
    split
    · rename_i hb
      rw [off_keys o1.off hb] at e; cases e
    · exact e
  have hsH : Same (gnd F H fps.flatten) H := fun b u e => by
    unfold gnd at e
    split at e
    · exact e
    · exact o.same _ _ e
  have hh : Hold (gnd F H fps.flatten) fps.flatten := fun e he => by
    unfold gnd
    rw [if_pos (key_mem he)]
    exact o1.hold e he
  obtain ⟨fps', s', hf⟩ := sl_frz hsF s hh
  have dis : ∀ e ∈ ext, e.1 ∉ keys fps.flatten := fun e he hm => by
    have := o.nd
    rw [keys, List.map_append] at this
    exact (List.nodup_append.mp this).2.2 _ hm _ (key_mem he) rfl
  have o' : Ow (gnd F H fps.flatten) H (fps'.flatten ++ ext) := by
    rw [hf, List.nil_append]
    refine ⟨hsH, o2.nd, o2.hold, fun e he => ?_⟩
    unfold gnd
    rw [if_neg (dis e he)]
    exact o2.off e he
  refine ⟨_, frzE env, fps', ext, s', o', ?_⟩
  simp only [evE]
  revert m
  generalize ((evArgs T es (frzE env)).bind _ : R (Val × Bool × Env)) = r
  cases r with
  | stuck => exact id
  | exc c e => exact fun m => m.elim
  | ok a =>
    obtain ⟨y, u, env1⟩ := a
    intro m F2 H2 fps2 v fp a1 a2 a3 a4 a5 a6
    dsimp only at m
    split at m
    case isFalse => exact m.elim
    rename_i hfl
    obtain ⟨ry, rfl⟩ := flat_repB (F' := less F2 fps.flatten) hfl a4
    have a3' : Ow F2 H2 ext := a3.sub (by
      refine (List.sublist_append_right _ _).trans (List.sublist_append_right _ _))
    have l1 : Same F (less F2 fps.flatten) := fun b u e => by
      unfold less
      split
      · rename_i hb
        rw [off_keys o1.off hb] at e; cases e
      · exact a1 _ _ (hsF _ _ e)
    have l2 : Same (less F2 fps.flatten) H2 := fun b u e => by
      unfold less at e
      split at e
      · cases e
      · exact a3'.same _ _ e
    refine m (less F2 fps.flatten) H2 fps v [] l1 (s.mono l1) ?_ ry nofun (fun z => nomatch z)
    refine ⟨l2, by simpa using o.nd, fun e he => ?_, fun e he => ?_⟩
    · rcases List.mem_append.mp he with h1 | h1
      · exact a3'.same _ _ (a1 _ _ (hh e h1))
      · exact a3'.hold e (by simpa using h1)
    · rcases List.mem_append.mp he with h1 | h1
      · unfold less; rw [if_pos (key_mem h1)]
      · unfold less
        split
        · rfl
        · exact a3'.off e (by simpa using h1)
theorem st_tBor {c : ME} (g : STt G T cA pr k c) : STt G T cA pr k (.tBor c) := fun X W sc ok le h => by
  refine PT.weak (g X W sc ok le (by simpa only [wfE] using h)) ?_
  rintro σ H Q ⟨F, env, fps, ext, s, o, m⟩
  simp only [evT] at m
  split at m
  case isFalse => exact m.elim
  obtain ⟨o1, o2⟩ : Ow F H fps.flatten ∧ Ow F H ext := ⟨o.sub (List.sublist_append_left _ _), o.sub (List.sublist_append_right _ _)⟩
  have hsF : Same F (gnd F H fps.flatten) := fun b u e => by
    unfold gnd
    split
    · rename_i hb
      rw [off_keys o1.off hb] at e; cases e
    · exact e
  have hsH : Same (gnd F H fps.flatten) H := fun b u e => by
    unfold gnd at e
    split at e
    · exact e
    · exact o.same _ _ e
  have hh : Hold (gnd F H fps.flatten) fps.flatten := fun e he => by
    unfold gnd
    rw [if_pos (key_mem he)]
    exact o1.hold e he
  obtain ⟨fps', s', hf⟩ := sl_frz hsF s hh
  have dis : ∀ e ∈ ext, e.1 ∉ keys fps.flatten := fun e he hm => by
    have := o.nd
    rw [keys, List.map_append] at this
    exact (List.nodup_append.mp this).2.2 _ hm _ (key_mem he) rfl
  have o' : Ow (gnd F H fps.flatten) H (fps'.flatten ++ ext) := by
    rw [hf, List.nil_append]
    refine ⟨hsH, o2.nd, o2.hold, fun e he => ?_⟩
    unfold gnd
    rw [if_neg (dis e he)]
    exact o2.off e he
  refine ⟨_, frzE env, fps', ext, s', o', ?_⟩
  revert m
  generalize evT T c (frzE env) = r
  cases r with
  | stuck => exact id
  | exc c e => exact fun m => m.elim
  | ok a =>
    obtain ⟨b, env1⟩ := a
    intro m F2 H2 fps2 a1 a2 a3 a6
    have a3' : Ow F2 H2 ext := a3.sub (List.sublist_append_right _ _)
    have l1 : Same F (less F2 fps.flatten) := fun b u e => by
      unfold less
      split
      · rename_i hb
        rw [off_keys o1.off hb] at e; cases e
      · exact a1 _ _ (hsF _ _ e)
    have l2 : Same (less F2 fps.flatten) H2 := fun b u e => by
      unfold less at e
      split at e
      · cases e
      · exact a3'.same _ _ e
    refine m (less F2 fps.flatten) H2 fps l1 (s.mono l1) ?_ (fun z => nomatch z)
    refine ⟨l2, o.nd, fun e he => ?_, fun e he => ?_⟩
    · rcases List.mem_append.mp he with h1 | h1
      · exact a3'.same _ _ (a1 _ _ (hh e h1))
      · exact a3'.hold e h1
    · rcases List.mem_append.mp he with h1 | h1
      · unfold less; rw [if_pos (key_mem h1)]
      · unfold less
        split
        · rfl
        · exact a3'.off e h1
def trsOf (K : PySem.W.Frag) (T : Tbl) (cA : Nat → Addr) (W : WX) : List ME → List (TE × TE)
  | a :: b :: r => (tE K T cA W a, tE K T cA W b) :: trsOf K T cA W r
  | _ => []
theorem pps_of {X : Cx} {W : WX} {sc : Scope} {p : Pos} (ok : XOk G T cA k X W) (le : ScLe sc X.env.scope) : ∀ es : List ME, es.length % 2 = 0 → (∀ e ∈ es, SE G T cA pr k e) → wfEL G X.N pr sc es = true → PPs X p ((evens (erL es)).map some) (odds (erL es)) (trsOf X.K T cA W es)
  | [], _, _, _ => pps_nil
  | [a], h, _, _ => by simp at h
  | a :: b :: r, h, g, hw => by
    simp only [wfEL, Bool.and_eq_true] at hw
    exact pps_cons (g a (by simp) X W sc ok le hw.1) (g b (by simp) X W sc ok le hw.2.1) (pps_of ok le r (by simp at h; omega) (fun e he => g e (by simp [he])) hw.2.2)
def unp : List V → List (V × V)
  | a :: b :: r => (a, b) :: unp r
  | _ => []
theorem tPairs_of {K : PySem.W.Frag} {W : WX} {σ : St} : ∀ {es : List ME} {H : Hp} {Q : List (V × V) → Hp → Prop}, es.length % 2 = 0 → tL K T cA W es σ H (fun vs H' => Q (unp vs) H') → tPairs (trsOf K T cA W es) σ H Q
  | [], H, Q, _, h => tL_nil h
  | [a], H, Q, h, _ => by simp at h
  | a :: b :: r, H, Q, hl, h => tE_mono (tL_cons h) fun x H1 h1 => tE_mono (tL_cons h1) fun y H2 h2 => tPairs_of (es := r) (Q := fun ps H3 => Q ((x, y) :: ps) H3) (by simp at hl; omega) h2
theorem pairs_rep {K : PySem.W.Frag} {F H : Hp} : ∀ {xs : List (Val × Bool)} {vs : List V} {fo : FP} {kvs : List (Key × Val)}, Ags K F H xs vs fo → pairs? xs = some kvs →
    ∃ (kws : List (Key × V)) (f rest : FP), unp vs = kws.map (fun kv => (kV kv.1, kv.2)) ∧ kvs.map (·.1) = kws.map (·.1) ∧ Reps K F (kvs.map (·.2)) (kws.map (·.2)) f ∧ fo.Perm (f ++ rest)
  | _, _, _, kvs, .nil, e => by
    simp [pairs?] at e
    subst e
    exact ⟨[], [], [], rfl, rfl, .nil, by simp⟩
  | _, _, _, kvs, .cons (xs := []) _ _ _, e => by simp [pairs?] at e
  | _, _, _, kvs, .cons (x := x) (u := t) (v := v) (fp := f1) r1 h1 (.cons (x := y) (u := u) (v := w) (fp := f2) (fo := fo) r2 h2 A), e => by
    simp only [pairs?] at e
    split at e
    · rename_i kk kvs' e1 e2
      split at e
      · rename_i hu
        cases e
        obtain ⟨rfl, rfl⟩ := key_rep r1 e1
        obtain ⟨kws, f, rest, q1, q2, q3, q4⟩ := pairs_rep A e2
        refine ⟨(kk, w) :: kws, f2 ++ f, rest, by simp [unp, q1], by simp [q2], .cons r2 q3, ?_⟩
        have e3 : (if u = true then f2 else []) = f2 := by
          cases u with
          | true => rfl
          | false => rw [r2.noOwn (by simpa using hu)]; rfl
        rw [e3]
        have e4 : (if t = true then ([] : FP) else []) = [] := by cases t <;> rfl
        rw [e4, List.append_nil]
        refine (q4.append_right f2).trans ?_
        exact List.perm_append_comm.trans (by rw [List.append_assoc])
      · cases e
    · cases e
theorem merge_nd : ∀ (more acc : List (Key × V)), ((acc ++ more).map (·.1)).Nodup → mergeK acc more = acc ++ more
  | [], acc, _ => by simp [mergeK]
  | (a, v) :: r, acc, h => by
    show mergeK (putK acc a v) r = _
    have e : putK acc a v = acc ++ [(a, v)] := by
      unfold putK
      rw [if_neg]
      intro hc
      simp only [List.any_eq_true, decide_eq_true_eq] at hc
      obtain ⟨x, hx, e⟩ := hc
      rw [List.map_append, List.nodup_append] at h
      exact h.2.2 x.1 (List.mem_map_of_mem hx) a (by simp) e
    rw [e, merge_nd r (acc ++ [(a, v)]) (by simpa using h)]
    simp
theorem evens_len {α β : Type} : ∀ {a : List α} {b : List β}, a.length = b.length → (evens a).length = a.length / 2 ∧ (odds b).length = a.length / 2
  | [], [], _ => by simp [evens, odds]
  | [_], [_], _ => by simp [evens, odds]
  | _ :: _ :: a, _ :: _ :: b, h => by
    obtain ⟨h1, h2⟩ := evens_len (a := a) (b := b) (by simpa using h)
    simp only [evens, odds, List.length_cons]
    omega
  | [], _ :: _, h => by simp at h
  | [_], [], h => by simp at h
  | [_], _ :: _ :: _, h => by simp at h
  | _ :: _ :: _, [], h => by simp at h
  | _ :: _ :: _, [_], h => by simp at h
theorem se_dlit {es : List ME} {p : Pos} (g : ∀ e ∈ es, SE G T cA pr k e) : SE G T cA pr k (.dlit es p) := fun X W sc ok le h => by
  simp only [wfE, Bool.and_eq_true, decide_eq_true_eq, beq_iff_eq] at h
  obtain ⟨⟨⟨h1, h2⟩, h3⟩, h4⟩ := h
  obtain ⟨l1, l2⟩ := evens_len (a := erL es) (b := erL es) rfl
  have l0 := erL_len es
  refine PE.weak (pe_disp (pps_of (W := W) ok le es h3 g h4) (by simp) (by rw [List.length_map, l1, l2]) (fun z => ?_) (by rw [List.length_map, l1]; omega)) ?_
  · have := congrArg List.length z
    rw [List.length_map, l1] at this
    simp at this
    omega
  rintro σ H Q ⟨F, env, fps, ext, s, o, m⟩ pp hp
  refine tPairs_of h3 ⟨F, env, fps, (pp, .dK []) :: ext, s, ?_, ?_⟩
  · exact ((o.newO (o := .dK []) hp).2).perm List.perm_middle.symm
  simp only [evE] at m
  revert m
  cases evL T es env with
  | stuck => exact id
  | exc c e => exact fun m F2 H2 fps2 a1 a2 a3 => m F2 H2 fps2 a1 a2 (Ow.tmp (b := [(pp, .dK [])]) a3)
  | ok a =>
  obtain ⟨xs, env1⟩ := a
  intro m F2 H2 fps2 vs fo a1 a2 a3 a4 a5
  simp only [R.bind_ok] at m
  cases es1 : s_dlit xs with
  | none => simp only [es1] at m; exact m.elim
  | some y =>
  simp only [es1] at m
  simp only [s_dlit, Option.bind_eq_some_iff] at es1
  obtain ⟨kvs, e1, e2⟩ := es1
  split at e2
  case isFalse => cases e2
  rename_i hc
  simp only [Bool.and_eq_true, decide_eq_true_eq] at hc
  cases e2
  obtain ⟨kws, f, rest, q1, q2, q3, q4⟩ := pairs_rep a4 e1
  have hl : kws.length ≤ 15 := by
    have := congrArg List.length q2
    simp at this
    omega
  refine ⟨a3.hold (pp, .dK []) (by simp), kws, q1, hl, ?_⟩
  rw [merge_nd kws [] (by simpa [← q2] using hc.2), List.nil_append]
  have t1 : Ow F2 H2 ((pp, HO.dK []) :: (fps2.flatten ++ (f ++ (rest ++ ext)))) := a3.perm (by
    have z1 : (fps2.flatten ++ (fo ++ (pp, HO.dK []) :: ext)).Perm ((pp, HO.dK []) :: (fps2.flatten ++ (fo ++ ext))) := by
      rw [← List.append_assoc, ← List.append_assoc]; exact List.perm_middle
    refine z1.trans (List.Perm.cons _ (List.Perm.append_left _ ?_))
    refine (q4.append_right ext).trans ?_
    rw [List.append_assoc])
  have t2 := t1.set (o' := HO.dK kws)
  have t3 : Ow F2 (upd H2 pp (.dK kws)) (fps2.flatten ++ (((pp, HO.dK kws) :: f) ++ ext)) := by
    have z : Ow F2 (upd H2 pp (.dK kws)) (((pp, HO.dK kws) :: (fps2.flatten ++ f)) ++ (rest ++ ext)) := by simpa [List.append_assoc] using t2
    refine (z.tmp).perm ?_
    simp only [List.cons_append, List.append_assoc]
    exact List.perm_middle.symm
  exact m F2 _ fps2 (.ref pp) ((pp, HO.dK kws) :: f) a1 a2 t3 (.dKO q2 q3) nofun fun z => nomatch z
end
end Mn

set_option Elab.async false
set_option maxRecDepth 100000
set_option linter.all false
/-! Mn18c: operations with their proofs, changes in place, or by truth. -/
namespace Mn
open PySem L2
section
variable {G : Nms} {T : Tbl} {cA : Nat → Addr} {pr : List Nat} {k : Nat} {K : PySem.W.Frag} {W : WX} {σ : St} {H : Hp} {Q : VK}
theorem tE_pop {o : POp} {p q r : Pos} {e : ME} {es : List ME} (h : tE K T cA W (.pop o p q r e es) σ H Q) : tE K T cA W e σ H fun x H1 => RcV K o.rc x H1 ∧ tL K T cA W es σ H1 fun xs H2 => PpS K o.sem (x :: xs) H2 Q := by
  obtain ⟨F, env, fps, ext, s, o', m⟩ := h
  refine ⟨F, env, fps, ext, s, o', ?_⟩
  simp only [evE] at m
  revert m
  cases evE T e env with
  | stuck => exact id
  | exc c e => exact id
  | ok a =>
    obtain ⟨x, u, env1⟩ := a
    intro m F2 H2 fps2 v fp a1 a2 a3 a4 a5 a6
    simp only [R.bind_ok] at m
    by_cases hr : o.rc x = true
    · rw [if_pos hr] at m
      have hh : Hold H2 fp := by
        cases u with
        | false => exact a5 rfl
        | true => exact a3.hold.app.2.app.1
      refine ⟨⟨F2, x, fp, a4, a3.same, hh, hr⟩, F2, env1, fps2, _, a2, a3, ?_⟩
      revert m
      cases evL T es env1 with
      | stuck => exact id
      | exc c e => exact fun m F3 H3 fps3 b1 b2 b3 => m F3 H3 fps3 (Same.trans a1 b1) b2 (b3.sub (List.Sublist.append (List.Sublist.refl _) (List.sublist_append_right _ _)))
      | ok q =>
        obtain ⟨xs, env2⟩ := q
        intro m F3 H3 fps3 vs fo b1 b2 b3 b4 b5
        simp only [R.bind_ok] at m
        by_cases hc : (u || x.noOwn || pureL es) = true
        · rw [if_pos hc] at m
          refine ⟨F3, (x, u) :: xs, fo ++ (if u = true then fp else []), fps3.flatten, ext, .cons (a4.mono b1) (fun hu => ?_) b4, by simpa [List.append_assoc] using b3, ?_⟩
          · simp only [Bool.or_eq_true] at hc
            rcases hc with (hc | hc) | hc
            · rw [hu] at hc; cases hc
            · rw [a4.noOwn hc]; exact Hold.nil
            · exact (a5 hu).mono (b5 hc)
          · revert m
            cases o.sem ((x, u) :: xs) with
            | none => exact id
            | some yu =>
              obtain ⟨y, u'⟩ := yu
              intro m F4 H4 w fp4 c1 c2 c3 c4 c5
              refine m F4 H4 fps3 w fp4 (Same.trans a1 (Same.trans b1 c1)) (b2.mono c1) c3 c4 c5 fun hp => ?_
              simp only [ME.pure, Bool.and_eq_true] at hp
              exact Same.trans (a6 hp.1) (Same.trans (b5 hp.2) c2)
        · rw [if_neg hc] at m; exact m.elim
    · rw [if_neg hr] at m; exact m.elim
theorem monoE {K : PySem.W.Frag} {W : WX} {m : ME} : MonoE (tE K T cA W m) := fun _ _ _ _ k h => tE_mono h k
theorem pctx {X : Cx} {sc : Scope} {names : List Str} (ok : XOk G T cA k X W) (le : ScLe sc X.env.scope) (h : (names.all fun x => wfB G sc x) = true) : PCtx X names :=
  ⟨ok.calm, ok.u65, fun x hx => by rw [List.all_eq_true] at h; exact wfB_out ok le (h x hx)⟩
theorem se_pop {o : POp} {p q r : Pos} {e : ME} {es : List ME} (g : SE G T cA pr k e) (gs : ∀ e ∈ es, SE G T cA pr k e) : SE G T cA pr k (.pop o p q r e es) := fun X W sc ok le h => by
  simp only [wfE, Bool.and_eq_true, beq_iff_eq, decide_eq_true_eq, Bool.or_eq_true, Bool.not_eq_true'] at h
  obtain ⟨⟨⟨⟨⟨h1, h2⟩, h3⟩, h4⟩, h5⟩, h6⟩ := h
  have cx := pctx ok le h3
  have hl : o.line = true → (q.endLine == p.line) = true := fun z => h4.elim (fun w => by rw [z] at w; cases w) fun w => by simpa [sameLine] using w
  have ha := g X W sc ok le h5
  have pa := plain_er e h5
  match es, h1, h6, gs with
  | [], h1, h6, gs => exact PE.weak (o.snd0 h1.symm X p q r _ _ cx hl pa monoE ha) fun σ H Q h => tE_mono (tE_pop h) fun x H1 ⟨z1, z2⟩ => ⟨z1, tL_nil z2⟩
  | [b], h1, h6, gs =>
    simp only [wfEL, Bool.and_eq_true] at h6
    exact PE.weak (o.snd1 h1.symm X p q r _ _ _ _ cx hl pa (plain_er b h6.1) monoE monoE ha (gs b (by simp) X W sc ok le h6.1)) fun σ H Q h => tE_mono (tE_pop h) fun x H1 ⟨z1, z2⟩ => ⟨z1, tL_one z2⟩
  | [b, c], h1, h6, gs =>
    simp only [wfEL, Bool.and_eq_true] at h6
    exact PE.weak (o.snd2 h1.symm X p q r _ _ _ _ _ _ cx hl pa (plain_er b h6.1) (plain_er c h6.2.1) monoE monoE monoE ha (gs b (by simp) X W sc ok le h6.1) (gs c (by simp) X W sc ok le h6.2.1)) fun σ H Q h => tE_mono (tE_pop h) fun x H1 ⟨z1, z2⟩ => ⟨z1, tL_two z2⟩
  | _ :: _ :: _ :: _, h1, h6, gs => exfalso; simp at h1; omega
theorem own_get {F : Hp} {env : Env} {fps : List FP} {ext : FP} {i : Nat} {x : Val} (s : Sl K F env σ fps) (o : Ow F H (fps.flatten ++ ext)) (e : env[i]? = some (some x)) :
    ∃ (v : V) (fp : FP) (fps' : List FP), σ[i]? = some (some v) ∧ Rep K F x v fp ∧ Ow F H (fp ++ (fps'.flatten ++ ext)) ∧ ∀ F2 y fp2, Same F F2 → Rep K F2 y v fp2 → ∃ fps2 : List FP, Sl K F2 (env.set i (some y)) σ fps2 ∧ fps2.flatten.Perm (fp2 ++ fps'.flatten) := by
  obtain ⟨v, fp, fps', h1, h2, h3, h4, h5⟩ := s.get e
  refine ⟨v, fp, fps', h1, h2, o.perm ?_, h5⟩
  refine (h3.append (List.Perm.refl ext)).trans ?_
  rw [List.append_assoc]
theorem tE_mut {o : MPop} {i : Nat} {x : Str} {px q p : Pos} {es : List ME} (h : tE K T cA W (.mut o i x px es q p) σ H Q) : ∃ v, σ[i]? = some (some v) ∧ RcV K o.rc v H ∧ tL K T cA W es σ H fun vs H1 => MuS K o.sem v vs H1 Q := by
  obtain ⟨F, env, fps, ext, s, o', m⟩ := h
  simp only [evE] at m
  split at m
  case isFalse => exact m.elim
  rename_i hr
  cases e0 : env[i]? with
  | none => rw [e0] at hr; cases hr
  | some ox =>
  cases ox with
  | none => rw [e0] at hr; cases hr
  | some z0 =>
  rw [e0] at hr
  obtain ⟨v, fp, fps', h1, h2, h3, -⟩ := own_get s o' e0
  refine ⟨v, h1, ⟨F, z0, fp, h2, o'.same, h3.hold.app.1, by simpa using hr⟩, F, env, fps, ext, s, o', ?_⟩
  revert m
  cases evL T es env with
  | stuck => exact id
  | exc c e => exact id
  | ok a =>
    obtain ⟨ys, env1⟩ := a
    intro m F2 H2 fps2 vs fo a1 a2 a3 a4 a5
    simp only [R.bind_ok] at m
    cases e1 : env1[i]? with
    | none => simp only [e1] at m; exact m.elim
    | some oz =>
    cases oz with
    | none => simp only [e1] at m; exact m.elim
    | some z =>
    simp only [e1] at m
    obtain ⟨vz, fz, fz', k1, k2, k3, k4⟩ := own_get a2 a3 e1
    obtain rfl := Option.some.inj (Option.some.inj (k1.symm.trans h1))
    refine ⟨F2, z, fz, ys, fo, fz'.flatten, ext, k2, a4, k3, ?_⟩
    revert m
    cases o.sem z ys with
    | none => exact id
    | some r =>
      obtain ⟨z', y, u⟩ := r
      intro m F3 H3 w fz2 fpy b1 b2 b3 b4 b5
      obtain ⟨fps3, c1, c2⟩ := k4 F3 z' fz2 b1 b2
      refine m F3 H3 fps3 w fpy (Same.trans a1 b1) c1 (b4.perm ?_) b3 b5 (fun z => by simp [ME.pure] at z)
      rw [← List.append_assoc]
      exact c2.symm.append_right _
theorem se_mut {o : MPop} {i : Nat} {x : Str} {px q p : Pos} {es : List ME} (gs : ∀ e ∈ es, SE G T cA pr k e) : SE G T cA pr k (.mut o i x px es q p) := fun X W sc ok le h => by
  simp only [wfE, Bool.and_eq_true, beq_iff_eq, decide_eq_true_eq] at h
  obtain ⟨⟨⟨⟨h1, h2⟩, h3⟩, h4⟩, h6⟩ := h
  have cx : PCtx X [] := ⟨ok.calm, ok.u65, fun x hx => nomatch hx⟩
  have hl : (q.endLine == p.line) = true := by simpa [sameLine] using h3
  have ha := pe_slot (i := i) (p := px) le h4
  match es, h1, h6, gs with
  | [], h1, h6, gs => exact PE.weak (o.snd0 h1.symm X i p q _ cx hl .name ha) fun σ H Q h => (tE_mut h).imp fun v ⟨z0, z1, z2⟩ => ⟨z0, z1, tL_nil z2⟩
  | [b], h1, h6, gs =>
    simp only [wfEL, Bool.and_eq_true] at h6
    exact PE.weak (o.snd1 h1.symm X i p q _ _ _ cx hl .name (plain_er b h6.1) monoE ha (gs b (by simp) X W sc ok le h6.1)) fun σ H Q h => (tE_mut h).imp fun v ⟨z0, z1, z2⟩ => ⟨z0, z1, tL_one z2⟩
  | [b, c], h1, h6, gs =>
    simp only [wfEL, Bool.and_eq_true] at h6
    exact PE.weak (o.snd2 h1.symm X i p q _ _ _ _ _ cx hl .name (plain_er b h6.1) (plain_er c h6.2.1) monoE monoE ha (gs b (by simp) X W sc ok le h6.1) (gs c (by simp) X W sc ok le h6.2.1)) fun σ H Q h => (tE_mut h).imp fun v ⟨z0, z1, z2⟩ => ⟨z0, z1, tL_two z2⟩
  | _ :: _ :: _ :: _, h1, h6, gs => exfalso; simp at h1; omega
theorem se_orV {a b : ME} {p : Pos} (ga : SE G T cA pr k a) (gb : SE G T cA pr k b) : SE G T cA pr k (.orV a b p) := fun X W sc ok le h => by
  simp only [wfE, Bool.and_eq_true] at h
  refine PE.weak (pe_orT (ga X W sc ok le h.1) (PE.weak (pe_one (gb X W sc ok le h.2)) fun σ H Q h => h)) ?_
  rintro σ H Q ⟨F, env, fps, ext, s, o, m⟩
  simp only [evE] at m
  refine ⟨F, env, fps, ext, s, o, ?_⟩
  revert m
  cases evE T a env with
  | stuck => exact id
  | exc c e => exact id
  | ok q =>
    obtain ⟨x, u, env1⟩ := q
    intro m F2 H2 fps2 v fp a1 a2 a3 a4 a5 a6
    simp only [R.bind_ok] at m
    have hh : Hold H2 fp := by
      cases u with
      | false => exact a5 rfl
      | true => exact a3.hold.app.2.app.1
    cases e : x.truth with
    | none => simp only [e] at m; exact m.elim
    | some c =>
      simp only [e] at m
      refine ⟨c, truth_rep a4 a3.same hh e, ?_⟩
      cases c with
      | true =>
        rw [if_pos rfl]
        exact m F2 H2 fps2 v fp a1 a2 a3 a4 a5 fun hp => by
          simp only [ME.pure, Bool.and_eq_true] at hp
          exact a6 hp.1
      | false =>
        rw [if_neg (by decide)]
        refine ⟨F2, env1, fps2, ext, a2, a3.tmp, ?_⟩
        revert m
        cases evE T b env1 with
        | stuck => exact id
        | exc c e => exact fun m F3 H3 fps3 b1 b2 b3 => m F3 H3 fps3 (Same.trans a1 b1) b2 b3
        | ok q2 =>
          obtain ⟨y, u2, env2⟩ := q2
          exact fun m F3 H3 fps3 v2 fp2 b1 b2 b3 b4 b5 b6 => m F3 H3 fps3 v2 fp2 (Same.trans a1 b1) b2 b3 b4 b5 fun hp => by
            simp only [ME.pure, Bool.and_eq_true] at hp
            exact Same.trans (a6 hp.1) (b6 hp.2)
end
end Mn

set_option Elab.async false
set_option maxRecDepth 100000
set_option linter.all false
/-! Mn19: all expressions, all tests. -/
namespace Mn
open PySem L2
section
variable {G : Nms} {T : Tbl} {cA : Nat → Addr} {pr : List Nat} {k : Nat}
theorem slc_plainT (op : Op) (a : Expr) (r : List Expr) (q p : Pos) : PlainT (slcEr op a r q p) := by
  unfold slcEr
  split <;> first | (unfold slE; split <;> constructor) | constructor | (split <;> first | (unfold slE; split <;> constructor) | constructor)
mutual
theorem seA : ∀ m : ME, SE G T cA pr k m
  | .const .. => se_const
  | .var .. => se_var
  | .mv .. => se_mv
  | .fz .. => se_fz
  | .glob .. => se_glob
  | .lend .. => se_stuck fun _ _ => rfl
  | .prim _ _ _ _ _ es => se_prim (seLs es)
  | .meth _ _ _ e es => se_meth (seA e) (seLs es)
  | .slc _ _ _ e es => se_slc (seA e) (seLs es)
  | .ixv _ _ _ e _ => se_ixv (seA e)
  | .andE e es _ => se_and (seA e) (seLs es)
  | .orE e es _ => se_or (seA e) (seLs es)
  | .notE e _ => se_not (seA e)
  | .tru .. => se_stuck fun _ _ => rfl
  | .tBor .. => se_stuck fun _ _ => rfl
  | .tAnd .. => se_stuck fun _ _ => rfl
  | .tOr .. => se_stuck fun _ _ => rfl
  | .tNot .. => se_stuck fun _ _ => rfl
  | .ife c a b _ => se_ife (stA c) (seA a) (seA b)
  | .chain _ _ a b c _ => se_chain (seA a) (seA b) (seA c)
  | .call _ _ _ _ es => se_call (seLs es)
  | .borC _ _ _ _ es => se_borC (se_call (seLs es))
  | .lc elt _ _ its _ _ ifs _ _ _ => se_lc (seLs its) (stLs ifs) (seA elt)
  | .fr e => se_fr (seA e)
  | .dlit es _ => se_dlit (seLs es)
  | .pop _ _ _ _ e es => se_pop (seA e) (seLs es)
  | .mut _ _ _ _ es _ _ => se_mut (seLs es)
  | .orV a b _ => se_orV (seA a) (seA b)
theorem seLs : ∀ es : List ME, ∀ e ∈ es, SE G T cA pr k e
  | [], _, h => nomatch h
  | a :: r, e, h => (List.mem_cons.mp h).elim (fun z => z ▸ seA a) fun z => seLs r e z
theorem stA : ∀ m : ME, STt G T cA pr k m
  | .tru (.const ..) => st_plain se_const .const
  | .tru (.var ..) => st_plain se_var .name
  | .tru (.mv ..) => st_plain se_mv .name
  | .tru (.fz ..) => st_plain se_fz .name
  | .tru (.glob ..) => st_plain se_glob .name
  | .tru (.lend ..) => st_plain (se_stuck fun _ _ => rfl) .name
  | .tru (.prim _ _ _ _ _ es) => st_prim (seLs es)
  | .tru (.meth _ _ _ e es) => st_plain (se_meth (seA e) (seLs es)) .call
  | .tru (.slc _ _ _ e es) => st_plain (se_slc (seA e) (seLs es)) (slc_plainT _ _ _ _ _)
  | .tru (.ixv _ _ _ e _) => st_plain (se_ixv (seA e)) .sub
  | .tru (.chain _ _ a b c _) => st_chain (seA a) (seA b) (seA c)
  | .tru (.call _ _ _ _ es) => st_plain (se_call (seLs es)) .call
  | .tru (.borC _ _ _ _ es) => st_plain (se_borC (se_call (seLs es))) .call
  | .tru (.lc elt _ _ its _ _ ifs _ _ _) => st_plain (se_lc (seLs its) (stLs ifs) (seA elt)) .lc
  | .tru (.andE ..) => fun X W sc ok le h => by simp [wfE, truOk] at h
  | .tru (.orE ..) => fun X W sc ok le h => by simp [wfE, truOk] at h
  | .tru (.notE ..) => fun X W sc ok le h => by simp [wfE, truOk] at h
  | .tru (.tBor ..) => fun X W sc ok le h => by simp [wfE, truOk] at h
  | .tru (.tru ..) => fun X W sc ok le h => by simp [wfE, truOk] at h
  | .tru (.tAnd ..) => fun X W sc ok le h => by simp [wfE, truOk] at h
  | .tru (.tOr ..) => fun X W sc ok le h => by simp [wfE, truOk] at h
  | .tru (.tNot ..) => fun X W sc ok le h => by simp [wfE, truOk] at h
  | .tru (.ife ..) => fun X W sc ok le h => by simp [wfE, truOk] at h
  | .tru (.fr ..) => fun X W sc ok le h => by simp [wfE, truOk] at h
  | .tru (.dlit ..) => fun X W sc ok le h => by simp [wfE, truOk] at h
  | .tru (.pop o _ _ _ e es) => st_plain (se_pop (seA e) (seLs es)) (o.plainT _ _ _ _ _)
  | .tru (.mut _ _ _ _ es _ _) => st_plain (se_mut (seLs es)) .call
  | .tru (.orV ..) => fun X W sc ok le h => by simp [wfE, truOk] at h
  | .tAnd e es _ => fun X W sc ok le h => (st_and (stA e) (stLs es) X W sc ok le h).pt
  | .tOr e es _ => fun X W sc ok le h => (st_or (stA e) (stLs es) X W sc ok le h).pt
  | .tNot e _ => st_not (stA e)
  | .tBor c => st_tBor (stA c)
  | .const .. => st_stuck fun _ _ => rfl
  | .var .. => st_stuck fun _ _ => rfl
  | .mv .. => st_stuck fun _ _ => rfl
  | .fz .. => st_stuck fun _ _ => rfl
  | .glob .. => st_stuck fun _ _ => rfl
  | .lend .. => st_stuck fun _ _ => rfl
  | .prim .. => st_stuck fun _ _ => rfl
  | .meth .. => st_stuck fun _ _ => rfl
  | .slc .. => st_stuck fun _ _ => rfl
  | .ixv .. => st_stuck fun _ _ => rfl
  | .andE .. => st_stuck fun _ _ => rfl
  | .orE .. => st_stuck fun _ _ => rfl
  | .notE .. => st_stuck fun _ _ => rfl
  | .ife .. => st_stuck fun _ _ => rfl
  | .chain .. => st_stuck fun _ _ => rfl
  | .call .. => st_stuck fun _ _ => rfl
  | .borC .. => st_stuck fun _ _ => rfl
  | .lc .. => st_stuck fun _ _ => rfl
  | .fr .. => st_stuck fun _ _ => rfl
  | .dlit .. => st_stuck fun _ _ => rfl
  | .pop .. => st_stuck fun _ _ => rfl
  | .mut .. => st_stuck fun _ _ => rfl
  | .orV .. => st_stuck fun _ _ => rfl
theorem stLs : ∀ es : List ME, ∀ e ∈ es, STt G T cA pr k e
  | [], _, h => nomatch h
  | a :: r, e, h => (List.mem_cons.mp h).elim (fun z => z ▸ stA a) fun z => stLs r e z
end
end
end Mn

set_option Elab.async false
set_option maxRecDepth 100000
set_option linter.all false
/-! Mn20: statements. -/
namespace Mn
open PySem L2
section
variable {G : Nms} {T : Tbl} {cA : Nat → Addr} {pr : List Nat} {k : Nat} {σ0 : St}
structure SOk (G : Nms) (T : Tbl) (cA : Nat → Addr) (k : Nat) (sc : Scope) (X : Cx) (W : WX) : Prop where
  ok : XOk G T cA k X W
  scp : X.env.scope = sc
  fnn : ∀ x, X.fn x = true
theorem SOk.le {sc : Scope} {X : Cx} {W : WX} (s : SOk G T cA k sc X W) : ScLe sc X.env.scope := s.scp ▸ ScLe.refl _
def PoS (K : PySem.W.Frag) (cA : Nat → Addr) (W : WX) (pr : List Nat) (σ0 : St) (F : Hp) (ext : FP) (D : Ends) : R (Option Val × Env) → Prop
  | .ok (none, env2) => ∀ F2 H2 σ2 fps2, Same F F2 → Sl K F2 env2 σ2 fps2 → Ow F2 H2 (fps2.flatten ++ ext) → Kept pr σ0 σ2 → D.nx σ2 H2
  | .ok (some y, env2) => ∀ F2 H2 σ2 fps2 v fp, Same F F2 → Sl K F2 env2 σ2 fps2 → Ow F2 H2 (fps2.flatten ++ (fp ++ ext)) → Kept pr σ0 σ2 → Rep K F2 y v fp → D.rt v H2
  | .exc c env2 => ∀ F2 H2 σ2 fps2, Same F F2 → Sl K F2 env2 σ2 fps2 → Ow F2 H2 (fps2.flatten ++ ext) → Kept pr σ0 σ2 → W (.ref (cA c)) none σ2 H2
  | .stuck => False
def tS (K : PySem.W.Frag) (T : Tbl) (cA : Nat → Addr) (W : WX) (pr : List Nat) (σ0 : St) (run : Env → R (Option Val × Env)) : TS := fun D σ H => ∃ F env fps ext, Sl K F env σ fps ∧ Ow F H (fps.flatten ++ ext) ∧ Kept pr σ0 σ ∧ PoS K cA W pr σ0 F ext D (run env)
theorem PoS.later {K : PySem.W.Frag} {W : WX} {F F2 : Hp} {ext : FP} {D : Ends} {r : R (Option Val × Env)} (m : PoS K cA W pr σ0 F ext D r) (a : Same F F2) : PoS K cA W pr σ0 F2 ext D r := by
  revert m
  cases r with
  | stuck => exact id
  | exc c e => exact fun m F3 H3 σ3 fps3 b1 => m F3 H3 σ3 fps3 (Same.trans a b1)
  | ok q =>
    obtain ⟨ov, e⟩ := q
    cases ov with
    | none => exact fun m F3 H3 σ3 fps3 b1 => m F3 H3 σ3 fps3 (Same.trans a b1)
    | some y => exact fun m F3 H3 σ3 fps3 v fp b1 => m F3 H3 σ3 fps3 v fp (Same.trans a b1)
/-- one statement, then the others -/
theorem PoS.seq {K : PySem.W.Frag} {W : WX} {F H : Hp} {σ : St} {ext : FP} {D D' : Ends} {r : R (Option Val × Env)} {f : Env → R (Option Val × Env)} (hr : D'.rt = D.rt)
    (hn : ∀ env2 F2 H2 σ2 fps2, PoS K cA W pr σ0 F2 ext D (f env2) → Sl K F2 env2 σ2 fps2 → Ow F2 H2 (fps2.flatten ++ ext) → Kept pr σ0 σ2 → D'.nx σ2 H2)
    (m : PoS K cA W pr σ0 F ext D (match r with | .ok (none, env1) => f env1 | r => r)) : PoS K cA W pr σ0 F ext D' r := by
  revert m
  cases r with
  | stuck => exact id
  | exc c e => exact id
  | ok q =>
    obtain ⟨ov, e⟩ := q
    cases ov with
    | none => exact fun m F2 H2 σ2 fps2 a1 a2 a3 a4 => hn e F2 H2 σ2 fps2 (PoS.later m a1) a2 a3 a4
    | some y => exact fun m F2 H2 σ2 fps2 v fp a1 a2 a3 a4 a5 => by rw [hr]; exact m F2 H2 σ2 fps2 v fp a1 a2 a3 a4 a5
/-- an expression within a statement -/
theorem tE_stmt {K : PySem.W.Frag} {W : WX} {σ : St} {H : Hp} {F : Hp} {env : Env} {fps : List FP} {ext : FP} {e : ME} {D : Ends} {f : Val × Bool × Env → R (Option Val × Env)} {kk : V → Hp → Prop}
    (s : Sl K F env σ fps) (o : Ow F H (fps.flatten ++ ext)) (hk : Kept pr σ0 σ) (m : PoS K cA W pr σ0 F ext D ((evE T e env).bind f))
    (h : ∀ x u env1 F2 H2 fps2 v fp, PoS K cA W pr σ0 F2 ext D (f (x, u, env1)) → Same F F2 → Sl K F2 env1 σ fps2 → Ow F2 H2 (fps2.flatten ++ ((if u then fp else []) ++ ext)) → Rep K F2 x v fp → (u = false → Hold H2 fp) → kk v H2) :
    tE K T cA W e σ H kk := by
  refine ⟨F, env, fps, ext, s, o, ?_⟩
  revert m
  cases evE T e env with
  | stuck => exact id
  | exc c e => exact fun m F2 H2 fps2 a1 a2 a3 => m F2 H2 σ fps2 a1 a2 a3 hk
  | ok a =>
    obtain ⟨x, u, env1⟩ := a
    exact fun m F2 H2 fps2 v fp a1 a2 a3 a4 a5 a6 => h x u env1 F2 H2 fps2 v fp (PoS.later m a1) a1 a2 a3 a4 a5
theorem tT_stmt {K : PySem.W.Frag} {W : WX} {σ : St} {H : Hp} {F : Hp} {env : Env} {fps : List FP} {ext : FP} {e : ME} {D : Ends} {f : Bool × Env → R (Option Val × Env)} {kk : Bool → Hp → Prop}
    (s : Sl K F env σ fps) (o : Ow F H (fps.flatten ++ ext)) (hk : Kept pr σ0 σ) (m : PoS K cA W pr σ0 F ext D ((evT T e env).bind f))
    (h : ∀ b env1 F2 H2 fps2, PoS K cA W pr σ0 F2 ext D (f (b, env1)) → Same F F2 → Sl K F2 env1 σ fps2 → Ow F2 H2 (fps2.flatten ++ ext) → kk b H2) : tT K T cA W e σ H kk := by
  refine ⟨F, env, fps, ext, s, o, ?_⟩
  revert m
  cases evT T e env with
  | stuck => exact id
  | exc c e => exact fun m F2 H2 fps2 a1 a2 a3 => m F2 H2 σ fps2 a1 a2 a3 hk
  | ok a =>
    obtain ⟨b, env1⟩ := a
    exact fun m F2 H2 fps2 a1 a2 a3 a6 => h b env1 F2 H2 fps2 (PoS.later m a1) a1 a2 a3
end
end Mn

set_option Elab.async false
set_option maxRecDepth 100000
set_option linter.all false
/-! Mn21: statements, one by one. -/
namespace Mn
open PySem L2
theorem sw_false {e : Expr} (h : Plain e) (hn : ∀ a b c d, e ≠ .ListComp a b c d) (t : Option Expr) (line : Nat) (env : PySem.Env) : swapsWith e t line env = pure false := by
  cases h <;> first | rfl | exact absurd rfl (hn _ _ _ _)
theorem sw_sub {e a b : Expr} {q : Pos} (h : Plain e) (line : Nat) (env : PySem.Env) : swapsWith e (some (.Subscript a b q)) line env = pure false := by
  cases h <;> rfl
theorem op_notLc (op : Op) (k : Nat) (p q r : Pos) (es : List Expr) : (∀ a b c d, op.er k p q r es ≠ .ListComp a b c d) ∧ (op ≠ .tup → ∀ a b c, op.er k p q r es ≠ .Tuple a b c) := by
  unfold Op.er
  split <;> first | (unfold famEr; split <;> exact ⟨nofun, fun _ => nofun⟩) | (refine ⟨nofun, fun h => ?_⟩ <;> first | exact absurd rfl h | (intro a b c e; cases e; done))
theorem slc_notLc (op : Op) (a : Expr) (r : List Expr) (q p : Pos) : (∀ x b c d, slcEr op a r q p ≠ .ListComp x b c d) ∧ (∀ x b c, slcEr op a r q p ≠ .Tuple x b c) := by
  have H : ∀ lo hi, (∀ x b c d, slE lo hi a r q p ≠ .ListComp x b c d) ∧ (∀ x b c, slE lo hi a r q p ≠ .Tuple x b c) := by
    intro lo hi
    unfold slE
    split <;> exact ⟨nofun, nofun⟩
  unfold slcEr
  split
  · exact H _ _
  · exact H _ _
  · exact H _ _
  · split
    · exact H _ _
    · exact ⟨nofun, nofun⟩
  · exact ⟨nofun, nofun⟩
theorem er_notLc : ∀ {m : ME}, isLc m = false → ∀ a b c d, er m ≠ .ListComp a b c d
  | .const .., _ => nofun | .var .., _ => nofun | .mv .., _ => nofun | .fz .., _ => nofun | .glob .., _ => nofun | .lend .., _ => nofun
  | .prim .., _ => (op_notLc _ _ _ _ _ _).1
  | .meth .., _ => nofun
  | .slc .., _ => (slc_notLc _ _ _ _ _).1
  | .ixv .., _ => nofun | .andE .., _ => nofun | .orE .., _ => nofun | .notE .., _ => nofun
  | .tru .., h => by simp [isLc] at h
  | .tBor .., h => by simp [isLc] at h
  | .tAnd .., _ => nofun | .tOr .., _ => nofun | .tNot .., _ => nofun | .ife .., _ => nofun | .chain .., _ => nofun | .call .., _ => nofun | .borC .., _ => nofun
  | .lc .., h => by simp [isLc] at h
  | .fr e, h => er_notLc (m := e) (by simpa [isLc] using h)
  | .dlit .., _ => nofun
  | .pop o .., _ => (o.noLc _ _ _ _ _).1
  | .mut .., _ => nofun
  | .orV .., _ => nofun
def isTupE : ME → Bool
  | .prim .tup .. => true | .tru _ => true | .tBor _ => true | .fr _ => true
  | _ => false
theorem er_notTup : ∀ {m : ME}, isTupE m = false → ∀ a b c, er m ≠ .Tuple a b c
  | .const .., _ => nofun | .var .., _ => nofun | .mv .., _ => nofun | .fz .., _ => nofun | .glob .., _ => nofun | .lend .., _ => nofun
  | .prim op .., h => (op_notLc _ _ _ _ _ _).2 (by rintro rfl; simp [isTupE] at h)
  | .meth .., _ => nofun
  | .slc .., _ => (slc_notLc _ _ _ _ _).2
  | .ixv .., _ => nofun | .andE .., _ => nofun | .orE .., _ => nofun | .notE .., _ => nofun
  | .tru .., h => by simp [isTupE] at h
  | .tBor .., h => by simp [isTupE] at h
  | .tAnd .., _ => nofun | .tOr .., _ => nofun | .tNot .., _ => nofun | .ife .., _ => nofun | .chain .., _ => nofun | .call .., _ => nofun | .borC .., _ => nofun
  | .lc .., _ => nofun
  | .fr .., h => by simp [isTupE] at h
  | .dlit .., _ => nofun
  | .pop o .., _ => (o.noLc _ _ _ _ _).2
  | .mut .., _ => nofun
  | .orV .., _ => nofun
theorem sst_none {t : Tgt} {v : Expr} (h : t.isTp = false ∨ ∀ a b c, v ≠ .Tuple a b c) (env : PySem.Env) : swappedStores [t.er] v env = pure none := by
  cases t with
  | nm i x p => cases v <;> rfl
  | tp ts k p =>
    rcases h with h | h
    · simp [Tgt.isTp] at h
    · cases v <;> first | rfl | exact absurd rfl (h _ _ _)
section
variable {G : Nms} {T : Tbl} {cA : Nat → Addr} {pr : List Nat} {k : Nat} {σ0 : St} {X : Cx} {W : WX} {sc : Scope}
theorem ss_expr {e : ME} {p : Pos} (s : SOk G T cA k sc X W) (h : wfS G X.N pr sc (.expr e p) = true) : PS X (erS (.expr e p)) (tS X.K T cA W pr σ0 (exS T (.expr e p))) := by
  simp only [wfS, Bool.and_eq_true, Bool.not_eq_true'] at h
  refine PS.weak (ps_expr (seA e X W sc s.ok s.le h.1) (sw_false (plain_er e h.1) (er_notLc h.2) _ _ _)) ?_
  rintro D σ H ⟨F, env, fps, ext, sl, o, hk, m⟩
  simp only [exS] at m
  exact tE_stmt sl o hk m fun x u env1 F2 H2 fps2 v fp m a1 a2 a3 a4 a5 => m F2 H2 σ fps2 (Same.refl _) a2 a3.tmp hk
/-- the store of a value -/
theorem asg_read {t : Tgt} {e : ME} {fr : Bool} {D : Ends} {σ : St} {H : Hp} (ht : t.wf1 X.N sc pr = true) (q : ∃ F env fps ext, Sl X.K F env σ fps ∧ Ow F H (fps.flatten ++ ext) ∧ Kept pr σ0 σ ∧ PoS X.K cA W pr σ0 F ext D ((evE T e env).bind fun (x, u, env1) => if storable x u then (match t.bind (fz? fr x) env1 with
      | some env2 => .ok (none, env2)
      | none => .stuck) else .stuck)) : tE X.K T cA W e σ H fun x H1 => gT X.K t x σ H1 D.nx := by
  obtain ⟨F, env, fps, ext, sl, o, hk, m⟩ := q
  refine tE_stmt sl o hk m fun x u env1 F2 H2 fps2 v fp m a1 a2 a3 a4 a5 => ?_
  dsimp only at m
  split at m
  · rename_i hs
    cases e1 : t.bind (fz? fr x) env1 with
    | none => simp only [e1] at m; exact m.elim
    | some env2 =>
      simp only [e1] at m
      obtain ⟨F3, fp2, b1, b2, b3⟩ := keep_val (fr := fr) a3 a4 hs
      refine tgt_bind (N := X.N) (sc := sc) (pr := pr) (σ0 := σ0) t (.inr ht) e1 b2 b3.same (a2.mono b1) hk fun σ' fps' c1 c2 ⟨g, hg⟩ _ => ?_
      have t1 : Ow F3 H2 (fps'.flatten ++ (g ++ ext)) := b3.perm (by
        have : (fps2.flatten ++ (fp2 ++ ext)).Perm ((fp2 ++ fps2.flatten) ++ ext) := by
          rw [List.append_assoc]; exact List.perm_append_comm_assoc _ _ _
        refine this.trans ((hg.append_right ext).trans ?_)
        rw [List.append_assoc])
      exact m F3 H2 σ' fps' b1 c1 t1.tmp c2
  · exact m.elim
theorem ss_asg {t : Tgt} {e : ME} {fr : Bool} {p : Pos} (s : SOk G T cA k sc X W) (h : wfS G X.N pr sc (.asg t e fr p) = true) : PS X (erS (.asg t e fr p)) (tS X.K T cA W pr σ0 (exS T (.asg t e fr p))) := by
  simp only [wfS, Bool.and_eq_true] at h
  obtain ⟨⟨ht, he⟩, hx⟩ := h
  have hg := pg_tgt1 s.ok.calm s.ok.nd s.le s.scp s.fnn t ht
  have hpe := seA e X W sc s.ok s.le he
  have hss : swappedStores [t.er] (er e) X.env = pure none := by
    refine sst_none ?_ _
    by_cases hT : isTupE e = true
    · left
      cases e <;> simp [isTupE] at hT
      · rename_i op _ _ _ _ _
        cases op <;> simp [isTupE] at hT
        simpa using hx
      · simp at hx
      · simpa using hx
      · simp at hx
    · right; exact er_notTup (by simpa using hT)
  by_cases hl : isLc e = false
  · exact PS.weak (ps_asg hpe hg (sw_false (plain_er e he) (er_notLc hl) _ _ _) hss (by cases t <;> rfl)) fun D σ H q => asg_read ht q
  · cases e <;> simp [isLc] at hl
    · simp at hx
    · rename_i elt tg ik its q r ifs cs own pp
      have z := lc_ok (seLs its) (stLs ifs) (seA elt) s.ok s.le he
      have swv : ∀ (x : Str) (px : Pos), swapsWith (er (.lc elt tg ik its q r ifs cs own pp)) (some (.Name x px)) p.line X.env = pure (X.env.blockKind == .function && X.env.kindOf x == some .local && px.line == pp.line && !(cs.names.any fun (n, k) => n == x && (k == .local || k == .cell))) := fun x px => rfl
      cases t with
      | tp ts kk tp => exact PS.weak (ps_asg hpe hg rfl hss) fun D σ H q => asg_read ht q
      | nm i x px =>
        by_cases hc : (X.env.blockKind == .function && X.env.kindOf x == some .local && px.line == pp.line && !(cs.names.any fun (n, k) => n == x && (k == .local || k == .cell))) = true
        · have hloc : X.env.scope.names.lookup x = some .local := by
            simp only [Bool.and_eq_true, beq_iff_eq] at hc
            exact hc.1.1.2
          have hi : X.N[i]? = some x := by
            simp only [Tgt.wf1, Bool.and_eq_true, beq_iff_eq] at ht
            exact ht.1.1
          refine PS.weak (ps_setLc s.ok.calm s.ok.nd hi hloc ((swv x px).trans (by rw [hc])) z.pi z.bo z.pg z.pt z.pe z.fo) fun D σ H q => ?_
          exact lc_read he σ H _ (asg_read (t := .nm i x px) ht q)
        · exact PS.weak (ps_asg hpe hg ((swv x px).trans (by rw [Bool.not_eq_true] at hc; rw [hc])) hss) fun D σ H q => asg_read ht q
    · simp only [wfE, Bool.and_eq_true, Bool.not_eq_true'] at he
      rw [hl] at he
      exact absurd he.1 (by simp)
    · simp at hx
theorem ss_ret {e : ME} {p : Pos} (s : SOk G T cA k sc X W) (h : wfS G X.N pr sc (.ret e p) = true) : PS X (erS (.ret e p)) (tS X.K T cA W pr σ0 (exS T (.ret e p))) := by
  refine PS.weak (ps_ret (seA e X W sc s.ok s.le (by simpa [wfS] using h))) ?_
  rintro D σ H ⟨F, env, fps, ext, sl, o, hk, m⟩
  simp only [exS] at m
  refine tE_stmt sl o hk m fun x u env1 F2 H2 fps2 v fp m a1 a2 a3 a4 a5 => ?_
  dsimp only at m
  split at m
  · rename_i hs
    obtain ⟨F3, fp2, b1, b2, b3⟩ := keep_val (fr := false) a3 a4 hs
    exact m F3 H2 σ fps2 v fp2 b1 (a2.mono b1) b3 hk b2
  · exact m.elim
theorem ss_retN {p : Pos} : PS X (erS (.retN p)) (tS X.K T cA W pr σ0 (exS T (.retN p))) := by
  refine PS.weak ps_retN ?_
  rintro D σ H ⟨F, env, fps, ext, sl, o, hk, m⟩
  simp only [exS] at m
  exact m F H σ fps .non [] (Same.refl _) sl o hk .non
theorem ss_pass {p : Pos} : PS X (erS (.pass p)) (tS X.K T cA W pr σ0 (exS T (.pass p))) := by
  refine PS.weak ps_pass ?_
  rintro D σ H ⟨F, env, fps, ext, sl, o, hk, m⟩
  simp only [exS] at m
  exact m F H σ fps (Same.refl _) sl o hk
theorem ss_raise {c : Nat} {x msg : Str} {kk : Nat} {p q r s' : Pos} (s : SOk G T cA k sc X W) (h : wfS G X.N pr sc (.raise c x msg kk p q r s') = true) : PS X (erS (.raise c x msg kk p q r s')) (tS X.K T cA W pr σ0 (exS T (.raise c x msg kk p q r s'))) := by
  simp only [wfS, okName, Bool.and_eq_true, beq_iff_eq, Bool.not_eq_true'] at h
  obtain ⟨⟨h1, h2⟩, ⟨h3, h4⟩, h5⟩ := h
  obtain ⟨bmB, B, newId, initId, e1, e2, e3, e4, e5, e6⟩ := s.ok.ec c x h1
  refine PS.weak (ps_raise s.ok.calm s.ok.tk (pmk_own e1 e2 e3 e4 (raises_own e5 e6) (s.le.glo h2) (by simpa using h3))) ?_
  rintro D σ H ⟨F, env, fps, ext, sl, o, hk, m⟩
  simp only [exS] at m
  exact m F H σ fps (Same.refl _) sl o hk
theorem ss_aug {i : Nat} {x : Str} {px : Pos} {e : ME} {p : Pos} (s : SOk G T cA k sc X W) (h : wfS G X.N pr sc (.aug i x px e p) = true) : PS X (erS (.aug i x px e p)) (tS X.K T cA W pr σ0 (exS T (.aug i x px e p))) := by
  simp only [wfS, locB, Bool.and_eq_true, beq_iff_eq, Bool.not_eq_true'] at h
  obtain ⟨⟨⟨⟨h1, h2⟩, h3⟩, h4⟩, h5⟩ := h
  have hloc : Loc X.env.scope x := by
    rw [s.scp]
    split at h2
    · exact .inl (by assumption)
    · exact .inr (by assumption)
    · cases h2
  refine PS.weak (ps_aug s.ok.nd h1 hloc (seA e X W sc s.ok s.le h4) ip_add (.inl (s.fnn x))) ?_
  rintro D σ H ⟨F, env, fps, ext, sl, o, hk, m⟩
  simp only [exS] at m
  split at m
  · rename_i y ey
    obtain ⟨v, fp, fps', q1, q2, -⟩ := sl.get ey
    refine ⟨v, q1, tE_stmt sl o hk m fun z u env1 F2 H2 fps2 w fp2 m a1 a2 a3 a4 a5 => ?_⟩
    dsimp only at m
    cases ha : augV y z with
    | none => simp only [ha] at m; exact m.elim
    | some w0 =>
    simp only [ha] at m
    obtain ⟨a, b, rfl, rfl, rfl⟩ : ∃ a b : Int, y = .int a ∧ z = .int b ∧ w0 = .int (a + b) := by
      unfold augV at ha
      split at ha
      · cases ha; exact ⟨_, _, rfl, rfl, rfl⟩
      · cases ha
    obtain ⟨rfl, rfl⟩ := q2.int_inv
    obtain ⟨rfl, _⟩ := a4.int_inv
    refine ⟨_, _, rfl, rfl, ?_⟩
    have hi : i < env1.length := by rw [a2.length]; exact (List.getElem?_eq_some_iff.mp q1).1
    obtain ⟨f3, c1, g, c2, c3⟩ := a2.put (y := Val.int ((a : Int) + (b : Int))) (v := V.int ((a : Int) + (b : Int))) (fp := []) hi Rep.int
    obtain ⟨d, hd⟩ := c2.exists_perm_append
    have t1 : Ow F2 H2 (f3.flatten ++ (d ++ ext)) := a3.tmp.perm (by
      refine (hd.append_right ext).trans ?_
      rw [List.append_assoc]
      exact ((by simpa using c3.symm : g.Perm f3.flatten).append_right _))
    exact m F2 H2 _ f3 (Same.refl _) c1 t1.tmp (hk.set h3)
  · exact m.elim
end
end Mn

set_option Elab.async false
set_option maxRecDepth 100000
set_option linter.all false
/-! Mn22: stores into lists and dicts, methods that change, if, for, while; all statements. -/
namespace Mn
open PySem L2
section
variable {G : Nms} {T : Tbl} {cA : Nat → Addr} {pr : List Nat} {k : Nat} {σ0 : St} {X : Cx} {W : WX} {sc : Scope}
/-- the own object of a slot -/
theorem Sl.own {K : PySem.W.Frag} {F H : Hp} {env : Env} {σ : St} {fps : List FP} {ext : FP} {i : Nat} {z : Val} (s : Sl K F env σ fps) (o : Ow F H (fps.flatten ++ ext)) (e : env[i]? = some (some z)) :
    ∃ (v : V) (fp : FP) (fps' : List FP), σ[i]? = some (some v) ∧ Rep K F z v fp ∧ Ow F H (fp ++ (fps'.flatten ++ ext)) ∧
      ∀ F' H' y fp' ext', Same F F' → Rep K F' y v fp' → Ow F' H' (fp' ++ (fps'.flatten ++ ext')) → ∃ fps2, Sl K F' (env.set i (some y)) σ fps2 ∧ Ow F' H' (fps2.flatten ++ ext') := by
  obtain ⟨v, fp, fps', h1, h2, h3, h4, h5⟩ := s.get e
  refine ⟨v, fp, fps', h1, h2, o.perm (by
    refine (h3.append_right ext).trans ?_
    rw [List.append_assoc]), fun F' H' y fp' ext' hs hr ho => ?_⟩
  obtain ⟨fps2, q1, q2⟩ := h5 F' y fp' hs hr
  exact ⟨fps2, q1, ho.perm (by
    rw [← List.append_assoc]
    exact q2.symm.append_right ext')⟩
theorem ixN_lt {n : Nat} {i : Int} {j : Nat} (h : ixN n i = some j) : j < n := by
  unfold ixN at h
  split at h
  · split at h
    · cases h; omega
    · cases h
  · split at h
    · cases h; omega
    · cases h
/-- a list's item exchanged: what stood there is forgotten -/
theorem Reps.set {K : PySem.W.Frag} {F : Hp} : ∀ {xs : List Val} {vs : List V} {f : FP} {j : Nat} {y : Val} {w : V} {fy : FP}, Reps K F xs vs f → j < xs.length → Rep K F y w fy → ∃ f' g, Reps K F (xs.set j y) (vs.set j w) f' ∧ (fy ++ f).Perm (f' ++ g)
  | _, _, _, _, _, _, _, .nil, h, _ => by simp at h
  | _, _, _, 0, y, w, fy, .cons (fp := fp) (fps := fps) a b, _, r => ⟨fy ++ fps, fp, .cons r b, by
      rw [List.append_assoc]
      exact List.Perm.append_left fy List.perm_append_comm⟩
  | _, _, _, j + 1, y, w, fy, .cons (fp := fp) (fps := fps) a b, h, r => by
    obtain ⟨f', g, h1, h2⟩ := Reps.set (j := j) b (by simpa using h) r
    refine ⟨fp ++ f', g, .cons a h1, ?_⟩
    rw [List.append_assoc]
    exact (List.perm_append_comm_assoc _ _ _).trans (h2.append_left fp)
theorem there_of {e : Option (Option Val)} (h : (e.getD none).isSome = true) : ∃ x, e = some (some x) := by
  cases e with
  | none => simp at h
  | some o => cases o with
    | none => simp at h
    | some x => exact ⟨x, rfl⟩
theorem PoS.tmp {K : PySem.W.Frag} {F : Hp} {ext g : FP} {D : Ends} {r : R (Option Val × Env)} (m : PoS K cA W pr σ0 F ext D r) : PoS K cA W pr σ0 F (g ++ ext) D r := by
  revert m
  cases r with
  | stuck => exact id
  | exc c e => exact fun m F3 H3 σ3 fps3 b1 b2 b3 => m F3 H3 σ3 fps3 b1 b2 b3.tmp
  | ok q =>
    obtain ⟨ov, e⟩ := q
    cases ov with
    | none => exact fun m F3 H3 σ3 fps3 b1 b2 b3 => m F3 H3 σ3 fps3 b1 b2 b3.tmp
    | some y => exact fun m F3 H3 σ3 fps3 v fp b1 b2 b3 => m F3 H3 σ3 fps3 v fp b1 b2 (by
        have : Ow F3 H3 ((fps3.flatten ++ fp) ++ (g ++ ext)) := by simpa [List.append_assoc] using b3
        simpa [List.append_assoc] using this.tmp)
/-- an expression within a statement, with something held meanwhile -/
theorem tE_stmtX {K : PySem.W.Frag} {σ : St} {H : Hp} {F : Hp} {env : Env} {fps : List FP} {g ext : FP} {e : ME} {D : Ends} {f : Val × Bool × Env → R (Option Val × Env)} {kk : V → Hp → Prop}
    (s : Sl K F env σ fps) (o : Ow F H (fps.flatten ++ (g ++ ext))) (hk : Kept pr σ0 σ) (m : PoS K cA W pr σ0 F ext D ((evE T e env).bind f))
    (h : ∀ x u env1 F2 H2 fps2 v fp, PoS K cA W pr σ0 F2 ext D (f (x, u, env1)) → Same F F2 → Sl K F2 env1 σ fps2 → Ow F2 H2 (fps2.flatten ++ ((if u then fp else []) ++ (g ++ ext))) → Rep K F2 x v fp → (u = false → Hold H2 fp) → kk v H2) :
    tE K T cA W e σ H kk := by
  refine ⟨F, env, fps, g ++ ext, s, o, ?_⟩
  revert m
  cases evE T e env with
  | stuck => exact id
  | exc c e => exact fun m F2 H2 fps2 a1 a2 a3 => m F2 H2 σ fps2 a1 a2 a3.tmp hk
  | ok a =>
    obtain ⟨x, u, env1⟩ := a
    exact fun m F2 H2 fps2 v fp a1 a2 a3 a4 a5 a6 => h x u env1 F2 H2 fps2 v fp (PoS.later m a1) a1 a2 a3 a4 a5
theorem stLv_inv {z kv y z' : Val} (e : stLv z kv y = some z') : ∃ (xs : List Val) (ii : Int) (j : Nat), z = .lst true xs ∧ kv = .int ii ∧ ixN xs.length ii = some j ∧ z' = .lst true (xs.set j y) := by
  cases z <;> try (simp [stLv] at e; done)
  rename_i o xs
  cases o <;> try (simp [stLv] at e; done)
  cases kv <;> try (simp [stLv] at e; done)
  rename_i ii
  simp only [stLv, Option.map_eq_some_iff] at e
  obtain ⟨j, ej, rfl⟩ := e
  exact ⟨xs, ii, j, rfl, rfl, ej, rfl⟩
theorem ss_stL {i : Nat} {x : Str} {px : Pos} {kx e : ME} {fr : Bool} {q p : Pos} (s : SOk G T cA k sc X W) (h : wfS G X.N pr sc (.stL i x px kx e fr q p) = true) : PS X (erS (.stL i x px kx e fr q p)) (tS X.K T cA W pr σ0 (exS T (.stL i x px kx e fr q p))) := by
  simp only [wfS, Bool.and_eq_true, Bool.not_eq_true'] at h
  obtain ⟨⟨h1, h2⟩, h3⟩ := h
  have hpl := plain_er kx h2
  refine PS.weak (ps_asg (seA e X W sc s.ok s.le h3) (pg_sub (pe_slot s.le h1) (seA kx X W sc s.ok s.le h2) set_list (by
      revert hpl
      generalize er kx = ek
      intro hpl
      cases hpl <;> intros <;> rfl)) (show swapsWithSole [.Subscript (.Name x px) (er kx) q] (er e) p.line X.env = pure false from sw_sub (a := .Name x px) (b := er kx) (q := q) (plain_er e h3) p.line X.env) rfl rfl) ?_
  rintro D σ H ⟨F, env, fps, ext, sl, o, hk, m⟩
  simp only [exS] at m
  refine tE_stmt sl o hk m fun y u env1 F2 H2 fps2 v fp m a1 a2 a3 a4 a5 => ?_
  dsimp only at m
  split at m
  case isFalse => exact m.elim
  rename_i hi
  obtain ⟨vi, hvi⟩ := a2.there hi
  refine ⟨vi, hvi, tE_stmtX a2 a3 hk m fun kv u2 env2 F3 H3 fps3 w fp2 m b1 b2 b3 b4 b5 => ?_⟩
  dsimp only at m
  split at m
  case isFalse => exact m.elim
  rename_i hs
  cases ez : env2[i]? with
  | none => simp only [ez] at m; exact m.elim
  | some oz =>
  cases oz with
  | none => simp only [ez] at m; exact m.elim
  | some z =>
  simp only [ez] at m
  cases est : stLv z kv (fz? fr y) with
  | none => simp only [est] at m; exact m.elim
  | some z' =>
  simp only [est] at m
  obtain ⟨xs, ii, j, rfl, rfl, ej, rfl⟩ := stLv_inv est
  obtain ⟨rfl, _⟩ := b4.int_inv
  have b3' : Ow F3 H3 (fps3.flatten ++ ((if u = true then fp else []) ++ ext)) := b3.tmp
  obtain ⟨F4, fy, c1, c2, c3⟩ := keep_val (fr := fr) b3' (a4.mono b1) hs
  obtain ⟨vz, fpz, fps', d1, d2, d3, d4⟩ := (b2.mono c1).own c3 ez
  obtain rfl := Option.some.inj (Option.some.inj (d1.symm.trans hvi))
  cases d2 with
  | lstO rr =>
    rename_i a vs fpl
    have hj := ixN_lt ej
    obtain ⟨f', g, e1, e2⟩ := rr.set (j := j) hj c2
    refine ⟨a, vs, ii, j, rfl, rfl, d3.hold (a, .lst vs) (by simp), by rw [← rr.length]; exact ej, ?_⟩
    have t1 : Ow F4 H3 ((a, .lst vs) :: (f' ++ (g ++ (fps'.flatten ++ ext)))) := d3.perm (by
      simp only [List.cons_append]
      refine List.Perm.cons _ ?_
      have p1 : (fpl ++ (fps'.flatten ++ (fy ++ ext))).Perm ((fy ++ fpl) ++ (fps'.flatten ++ ext)) := by
        have : (fps'.flatten ++ (fy ++ ext)).Perm (fy ++ (fps'.flatten ++ ext)) := List.perm_append_comm_assoc _ _ _
        refine (this.append_left fpl).trans ?_
        rw [List.append_assoc]
        exact List.perm_append_comm_assoc _ _ _
      refine p1.trans ((e2.append_right _).trans ?_)
      rw [List.append_assoc])
    have t2 := t1.set (o' := HO.lst (vs.set j v))
    have t3 : Ow F4 (upd H3 a (.lst (vs.set j v))) (((a, HO.lst (vs.set j v)) :: f') ++ (fps'.flatten ++ ext)) := by
      have : Ow F4 (upd H3 a (.lst (vs.set j v))) (((a, HO.lst (vs.set j v)) :: f') ++ (g ++ (fps'.flatten ++ ext))) := by simpa using t2
      exact this.tmp
    obtain ⟨fps5, g1, g2⟩ := d4 F4 _ (.lst true (xs.set j (fz? fr y))) ((a, HO.lst (vs.set j v)) :: f') ext (Same.refl _) (.lstO e1) t3
    exact m F4 _ σ fps5 c1 g1 g2 hk
end
end Mn

set_option Elab.async false
set_option maxRecDepth 100000
set_option linter.all false
/-! Mn23: dicts stored into, methods that change, if, for, while; all statements. -/
namespace Mn
open PySem L2
section
variable {G : Nms} {T : Tbl} {cA : Nat → Addr} {pr : List Nat} {k : Nat} {σ0 : St} {X : Cx} {W : WX} {sc : Scope}
theorem pk_map {K : PySem.W.Frag} {F : Hp} {κ : Type} [DecidableEq κ] {kk : κ} {y : Val} {w : V} (ry : Rep K F y w []) : ∀ {kvs : List (κ × Val)} {kws : List (κ × V)} {f : FP}, kvs.map (·.1) = kws.map (·.1) → Reps K F (kvs.map (·.2)) (kws.map (·.2)) f →
    (kvs.map fun kv => if kv.1 = kk then (kv.1, y) else kv).map (·.1) = (kws.map fun kv => if kv.1 = kk then (kv.1, w) else kv).map (·.1) ∧
    (kvs.any fun kv => decide (kv.1 = kk)) = (kws.any fun kv => decide (kv.1 = kk)) ∧
    ∃ f' g, Reps K F ((kvs.map fun kv => if kv.1 = kk then (kv.1, y) else kv).map (·.2)) ((kws.map fun kv => if kv.1 = kk then (kv.1, w) else kv).map (·.2)) f' ∧ f.Perm (f' ++ g)
  | [], [], f, _, r => ⟨rfl, rfl, f, [], r, by simp⟩
  | [], _ :: _, _, h, _ => by simp at h
  | _ :: _, [], _, h, _ => by simp at h
  | (k1, x) :: r, (k2, v) :: s, f, h, rr => by
    simp at h
    obtain ⟨rfl, h⟩ := h
    cases rr with
    | cons a b =>
      rename_i fp fps
      obtain ⟨h1, h2, f', g, h3, h4⟩ := pk_map ry h b
      by_cases e : k1 = kk
      · refine ⟨by simpa [e] using h1, by simpa [e] using h2, f', fp ++ g, ?_, ?_⟩
        · simp only [List.map_cons, if_pos e]
          exact Reps.cons (fp := []) ry h3
        · exact (h4.append_left fp).trans (List.perm_append_comm_assoc _ _ _)
      · refine ⟨by simpa [e] using h1, by simpa [e] using h2, fp ++ f', g, ?_, ?_⟩
        · simp only [List.map_cons, if_neg e]
          exact Reps.cons a h3
        · rw [List.append_assoc]; exact h4.append_left fp
theorem pk_rep {K : PySem.W.Frag} {F : Hp} {κ : Type} [DecidableEq κ] {kk : κ} {y : Val} {w : V} (ry : Rep K F y w []) {kvs : List (κ × Val)} {kws : List (κ × V)} {f : FP} (h : kvs.map (·.1) = kws.map (·.1)) (r : Reps K F (kvs.map (·.2)) (kws.map (·.2)) f) :
    (pk kvs kk y).map (·.1) = (putK kws kk w).map (·.1) ∧ ∃ f' g, Reps K F ((pk kvs kk y).map (·.2)) ((putK kws kk w).map (·.2)) f' ∧ f.Perm (f' ++ g) := by
  obtain ⟨h1, h2, f', g, h3, h4⟩ := pk_map (kk := kk) ry h r
  unfold pk putK
  rw [h2]
  split
  · exact ⟨h1, f', g, h3, h4⟩
  · refine ⟨by simp [h], f, [], ?_, by simp⟩
    have := r.app (Reps.cons (fp := []) ry (Reps.nil (K := K) (F := F)))
    simpa using this
theorem stDv_inv {z kv y z' : Val} (e : stDv z kv y = some z') : y.noOwn = true ∧ ((∃ kvs kk, z = .dK true kvs ∧ kv.key? = some kk ∧ kvs.length < sizeLine ∧ z' = .dK true (pk kvs kk y)) ∨ ∃ kvs kk, z = .dT true kvs ∧ kv.tkey? = some kk ∧ kvs.length < sizeLine ∧ z' = .dT true (pk kvs kk y)) := by
  cases z <;> try (simp [stDv] at e; done)
  · rename_i o kvs
    cases o <;> try (simp [stDv] at e; done)
    simp only [stDv, Option.bind_eq_some_iff] at e
    obtain ⟨kk, e1, e2⟩ := e
    split at e2
    · rename_i hc
      simp only [Bool.and_eq_true, decide_eq_true_eq] at hc
      cases e2
      exact ⟨hc.2, .inl ⟨kvs, kk, rfl, e1, hc.1, rfl⟩⟩
    · cases e2
  · rename_i o kvs
    cases o <;> try (simp [stDv] at e; done)
    simp only [stDv, Option.bind_eq_some_iff] at e
    obtain ⟨kk, e1, e2⟩ := e
    split at e2
    · rename_i hc
      simp only [Bool.and_eq_true, decide_eq_true_eq] at hc
      cases e2
      exact ⟨hc.2, .inr ⟨kvs, kk, rfl, e1, hc.1, rfl⟩⟩
    · cases e2
theorem ss_stD {i : Nat} {x : Str} {px : Pos} {kx e : ME} {fr : Bool} {q p : Pos} (s : SOk G T cA k sc X W) (h : wfS G X.N pr sc (.stD i x px kx e fr q p) = true) : PS X (erS (.stD i x px kx e fr q p)) (tS X.K T cA W pr σ0 (exS T (.stD i x px kx e fr q p))) := by
  simp only [wfS, Bool.and_eq_true, Bool.not_eq_true'] at h
  obtain ⟨⟨h1, h2⟩, h3⟩ := h
  refine PS.weak (ps_dput s.ok.u1 (pe_slot s.le h1) (seA kx X W sc s.ok s.le h2) (seA e X W sc s.ok s.le h3) (sw_sub (plain_er e h3) _ _)) ?_
  rintro D σ H ⟨F, env, fps, ext, sl, o, hk, m⟩
  simp only [exS] at m
  refine tE_stmt sl o hk m fun y u env1 F2 H2 fps2 v fp m a1 a2 a3 a4 a5 => ?_
  dsimp only at m
  split at m
  case isFalse => exact m.elim
  rename_i hi
  obtain ⟨vi, hvi⟩ := a2.there hi
  refine ⟨vi, hvi, tE_stmtX a2 a3 hk m fun kv u2 env2 F3 H3 fps3 w fp2 m b1 b2 b3 b4 b5 => ?_⟩
  dsimp only at m
  split at m
  case isFalse => exact m.elim
  rename_i hs
  cases ez : env2[i]? with
  | none => simp only [ez] at m; exact m.elim
  | some oz =>
  cases oz with
  | none => simp only [ez] at m; exact m.elim
  | some z =>
  simp only [ez] at m
  cases est : stDv z kv (fz? fr y) with
  | none => simp only [est] at m; exact m.elim
  | some z' =>
  simp only [est] at m
  obtain ⟨hno, hcase⟩ := stDv_inv est
  have b3' : Ow F3 H3 (fps3.flatten ++ ((if u = true then fp else []) ++ ext)) := b3.tmp
  obtain ⟨F4, fy, c1, c2, c3⟩ := keep_val (fr := fr) b3' (a4.mono b1) hs
  obtain rfl := c2.noOwn hno
  obtain ⟨vz, fpz, fps', d1, d2, d3, d4⟩ := (b2.mono c1).own c3 ez
  obtain rfl := Option.some.inj (Option.some.inj (d1.symm.trans hvi))
  rcases hcase with ⟨kvs, kk, rfl, ek, hlen, rfl⟩ | ⟨kvs, kk, rfl, ek, hlen, rfl⟩
  · obtain ⟨rfl, _⟩ := key_rep b4 ek
    cases d2 with
    | dKO kq rr =>
      rename_i a kws fpl
      obtain ⟨e0, f', g, e1, e2⟩ := pk_rep (kk := kk) c2 kq rr
      have hl : kws.length < sizeLine := by
        have := congrArg List.length kq
        simp at this
        omega
      refine ⟨a, _, rfl, .inl ⟨kws, kk, d3.hold (a, .dK kws) (by simp), rfl, hl, rfl⟩, ?_⟩
      have t1 : Ow F4 H3 ((a, .dK kws) :: (f' ++ (g ++ (fps'.flatten ++ ext)))) := d3.perm (by
        simp only [List.cons_append, List.nil_append]
        refine List.Perm.cons _ ?_
        refine (e2.append_right _).trans ?_
        rw [List.append_assoc])
      have t2 := t1.set (o' := HO.dK (putK kws kk v))
      have t3 : Ow F4 (upd H3 a (.dK (putK kws kk v))) (((a, HO.dK (putK kws kk v)) :: f') ++ (fps'.flatten ++ ext)) := by
        have : Ow F4 (upd H3 a (.dK (putK kws kk v))) (((a, HO.dK (putK kws kk v)) :: f') ++ (g ++ (fps'.flatten ++ ext))) := by simpa using t2
        exact this.tmp
      obtain ⟨fps5, g1, g2⟩ := d4 F4 _ (.dK true (pk kvs kk (fz? fr y))) ((a, HO.dK (putK kws kk v)) :: f') ext (Same.refl _) (.dKO e0 e1) t3
      exact m F4 _ σ fps5 c1 g1 g2 hk
  · obtain ⟨b, rfl, hb, _⟩ := tkey_rep b4 ek
    cases d2 with
    | dTO kq rr =>
      rename_i a kws fpl
      obtain ⟨e0, f', g, e1, e2⟩ := pk_rep (kk := kk) c2 kq rr
      have hl : kws.length < sizeLine := by
        have := congrArg List.length kq
        simp at this
        omega
      refine ⟨a, _, rfl, .inr ⟨kws, kk, b, d3.hold (a, .dT kws) (by simp), rfl, c3.same _ _ (c1 _ _ hb), hl, rfl⟩, ?_⟩
      have t1 : Ow F4 H3 ((a, .dT kws) :: (f' ++ (g ++ (fps'.flatten ++ ext)))) := d3.perm (by
        simp only [List.cons_append, List.nil_append]
        refine List.Perm.cons _ ?_
        refine (e2.append_right _).trans ?_
        rw [List.append_assoc])
      have t2 := t1.set (o' := HO.dT (putK kws kk v))
      have t3 : Ow F4 (upd H3 a (.dT (putK kws kk v))) (((a, HO.dT (putK kws kk v)) :: f') ++ (fps'.flatten ++ ext)) := by
        have : Ow F4 (upd H3 a (.dT (putK kws kk v))) (((a, HO.dT (putK kws kk v)) :: f') ++ (g ++ (fps'.flatten ++ ext))) := by simpa using t2
        exact this.tmp
      obtain ⟨fps5, g1, g2⟩ := d4 F4 _ (.dT true (pk kvs kk (fz? fr y))) ((a, HO.dT (putK kws kk v)) :: f') ext (Same.refl _) (.dTO e0 e1) t3
      exact m F4 _ σ fps5 c1 g1 g2 hk
/-! blocks, if, while -/
theorem ss_nil : PSs X (erSL []) (tS X.K T cA W pr σ0 (exL T [])) := by
  refine PSs.weak pss_nil ?_
  rintro D σ H ⟨F, env, fps, ext, sl, o, hk, m⟩
  simp only [exL] at m
  exact m F H σ fps (Same.refl _) sl o hk
theorem ss_cons {a : MS} {r : List MS} (h1 : PS X (erS a) (tS X.K T cA W pr σ0 (exS T a))) (h2 : PSs X (erSL r) (tS X.K T cA W pr σ0 (exL T r))) : PSs X (erSL (a :: r)) (tS X.K T cA W pr σ0 (exL T (a :: r))) := by
  refine PSs.weak (pss_cons h1 h2) ?_
  rintro D σ H ⟨F, env, fps, ext, sl, o, hk, m⟩
  simp only [exL] at m
  refine ⟨F, env, fps, ext, sl, o, hk, PoS.seq (H := H) (σ := σ) (D := D) (f := exL T r) rfl (fun env2 F2 H2 σ2 fps2 m a2 a3 a4 => ⟨F2, env2, fps2, ext, a2, a3, a4, m⟩) ?_⟩
  revert m
  cases exS T a env with
  | stuck => exact id
  | exc c e => exact id
  | ok q =>
    obtain ⟨ov, e⟩ := q
    cases ov <;> exact id
theorem ss_ite {c : ME} {a b : List MS} {p : Pos} (s : SOk G T cA k sc X W) (hc : wfE G X.N pr sc c = true) (h1 : PSs X (erSL a) (tS X.K T cA W pr σ0 (exL T a))) (h2 : PSs X (erSL b) (tS X.K T cA W pr σ0 (exL T b))) : PS X (erS (.ite c a b p)) (tS X.K T cA W pr σ0 (exS T (.ite c a b p))) := by
  refine PS.weak (ps_if (stA c X W sc s.ok s.le hc) h1 h2) ?_
  rintro D σ H ⟨F, env, fps, ext, sl, o, hk, m⟩
  simp only [exS] at m
  refine tT_stmt sl o hk m fun t env1 F2 H2 fps2 m a1 a2 a3 => ?_
  cases t with
  | true => exact iteT ⟨F2, env1, fps2, ext, a2, a3, hk, m⟩
  | false => exact iteF ⟨F2, env1, fps2, ext, a2, a3, hk, m⟩
theorem ss_while {c : ME} {b : List MS} {p : Pos} (s : SOk G T cA k sc X W) (hc : wfE G X.N pr sc c = true) (h1 : PSs X (erSL b) (tS X.K T cA W pr σ0 (exL T b))) : PS X (erS (.whileS c b p)) (tS X.K T cA W pr σ0 (exS T (.whileS c b p))) := by
  refine PS.weak (ps_while s.ok.po (stA c X W sc s.ok s.le hc) h1) ?_
  rintro D σ H ⟨F, env, fps, ext, sl, o, hk, m⟩
  simp only [exS] at m
  refine ⟨fun n σ H => ∃ F env fps, Sl X.K F env σ fps ∧ Ow F H (fps.flatten ++ ext) ∧ Kept pr σ0 σ ∧ PoS X.K cA W pr σ0 F ext D (whileGo (evT T c) (exL T b) n env), ⟨T.fuel, F, env, fps, sl, o, hk, m⟩, ?_⟩
  rintro n σ H ⟨F, env, fps, sl, o, hk, m⟩
  cases n with
  | zero => exact m.elim
  | succ n =>
    simp only [whileGo] at m
    refine tT_stmt (D := D) (f := fun q => match q with
      | (true, env1) => (match exL T b env1 with
        | .ok (none, env2) => whileGo (evT T c) (exL T b) n env2
        | r => r)
      | (false, env1) => .ok (none, env1)) sl o hk ?_ fun t env1 F2 H2 fps2 m a1 a2 a3 => ?_
    · revert m
      cases evT T c env with
      | stuck => exact id
      | exc c e => exact id
      | ok q => obtain ⟨t, e⟩ := q; cases t <;> exact id
    · cases t with
      | false => exact iteF (m F2 H2 σ fps2 (Same.refl _) a2 a3 hk)
      | true =>
        refine iteT ⟨fun σ H => ∃ F env fps, Sl X.K F env σ fps ∧ Ow F H (fps.flatten ++ ext) ∧ Kept pr σ0 σ ∧ PoS X.K cA W pr σ0 F ext D (whileGo (evT T c) (exL T b) n env), fun σ' H' q => ⟨n, Nat.lt_succ_self _, q⟩, F2, env1, fps2, ext, a2, a3, hk, ?_⟩
        exact PoS.seq (H := H2) (σ := σ) (D := D) (f := whileGo (evT T c) (exL T b) n) rfl (fun env2 F3 H3 σ3 fps3 m b2 b3 b4 => ⟨F3, env2, fps3, b2, b3, b4, m⟩) m
end
end Mn

set_option Elab.async false
set_option maxRecDepth 100000
set_option linter.all false
/-! Mn24: for; append, clear, reverse; all statements. -/
namespace Mn
open PySem L2
section
variable {G : Nms} {T : Tbl} {cA : Nat → Addr} {pr : List Nat} {k : Nat} {σ0 : St} {X : Cx} {W : WX} {sc : Scope}
theorem PoS.seqS {K : PySem.W.Frag} {W : WX} {F : Hp} {ext : FP} {D D' : Ends} {r : R (Option Val × Env)} {f : Env → R (Option Val × Env)} (hr : D'.rt = D.rt)
    (hn : ∀ env2 F2 H2 σ2 fps2, Same F F2 → PoS K cA W pr σ0 F2 ext D (f env2) → Sl K F2 env2 σ2 fps2 → Ow F2 H2 (fps2.flatten ++ ext) → Kept pr σ0 σ2 → D'.nx σ2 H2)
    (m : PoS K cA W pr σ0 F ext D (match r with | .ok (none, env1) => f env1 | r => r)) : PoS K cA W pr σ0 F ext D' r := by
  revert m
  cases r with
  | stuck => exact id
  | exc c e => exact id
  | ok q =>
    obtain ⟨ov, e⟩ := q
    cases ov with
    | none => exact fun m F2 H2 σ2 fps2 a1 a2 a3 a4 => hn e F2 H2 σ2 fps2 a1 (PoS.later m a1) a2 a3 a4
    | some y => exact fun m F2 H2 σ2 fps2 v fp a1 a2 a3 a4 a5 => by rw [hr]; exact m F2 H2 σ2 fps2 v fp a1 a2 a3 a4 a5
theorem tL_stmt {K : PySem.W.Frag} {W : WX} {σ : St} {H : Hp} {F : Hp} {env : Env} {fps : List FP} {ext : FP} {es : List ME} {D : Ends} {f : List (Val × Bool) × Env → R (Option Val × Env)} {kk : List V → Hp → Prop}
    (s : Sl K F env σ fps) (o : Ow F H (fps.flatten ++ ext)) (hk : Kept pr σ0 σ) (m : PoS K cA W pr σ0 F ext D ((evL T es env).bind f))
    (h : ∀ xs env1 F2 H2 fps2 vs fo, PoS K cA W pr σ0 F2 ext D (f (xs, env1)) → Same F F2 → Sl K F2 env1 σ fps2 → Ow F2 H2 (fps2.flatten ++ (fo ++ ext)) → Ags K F2 H2 xs vs fo → kk vs H2) :
    tL K T cA W es σ H kk := by
  refine ⟨F, env, fps, ext, s, o, ?_⟩
  revert m
  cases evL T es env with
  | stuck => exact id
  | exc c e => exact fun m F2 H2 fps2 a1 a2 a3 => m F2 H2 σ fps2 a1 a2 a3 hk
  | ok a =>
    obtain ⟨xs, env1⟩ := a
    exact fun m F2 H2 fps2 vs fo a1 a2 a3 a4 a6 => h xs env1 F2 H2 fps2 vs fo (PoS.later m a1) a1 a2 a3 a4
theorem ss_for {t : Tgt} {ik : IK} {its : List ME} {q r : Pos} {body : List MS} {p : Pos} (s : SOk G T cA k sc X W) (h1 : t.wf1 X.N sc pr = true) (h2 : ik.wf G sc t its.length = true) (h3 : wfEL G X.N pr sc its = true)
    (hb : PSs X (erSL body) (tS X.K T cA W pr σ0 (exL T body))) : PS X (erS (.forS t ik its q r body p)) (tS X.K T cA W pr σ0 (exS T (.forS t ik its q r body p))) := by
  refine PS.weak (ps_for s.ok.po s.ok.calm (pi_src (q := q) (r := r) s.ok s.le h2 h3 (fun e he => seA e)) (pg_tgt1 s.ok.calm s.ok.nd s.le s.scp s.fnn t h1) hb (fun x => (ik_plain h2 h3).fold x)) ?_
  rintro D σ H ⟨F, env, fps, ext, sl, o, hk, m⟩
  simp only [exS] at m
  refine tL_stmt sl o hk m fun xs env1 F2 H2 fps2 vs fo m a1 a2 a3 a4 => ?_
  dsimp only at m
  split at m
  case isFalse => exact m.elim
  rename_i hst
  cases hi : ik.items xs with
  | none => simp only [hi] at m; exact m.elim
  | some items =>
  simp only [hi] at m
  refine wk_of a4 a3 hi fun J Gp Y w hG hY => ?_
  refine for_it w (fun i σ' H' => ∃ F' env' fps', Same F2 F' ∧ Sl X.K F' env' σ' fps' ∧ Ow F' H' (fps'.flatten ++ (fo ++ ext)) ∧ Kept pr σ0 σ' ∧ PoS X.K cA W pr σ0 F' (fo ++ ext) D (forGo t.bind (exL T body) (items.drop i) env')) ?_ ?_ ?_ ?_
  · exact ⟨F2, env1, fps2, Same.refl _, a2, a3, hk, m.tmp⟩
  · rintro i σ' H' _ ⟨F', env', fps', b1, b2, b3, b4, b5⟩
    exact hG H' (b3.hold.sub fun e he => by simp [he]) (Same.trans b1 b3.same) (.inl hst)
  · rintro i x σ' H' H'' hin ⟨F', env', fps', b1, b2, b3, b4, b5⟩ y
    have hxv : items[i]? = some items[i] := List.getElem?_eq_getElem hin
    obtain ⟨F'', c1, c2, c3, c4⟩ := hY i F' H' x H'' _ y hxv b1 b3.same
    rw [List.drop_eq_getElem_cons hin] at b5
    simp only [forGo] at b5
    cases ebt : t.bind items[i] env' with
    | none => simp only [ebt] at b5; exact b5.elim
    | some env2 =>
    simp only [ebt] at b5
    refine tgt_bind (N := X.N) (sc := sc) (pr := pr) (σ0 := σ0) t (.inr h1) ebt c3 (c4 _ b3).same (b2.mono c1) b4 fun σ2 fps4 e1 e2 ⟨g, e3⟩ _ => ?_
    have o4 : Ow F'' H'' (fps4.flatten ++ (fo ++ ext)) := by
      have t1 : Ow F'' H'' (fps4.flatten ++ (g ++ (fo ++ ext))) := (c4 _ b3).perm (by
        refine ((by simpa using e3 : fps'.flatten.Perm (fps4.flatten ++ g)).append_right _).trans ?_
        rw [List.append_assoc])
      exact t1.tmp
    refine ⟨F'', env2, fps4, fo ++ ext, e1, o4, e2, PoS.seqS (D := D) (f := fun env => forGo t.bind (exL T body) (items.drop (i + 1)) env) rfl (fun env3 F3 H3 σ3 fps5 d0 m d1 d2 d3 => ⟨F3, env3, fps5, Same.trans b1 (Same.trans c1 d0), d1, d2, d3, m⟩) (PoS.later b5 c1)⟩
  · rintro σ' H' ⟨F', env', fps', b1, b2, b3, b4, b5⟩
    rw [List.drop_length] at b5
    simp only [forGo] at b5
    exact b5 F' H' σ' fps' (Same.refl _) b2 b3 b4
/-! methods that change a list -/
theorem Reps.rev {K : PySem.W.Frag} {F : Hp} : ∀ {xs : List Val} {vs : List V} {f : FP}, Reps K F xs vs f → ∃ f', Reps K F xs.reverse vs.reverse f' ∧ f.Perm f'
  | _, _, _, .nil => ⟨[], .nil, .refl _⟩
  | _, _, _, .cons (fp := fp) a b => by
    obtain ⟨f', h1, h2⟩ := Reps.rev b
    refine ⟨f' ++ (fp ++ []), ?_, ?_⟩
    · rw [List.reverse_cons, List.reverse_cons]
      exact h1.app (.cons a .nil)
    · rw [List.append_nil]
      exact (h2.append_left fp).trans List.perm_append_comm
theorem isLst_inv {o : Option (Option Val)} (h : ((o.getD none).map isLst).getD false = true) : ∃ xs, o = some (some (.lst true xs)) := by
  cases o with
  | none => simp at h
  | some a =>
    cases a with
    | none => simp at h
    | some z =>
      cases z <;> try (simp [isLst] at h; done)
      rename_i b xs
      cases b
      · simp [isLst] at h
      · exact ⟨xs, rfl⟩
theorem app_inv {fr : Bool} {z z' : Val} {ys : List (Val × Bool)} (e : MOp.append.sem fr z ys = some z') : ∃ xs y u, z = .lst true xs ∧ ys = [(y, u)] ∧ storable y u = true ∧ xs.length < sizeLine ∧ z' = .lst true (xs ++ [fz? fr y]) := by
  unfold MOp.sem at e
  split at e
  · rename_i xs y u _
    split at e
    · rename_i hc
      cases e
      simp only [Bool.and_eq_true, decide_eq_true_eq] at hc
      exact ⟨_, _, _, rfl, rfl, hc.1, hc.2, rfl⟩
    · cases e
  all_goals first | (rename_i h; cases h; done) | cases e
theorem clr_inv {fr : Bool} {z z' : Val} {ys : List (Val × Bool)} (e : MOp.clear.sem fr z ys = some z') : ∃ xs, z = .lst true xs ∧ ys = [] ∧ z' = .lst true [] := by
  unfold MOp.sem at e
  split at e
  all_goals first | (rename_i h; cases h; done) | cases e
  all_goals exact ⟨_, rfl, rfl, rfl⟩
theorem rev_inv {fr : Bool} {z z' : Val} {ys : List (Val × Bool)} (e : MOp.reverse.sem fr z ys = some z') : ∃ xs, z = .lst true xs ∧ ys = [] ∧ z' = .lst true xs.reverse := by
  unfold MOp.sem at e
  split at e
  all_goals first | (rename_i h; cases h; done) | cases e
  all_goals exact ⟨_, rfl, rfl, rfl⟩
def AppR (X : Cx) (fr : Bool) (m : MOp) (rr : V → List V → Hp → VK → Prop) : Prop := ∀ (F H : Hp) (fps ext : FP) (z : List Val) (z' : Val) (ys : List (Val × Bool)) (vs : List V) (fo : FP) (a : Addr) (ws : List V) (f : FP), m.sem fr (.lst true z) ys = some z' → Ags X.K F H ys vs fo → Ow F H (((a, HO.lst ws) :: f) ++ (fps ++ (fo ++ ext))) → Reps X.K F z ws f →
  ∃ F2 a' ws' f', z' = .lst true a' ∧ Same F F2 ∧ Reps X.K F2 a' ws' f' ∧ Ow F2 (upd H a (.lst ws')) (((a, HO.lst ws') :: f') ++ (fps ++ ext)) ∧ ∀ Q : VK, Q .non (upd H a (.lst ws')) → rr (.ref a) vs H Q
theorem ar_append {fr : Bool} : AppR X fr .append rAppend := by
  intro F H fps ext z z' ys vs fo a0 ws f e A o rs
  obtain ⟨xs, y, u, hx, rfl, hs, hlen, rfl⟩ := app_inv e
  cases hx
  obtain ⟨v, fv, rfl, ry, hh, rfl⟩ := A.one'
  have o' : Ow F H ((((a0, HO.lst ws) :: f) ++ fps) ++ ((if u = true then fv else []) ++ ext)) := by
    rw [List.append_assoc]; exact o
  obtain ⟨F4, fy, c1, c2, c3⟩ := keep_val (fr := fr) o' ry hs
  have hlen' : ws.length < sizeLine := by rw [← rs.length]; exact hlen
  refine ⟨F4, _, ws ++ [v], f ++ (fy ++ []), rfl, c1, (rs.mono c1).app (.cons c2 .nil), ?_, fun Q hq => ⟨a0, ws, v, rfl, rfl, c3.hold (a0, .lst ws) (by simp), hlen', hq⟩⟩
  have t1 : Ow F4 H ((a0, HO.lst ws) :: (f ++ (fy ++ (fps ++ ext)))) := c3.perm (by
    simp only [List.cons_append, List.append_assoc]
    exact List.Perm.cons _ (List.Perm.append_left f (List.perm_append_comm_assoc _ _ _)))
  have t2 := t1.set (o' := HO.lst (ws ++ [v]))
  simpa [List.append_assoc] using t2
theorem ar_clear {fr : Bool} : AppR X fr .clear rClear := by
  intro F H fps ext z z' ys vs fo a0 ws f e A o rs
  obtain ⟨xs, hx, rfl, rfl⟩ := clr_inv e
  cases hx
  cases A
  refine ⟨F, _, [], [], rfl, Same.refl _, .nil, ?_, fun Q hq => ⟨a0, ws, rfl, rfl, o.hold (a0, .lst ws) (by simp), hq⟩⟩
  have t2 := Ow.set (o' := HO.lst ([] : List V)) (by simpa using o : Ow F H ((a0, HO.lst ws) :: (f ++ (fps ++ ext))))
  have t3 : Ow F (upd H a0 (.lst [])) ([(a0, HO.lst [])] ++ (f ++ (fps ++ ext))) := t2
  exact t3.tmp
theorem ar_reverse {fr : Bool} : AppR X fr .reverse rReverse := by
  intro F H fps ext z z' ys vs fo a0 ws f e A o rs
  obtain ⟨xs, hx, rfl, rfl⟩ := rev_inv e
  cases hx
  cases A
  obtain ⟨f', r1, r2⟩ := rs.rev
  refine ⟨F, _, ws.reverse, f', rfl, Same.refl _, r1, ?_, fun Q hq => ⟨a0, ws, rfl, rfl, o.hold (a0, .lst ws) (by simp), hq⟩⟩
  have t1 : Ow F H ((a0, HO.lst ws) :: (f' ++ (fps ++ ext))) := o.perm (by
    simp only [List.cons_append, List.nil_append]
    exact List.Perm.cons _ (r2.append_right _))
  exact t1.set
/-- the method's receiver, then what it does -/
theorem app_read {i : Nat} {x : Str} {px : Pos} {es : List ME} {fr : Bool} {q p r : Pos} {mo : MOp} {rr : V → List V → Hp → VK → Prop} (hr : AppR X fr mo rr) :
    ∀ (D : Ends) (σ : St) (H : Hp), tS X.K T cA W pr σ0 (exS T (.app mo i x px es fr q p r)) D σ H → tBM X.K "list" rr (tVar i) (tL X.K T cA W es) σ H fun _ H1 => D.nx σ H1 := by
  rintro D σ H ⟨F, env, fps, ext, sl, o, hk, m⟩
  simp only [exS] at m
  split at m
  case isFalse => exact m.elim
  rename_i hl
  obtain ⟨xs0, e0⟩ := isLst_inv hl
  obtain ⟨v0, fp0, fps0, p1, p2, p3, -⟩ := sl.own o e0
  refine ⟨v0, p1, ?_, ?_⟩
  · cases p2 with
    | lstO rw0 =>
      rename_i a0 ws0 f0
      exact .inl ⟨rfl, ws0, .of (p3.hold (a0, .lst ws0) (by simp))⟩
  refine tL_stmt sl o hk m fun ys env1 F2 H2 fps2 vs fo m a1 a2 a3 a4 => ?_
  dsimp only at m
  cases ez : env1[i]? with
  | none => simp only [ez] at m; exact m.elim
  | some oz =>
  cases oz with
  | none => simp only [ez] at m; exact m.elim
  | some z =>
  simp only [ez] at m
  cases es' : mo.sem fr z ys with
  | none => simp only [es'] at m; exact m.elim
  | some z' =>
  simp only [es'] at m
  obtain ⟨vz, fpz, fps', d1, d2, d3, d4⟩ := a2.own a3 ez
  obtain rfl := Option.some.inj (Option.some.inj (d1.symm.trans p1))
  have hz : ∃ xs, z = .lst true xs := by
    cases mo
    · obtain ⟨xs, _, _, e, _⟩ := app_inv es'; exact ⟨xs, e⟩
    · obtain ⟨xs, e, _⟩ := clr_inv es'; exact ⟨xs, e⟩
    · obtain ⟨xs, e, _⟩ := rev_inv es'; exact ⟨xs, e⟩
  obtain ⟨xs, rfl⟩ := hz
  cases d2 with
  | lstO rs =>
    rename_i a ws f
    obtain ⟨F3, a', ws', f', rfl, g1, g2, g3, g4⟩ := hr F2 H2 fps'.flatten ext xs z' ys vs fo a ws f es' a4 d3 rs
    obtain ⟨fps5, k1, k2⟩ := d4 F3 _ (.lst true a') ((a, HO.lst ws') :: f') ext g1 (.lstO g2) g3
    exact g4 _ (m F3 _ σ fps5 g1 k1 k2 hk)
theorem ss_app {m : MOp} {i : Nat} {x : Str} {px : Pos} {es : List ME} {fr : Bool} {q p r : Pos} (s : SOk G T cA k sc X W) (h : wfS G X.N pr sc (.app m i x px es fr q p r) = true) : PS X (erS (.app m i x px es fr q p r)) (tS X.K T cA W pr σ0 (exS T (.app m i x px es fr q p r))) := by
  simp only [wfS, Bool.and_eq_true] at h
  obtain ⟨⟨⟨h1, h2⟩, h3⟩, h4⟩ := h
  have hline : (q.endLine == p.line) = true := by simpa [sameLine] using h3
  cases m with
  | append =>
    obtain ⟨a, rfl⟩ : ∃ a, es = [a] := by
      match es, h4 with
      | [a], _ => exact ⟨a, rfl⟩
    simp only [wfEL, Bool.and_eq_true] at h2
    have pa := plain_er a h2.1
    refine PS.weak (ps_expr (pe_bm PySem.F.plainAttrs_list PySem.F.slot_list_append PySem.F.type_list_append mt_append (pe_slot (i := i) (p := px) s.le h1) (pa_cons (seA a X W sc s.ok s.le h2.1) pa_nil pa.star) rfl ?_ hline pa.star rfl) rfl) ?_
    · rw [pa.star]; rfl
    · intro D σ H h
      obtain ⟨v, e, ty, L⟩ := app_read ar_append D σ H h
      exact ⟨v, e, ty, tL_one L⟩
  | clear =>
    obtain rfl : es = [] := by
      match es, h4 with
      | [], _ => rfl
    refine PS.weak (ps_expr (pe_bm0 PySem.F.plainAttrs_list PySem.F.slot_list_clear PySem.F.type_list_clear mt_clear (pe_slot (i := i) (p := px) s.le h1) rfl hline) rfl) fun D σ H h => ?_
    obtain ⟨v, e, ty, L⟩ := app_read ar_clear D σ H h
    exact ⟨v, e, ty, tL_nil L⟩
  | reverse =>
    obtain rfl : es = [] := by
      match es, h4 with
      | [], _ => rfl
    refine PS.weak (ps_expr (pe_bm0 PySem.F.plainAttrs_list PySem.F.slot_list_reverse PySem.F.type_list_reverse mt_reverse (pe_slot (i := i) (p := px) s.le h1) rfl hline) rfl) fun D σ H h => ?_
    obtain ⟨v, e, ty, L⟩ := app_read ar_reverse D σ H h
    exact ⟨v, e, ty, tL_nil L⟩
mutual
theorem ssA (σ0 : St) (s : SOk G T cA k sc X W) : ∀ m : MS, wfS G X.N pr sc m = true → PS X (erS m) (tS X.K T cA W pr σ0 (exS T m))
  | .expr e p, h => ss_expr s h
  | .asg t e fr p, h => ss_asg s h
  | .aug i x px e p, h => ss_aug s h
  | .stL i x px kx e fr q p, h => ss_stL s h
  | .stD i x px kx e fr q p, h => ss_stD s h
  | .app m i x px es fr q p r, h => ss_app s h
  | .ite c a b p, h => by
    simp only [wfS, Bool.and_eq_true] at h
    exact ss_ite s h.1.1 (ssL σ0 s a h.1.2) (ssL σ0 s b h.2)
  | .forS t ik its q r body p, h => by
    simp only [wfS, Bool.and_eq_true] at h
    exact ss_for s h.1.1.1 h.1.1.2 h.1.2 (ssL σ0 s body h.2)
  | .whileS c body p, h => by
    simp only [wfS, Bool.and_eq_true] at h
    exact ss_while s h.1 (ssL σ0 s body h.2)
  | .ret e p, h => ss_ret s h
  | .retN p, _ => ss_retN
  | .raise c x msg kk p q r s', h => ss_raise s h
  | .pass p, _ => ss_pass
theorem ssL (σ0 : St) (s : SOk G T cA k sc X W) : ∀ ms : List MS, wfSL G X.N pr sc ms = true → PSs X (erSL ms) (tS X.K T cA W pr σ0 (exL T ms))
  | [], _ => ss_nil
  | a :: r, h => by
    simp only [wfSL, Bool.and_eq_true] at h
    exact ss_cons (ssA σ0 s a h.1) (ssL σ0 s r h.2)
end
end
end Mn

set_option Elab.async false
set_option maxRecDepth 100000
set_option linter.all false
/-! Mn25: a def's body by its mini-text; its promise. -/
namespace Mn
open PySem L2
section
variable {K : PySem.W.Frag} {F : Hp}
theorem outs_of : ∀ (vs : List V) {env : Env} {σ : St} {fps : List FP} (p : Nat → Bool), Sl K F env σ fps → (∀ (i : Nat) (v : V), p i = true → vs[i]? = some v → σ[i]? = some (some v)) →
    ∃ fo rest, Outs K F ((List.range vs.length).map fun i => if p i = true then env[i]?.getD none else none) vs fo ∧ fps.flatten.Perm (fo ++ rest)
  | [], env, σ, fps, p, s, h => ⟨[], fps.flatten, .nil, by simp⟩
  | v :: vs, env, σ, fps, p, s, h => by
    rw [List.length_cons, List.range_succ_eq_map, List.map_cons, List.map_map]
    cases s with
    | snil =>
      obtain ⟨fo, rest, h1, h2⟩ := outs_of vs (env := []) (σ := []) (fps := []) (fun i => p (i + 1)) .snil fun i w hi hw => by
        have := h (i + 1) w hi (by simpa using hw)
        simp at this
      refine ⟨fo, rest, ?_, h2⟩
      have e : (if p 0 = true then ([] : Env)[0]?.getD none else none) = none := by split <;> rfl
      rw [e]
      refine .no ?_
      simpa [Function.comp_def] using h1
    | sno r =>
      obtain ⟨fo, rest, h1, h2⟩ := outs_of vs (fun i => p (i + 1)) r fun i w hi hw => by
        have := h (i + 1) w hi (by simpa using hw)
        simpa using this
      refine ⟨fo, rest, ?_, by simpa using h2⟩
      have e : ∀ env0 : Env, (if p 0 = true then ((none : Option Val) :: env0)[0]?.getD none else none) = none := fun env0 => by split <;> rfl
      rw [e]
      refine .no ?_
      simpa [Function.comp_def] using h1
    | ssome a r =>
      rename_i x w fp env0 σ0 fps0
      obtain ⟨fo, rest, h1, h2⟩ := outs_of vs (fun i => p (i + 1)) r fun i w hi hw => by
        have := h (i + 1) w hi (by simpa using hw)
        simpa using this
      by_cases hp : p 0 = true
      · have hv := h 0 v hp rfl
        simp at hv
        subst hv
        refine ⟨fp ++ fo, rest, ?_, ?_⟩
        · simp only [hp, if_true]
          refine .so a ?_
          simpa [Function.comp_def] using h1
        · rw [List.flatten_cons, List.append_assoc]
          exact h2.append_left fp
      · refine ⟨fo, fp ++ rest, ?_, ?_⟩
        · simp only [if_neg hp]
          refine .no ?_
          simpa [Function.comp_def] using h1
        · rw [List.flatten_cons]
          exact (h2.append_left fp).trans (List.perm_append_comm_assoc _ _ _)
theorem sl_start {m : Nat} : ∀ {xs : List Val} {vs : List V} {fp : FP}, Reps K F xs vs fp → ∃ fps, Sl K F (xs.map some ++ List.replicate m none) (vs.map some ++ List.replicate m none) fps ∧ fps.flatten = fp
  | _, _, _, .nil => by
    induction m with
    | zero => exact ⟨[], .snil, rfl⟩
    | succ m ih =>
      obtain ⟨fps, h1, h2⟩ := ih
      exact ⟨[] :: fps, .sno h1, by simpa using h2⟩
  | _, _, _, .cons a b => by
    obtain ⟨fps, h1, h2⟩ := sl_start (m := m) b
    exact ⟨_ :: fps, .ssome a h1, by simp [h2]⟩
end
/-- what is known of a def's text -/
structure DefOk (G : Nms) (N ps : List Str) (st : Stmt) (d : Def) : Prop where
  sc : FnScope N ps (defScope st)
  er : erSL d.body = defBody st
  wf : wfSL G N d.prot (defScope st) d.body = true
  np : d.np = ps.length
  ns : d.ns = N.length
section
variable (G : Nms) (T : Tbl) (cA : Nat → Addr) (k : Nat) (P : Program) (w : World) (K : PySem.W.Frag) (mg : Str → Option Value) (base : Heap)
/-- a def under its name -/
def FnE (x : Str) (f : List Val → FR) : Prop := ∃ fa fd ps, FnOk P w K mg base (L2.CX P w) k fa fd ps (spM K cA f) ∧ mg x = some (.ref fa) ∧ PySem.W.keepIn K (.ref fa) = true ∧ Binds K fd ps []
def GlE (x : Str) (v : Val) : Prop := ∃ u w', mg x = some u ∧ RelV w' u ∧ Rep K (fun _ => none) v w' []
def EcE (c : Nat) (x : Str) : Prop := ∃ bmB B newId initId, ExcBaseFacts B newId initId bmB ∧ PySem.W.excIn K (cA c) bmB newId = true ∧ mg x = some (.ref (cA c)) ∧ PySem.W.keepIn K (.ref (cA c)) = true ∧
    PySem.W.subIn K (.ref (cA c)) (.type "BaseException") = some true ∧ PySem.W.typeIn K (.ref (cA c)) = some (.type "type")
inductive FnL : List Str → List (List Val → FR) → Prop
  | nil {fs} : FnL [] fs
  | cons {x f xs fs} : FnE cA k P w K mg base x f → FnL xs fs → FnL (x :: xs) (f :: fs)
inductive GlL : List Str → List Val → Prop
  | nil {fs} : GlL [] fs
  | cons {x f xs fs} : GlE K mg x f → GlL xs fs → GlL (x :: xs) (f :: fs)
structure TOk : Prop where
  gl : GlL K mg G.gl T.gls
  fn : FnL cA k P w K mg base G.fn T.fns
  bl : ∀ x, x ∈ G.bl → mg x = none
  ec : ∀ (c : Nat) (x : Str), G.ec[c]? = some x → EcE cA K mg c x
end
section
variable {G : Nms} {T : Tbl} {cA : Nat → Addr} {k : Nat} {P : Program} {w : World} {K : PySem.W.Frag} {mg : Str → Option Value} {base : Heap}
theorem FnE.mono {j : Nat} {x : Str} {f : List Val → FR} (h : FnE cA j P w K mg base x f) (hj : j ≤ k) : FnE cA k P w K mg base x f := by
  obtain ⟨fa, fd, ps, h1, h2, h3, h4⟩ := h
  exact ⟨fa, fd, ps, h1.mono hj, h2, h3, h4⟩
theorem FnL.get : ∀ {xs : List Str} {fs : List (List Val → FR)}, FnL cA k P w K mg base xs fs → ∀ (j : Nat) (x : Str), xs[j]? = some x → ∃ f, fs[j]? = some f ∧ FnE cA k P w K mg base x f
  | _, _, .nil, j, x, h => by simp at h
  | _, _, .cons a r, 0, x, h => by simp at h; subst h; exact ⟨_, rfl, a⟩
  | _, _, .cons a r, j + 1, x, h => by
    obtain ⟨f, h1, h2⟩ := FnL.get r j x (by simpa using h)
    exact ⟨f, by simpa using h1, h2⟩
theorem GlL.get : ∀ {xs : List Str} {fs : List Val}, GlL K mg xs fs → ∀ (j : Nat) (x : Str) (v : Val), xs[j]? = some x → fs[j]? = some v → GlE K mg x v
  | _, _, .nil, j, x, v, h, _ => by simp at h
  | _, _, .cons a r, 0, x, v, h, h2 => by simp at h h2; subst h; subst h2; exact a
  | _, _, .cons a r, j + 1, x, v, h, h2 => GlL.get r j x v (by simpa using h) (by simpa using h2)
theorem TOk.x (t : TOk G T cA k P w K mg base) {N : List Str} {qual : Str} {sc : Scope} {f : Addr} {cd : Value} {A : Around} {outer : List PySem.Env} {s : Shared} {H : Hp} {E : XK} (nd : N.Nodup) (hr : Room k (A.deeper (PyProof.Rows.envOfC qual sc s.heap.objs.size f cd))) :
    XOk G T cA k (cxOf (L2.CX P w) P w K mg base N qual sc f cd A outer s H E) (fun cls d _ H => E cls d H) where
  room := hr
  calm := rfl
  nd := nd
  tk := takes_of rfl rfl rfl rfl
  po := passes_of rfl
  gl := fun j x v h1 h2 => t.gl.get j x v h1 h2
  fn := fun j x h => by
    obtain ⟨g, h1, fa, fd, ps, h2, h3, h4, h5⟩ := t.fn.get j x h
    exact ⟨g, fa, fd, ps, h1, h2, h3, h4, h5⟩
  bl := fun x h => t.bl x (by simpa using h)
  ec := fun c x h => t.ec c x h
/-- a def does what its mini-text says -/
theorem def_ok {x qual : Str} {st : Stmt} {f : Addr} {fd : FuncData} {N ps : List Str} {d : Def} (Fu : L2.Fun K x qual st f fd) (D : DefOk G N ps st d) (t : TOk G T cA k P w K mg base) : FnOk P w K mg base (L2.CX P w) (k + 1) f fd ps (spM K cA (d.run T)) := by
  refine Fu.okX D.sc (fun vs H Q E h => ?_) (fun cdv A outer s H vs Q E hr h => ?_)
  · obtain ⟨F, xs, fp, ext, r, o, m⟩ := h
    by_cases hl : xs.length = d.np
    · rw [← r.length, hl, D.np]
    · simp [Def.run, hl] at m
  · obtain ⟨F, xs, fp, ext, r, o, m⟩ := h
    have hl : xs.length = d.np := by
      by_cases hl : xs.length = d.np
      · exact hl
      · simp [Def.run, hl] at m
    simp only [Def.run, if_pos hl] at m
    have S : SOk G T cA k (defScope st) (cxOf (L2.CX P w) P w K mg base N qual (defScope st) f cdv A outer s H E) (fun cls d _ H => E cls d H) := ⟨t.x D.sc.nd hr, rfl, fun _ => rfl⟩
    have B := ssL (pr := d.prot) (L2.start N vs) S d.body D.wf
    rw [D.er] at B
    refine ⟨_, B, ?_⟩
    have hvl : vs.length = d.np := by rw [← r.length, hl]
    obtain ⟨fps, q1, q2⟩ := sl_start (m := d.ns - d.np) r
    have hst : L2.start N vs = vs.map some ++ List.replicate (d.ns - d.np) none := by
      unfold L2.start
      rw [D.ns, hvl]
    refine ⟨F, _, fps, ext, hst ▸ q1, by rw [q2]; exact o, fun _ _ => rfl, ?_⟩
    have fin : ∀ {F2 H2 : Hp} {env2 : Env} {σ2 : St} {fps2 : List FP} {pre : FP}, Sl K F2 env2 σ2 fps2 → Ow F2 H2 (fps2.flatten ++ (pre ++ ext)) → Kept d.prot (L2.start N vs) σ2 → ∃ fo, Outs K F2 (d.outs env2) vs fo ∧ Ow F2 H2 (pre ++ (fo ++ ext)) := by
      intro F2 H2 env2 σ2 fps2 pre b1 b2 b3
      obtain ⟨fo, rest, h1, h2⟩ := outs_of vs (fun i => decide (i ∈ d.prot)) b1 fun i v hi hv => by
        rw [b3 i (of_decide_eq_true hi), hst, List.getElem?_append_left (by
          rw [List.length_map]
          exact (List.getElem?_eq_some_iff.mp hv).1), List.getElem?_map, hv]
        rfl
      refine ⟨fo, ?_, ?_⟩
      · unfold Def.outs
        rw [← hvl]
        simpa using h1
      · have t1 : Ow F2 H2 ((pre ++ fo) ++ (rest ++ ext)) := b2.perm (by
          refine (h2.append_right _).trans ?_
          rw [List.append_assoc, List.append_assoc]
          have z : (rest ++ (pre ++ ext)).Perm (pre ++ (rest ++ ext)) := List.perm_append_comm_assoc _ _ _
          exact (z.append_left fo).trans (List.perm_append_comm_assoc _ _ _))
        have t2 := t1.tmp
        rwa [List.append_assoc] at t2
    revert m
    cases exL T d.body (xs.map some ++ List.replicate (d.ns - d.np) none) with
    | stuck => exact id
    | exc c env2 =>
      intro m F2 H2 σ2 fps2 a1 a2 a3 a4
      obtain ⟨fo, h1, h2⟩ := fin (pre := []) a2 a3 a4
      exact m F2 H2 fo a1 h1 h2
    | ok q =>
      obtain ⟨ov, env2⟩ := q
      cases ov with
      | none =>
        intro m F2 H2 σ2 fps2 a1 a2 a3 a4
        obtain ⟨fo, h1, h2⟩ := fin (pre := []) a2 a3 a4
        exact m F2 H2 .non [] fo a1 .non h1 h2
      | some y =>
        intro m F2 H2 σ2 fps2 v fp a1 a2 a3 a4 a5
        obtain ⟨fo, h1, h2⟩ := fin a2 a3 a4
        exact m F2 H2 v fp fo a1 a5 h1 h2
/-- .. under its name -/
theorem fn_mk {x qual : Str} {st : Stmt} {f : Addr} {fd : FuncData} {N ps : List Str} {d : Def} (Fu : L2.Fun K x qual st f fd) (D : DefOk G N ps st d) (t : TOk G T cA k P w K mg base) (hm : mg x = some (.ref f)) (hb : Binds K fd ps []) : FnE cA (k + 1) P w K mg base x (d.run T) :=
  ⟨f, fd, ps, def_ok Fu D t, hm, Fu.kp, hb⟩
theorem gl_str {x z : Str} {u : Value} (h : mg x = some u) (r : RelV (.str z) u) : GlE K mg x (.str z) := ⟨u, .str z, h, r, .str⟩
theorem gl_int {x : Str} {z : Int} {u : Value} (h : mg x = some u) (r : RelV (.int z) u) : GlE K mg x (.int z) := ⟨u, .int z, h, r, .int⟩
/-- the law's promise, read at a script -/
theorem law_sp {f : List Val → FR} (hf : ∀ ns : List Int, ns.length ≤ 63 → ∃ outs, f [.scr ns] = .ok (.bl true) outs) (K : PySem.W.Frag) (H : Hp) (a : Addr) (ns : List Int) (hl : ns.length ≤ 63) (hO : Only H) (hS : SqL K H a (ns.map V.int)) : spM K cA f [.ref a] H (fun v _ => v = .bl true) fun _ _ _ => False := by
  obtain ⟨outs, e⟩ := hf ns hl
  refine ⟨H, [.scr ns], [], [], .cons (fp := []) (.scr hS) .nil, ?_, ?_⟩
  · exact ⟨Same.refl _, by simp [keys], fun e he => by simp at he, fun e he => by simp at he⟩
  · rw [e]
    intro F' H' v fy fo a1 a2 a3 a4
    cases a2
    rfl
end
end Mn

set_option Elab.async false
set_option maxRecDepth 100000
set_option linter.all false
/-! Mn26: the run of Mn0, step by step. -/
namespace Mn
open PySem L2
section
variable {T : Tbl} {env : Env} {u v : Bool} {i j : Int} {o : Bool} {xs ys : List Val} {x y : Val} {a b : Str}
theorem b_add : s_add [(.int i, u), (.int j, v)] = some (.int (i + j), true) := rfl
theorem b_sub : s_sub [(.int i, u), (.int j, v)] = some (.int (i - j), true) := rfl
theorem b_mul : s_mul [(.int i, u), (.int j, v)] = if i.natAbs.log2 + j.natAbs.log2 < 1000000 then some (.int (i * j), true) else none := rfl
theorem b_fdiv : s_fdiv [(.int i, u), (.int j, v)] = if 0 < j ∧ j.natAbs.log2 < 9000 then some (.int (i / j), true) else none := rfl
theorem b_mod : s_mod [(.int i, u), (.int j, v)] = if 0 < j then some (.int (i % j), true) else none := rfl
theorem b_pow : s_pow [(.int i, u), (.int j, v)] = if 0 ≤ j ∧ j ≤ 64 ∧ i.natAbs.log2 < 1000000 then some (.int (i ^ j.toNat), true) else none := rfl
theorem b_addS : s_addS [(.str a, u), (.str b, v)] = if a.length + b.length ≤ sizeLine then some (.str (a ++ b), true) else none := rfl
theorem b_addL {o' : Bool} : s_addL [(.lst o xs, u), (.lst o' ys, v)] = if noOwnL xs && noOwnL ys && decide (xs.length + ys.length ≤ sizeLine) then some (.lst true (xs ++ ys), true) else none := rfl
theorem b_addT : s_addT [(.tup xs, u), (.tup ys, v)] = if noOwnL xs && noOwnL ys && decide (xs.length + ys.length ≤ sizeLine) then some (.tup (xs ++ ys), true) else none := rfl
theorem b_lt : s_lt [(.int i, u), (.int j, v)] = some (.bl (decide (i < j)), true) := rfl
theorem b_le : s_le [(.int i, u), (.int j, v)] = some (.bl (decide (i ≤ j)), true) := rfl
theorem b_gt : s_gt [(.int i, u), (.int j, v)] = some (.bl (decide (j < i)), true) := rfl
theorem b_ge : s_ge [(.int i, u), (.int j, v)] = some (.bl (decide (j ≤ i)), true) := rfl
theorem b_eq : s_eq [(x, u), (y, v)] = if good x.data && good y.data then some (.bl (PyData.eqv x.data y.data), true) else none := rfl
theorem b_ne : s_ne [(x, u), (y, v)] = if good x.data && good y.data then some (.bl (!PyData.eqv x.data y.data), true) else none := rfl
theorem b_eqI : s_eq [(.int i, u), (.int j, v)] = some (.bl (decide (i = j)), true) := by
  rw [b_eq]; rfl
theorem b_neI : s_ne [(.int i, u), (.int j, v)] = some (.bl (!decide (i = j)), true) := by
  rw [b_ne]; rfl
theorem good_str {z : Str} (h : PyData.strOk z = true) : good (Val.str z).data = true := by
  unfold good SeqAt.shaped
  simp [Val.data, PyData.canLay0, PyData.depth, h]
theorem b_eqS (ha : PyData.strOk a = true) (hb : PyData.strOk b = true) : s_eq [(.str a, u), (.str b, v)] = some (.bl (a == b), true) := by
  rw [b_eq, good_str ha, good_str hb]; rfl
theorem b_neS (ha : PyData.strOk a = true) (hb : PyData.strOk b = true) : s_ne [(.str a, u), (.str b, v)] = some (.bl (a != b), true) := by
  rw [b_ne, good_str ha, good_str hb]; rfl
theorem b_eqB {p q : Bool} : s_eq [(.bl p, u), (.bl q, v)] = some (.bl (p == q), true) := by
  rw [b_eq]; cases p <;> cases q <;> rfl
theorem b_neB {p q : Bool} : s_ne [(.bl p, u), (.bl q, v)] = some (.bl (p != q), true) := by
  rw [b_ne]; cases p <;> cases q <;> rfl
theorem b_isi {ty : String} : s_isi ty [(x, u)] = some (.bl (tyIs ty x), true) := rfl
theorem b_ixl : s_ix [(.lst o xs, u), (.int i, v)] = (atI xs i).map fun y => (y, false) := rfl
theorem b_ixs {ns : List Int} : s_ix [(.scr ns, u), (.int i, v)] = (atI ns i).map fun y => (.int y, true) := rfl
theorem b_ixt : s_ix [(.tup xs, u), (.int i, v)] = (atI xs i).map fun y => (y, false) := rfl
theorem b_ixz : s_ix [(.str a, u), (.int i, v)] = if a.length ≤ sizeLine then (atI a.cps.toList i).map fun c => (.str ⟨#[c]⟩, true) else none := rfl
theorem b_lenl : s_len [(.lst o xs, u)] = some (.int xs.length, true) := rfl
theorem b_lens {ns : List Int} : s_len [(.scr ns, u)] = some (.int ns.length, true) := rfl
theorem b_lent : s_len [(.tup xs, u)] = some (.int xs.length, true) := rfl
theorem b_lenz : s_len [(.str a, u)] = if a.length ≤ sizeLine then some (.int a.length, true) else none := rfl
theorem b_max : s_max2 [(.int i, u), (.int j, v)] = some (.int (if j > i then j else i), true) := rfl
theorem b_min : s_min2 [(.int i, u), (.int j, v)] = some (.int (if j < i then j else i), true) := rfl
theorem b_neg : s_neg [(.int i, u)] = some (.int (-i), true) := rfl
theorem b_lst {zs : List (Val × Bool)} : s_lst zs = if zs.all (fun x => x.2 || x.1.noOwn) && decide (zs.length ≤ sizeLine) then some (.lst true (zs.map (·.1)), true) else none := rfl
theorem b_tup {zs : List (Val × Bool)} : s_tup zs = if zs.all (fun x => x.2 || x.1.noOwn) && decide (zs.length ≤ sizeLine) then some (.tup (zs.map (·.1)), true) else none := rfl
theorem b_slS1 {lo hi : Bool} {zs : List (Val × Bool)} : s_slS lo hi ((.str a, u) :: zs) = if a.length ≤ sizeLine then (parts? lo hi (zs.map (·.1))).map fun p => (.str (cutS a p.1 p.2), true) else none := rfl
theorem b_inS : s_inS [(.str a, u), (.str b, v)] = match a.cps.toList with
    | [c] => some (.bl (decide (c ∈ b.cps.toList)), true)
    | _ => none := rfl
theorem b_notinS : s_notinS [(.str a, u), (.str b, v)] = match a.cps.toList with
    | [c] => some (.bl (!decide (c ∈ b.cps.toList)), true)
    | _ => none := rfl
theorem b_all : s_all [(.lst o xs, u)] = (allB xs).map fun bs => (.bl (bs.all id), true) := rfl
theorem b_any : s_any [(.lst o xs, u)] = (allB xs).map fun bs => (.bl (bs.any id), true) := rfl
theorem b_join : s_join [(.str a, u), (.lst o xs, v)] = (allStr xs).bind fun ys => if (ys.map (·.length)).sum + ys.length * a.length ≤ 16777216 then some (.str (Txt.join a ys), true) else none := rfl
end
/-- a comprehension by an invariant -/
theorem lcGo_inv {vs : List Nat} {bt : Val → Env → Option Env} {c : Env → R (Bool × Env)} {f : Env → R (Val × Bool × Env)} (M : Nat) (Inv : Nat → Env → Prop) (Y : Val → Prop) : ∀ {items : List Val} {i : Nat} {env : Env}, i + items.length ≤ M →
    (∀ (i : Nat) (x : Val) (env : Env), i < M → x ∈ items → Inv i env → ∃ env1 env2 y u env3, bt x (wipeE env vs) = some env1 ∧ c env1 = .ok (true, env2) ∧ f env2 = .ok (y, u, env3) ∧ storable y u = true ∧ Y y ∧ Inv (i + 1) (wipeE env3 vs)) → Inv i env →
    ∃ ys envF, lcGo vs bt c f items env = .ok (ys, envF) ∧ (∀ y ∈ ys, Y y) ∧ ys.length = items.length ∧ Inv (i + items.length) envF
  | [], i, env, _, _, h => ⟨[], env, rfl, nofun, rfl, h⟩
  | x :: r, i, env, hM, hs, h => by
    rw [List.length_cons] at hM
    obtain ⟨env1, env2, y, u, env3, e1, e2, e3, e4, hy, hi⟩ := hs i x env (by omega) (by simp) h
    obtain ⟨ys, envF, q1, q2, q3, q4⟩ := lcGo_inv M Inv Y (items := r) (i := i + 1) (env := wipeE env3 vs) (by omega) (fun j z env hj hz => hs j z env hj (by simp [hz])) hi
    refine ⟨y :: ys, envF, ?_, ?_, by simp [q3], ?_⟩
    · simp only [lcGo, e1, e2, e3, e4, q1, if_true]
    · intro z hz
      rcases List.mem_cons.mp hz with rfl | hz
      · exact hy
      · exact q2 z hz
    · have : i + (x :: r).length = i + 1 + r.length := by simp; omega
      rw [this]; exact q4
/-- one that leaves all as it is -/
theorem lcGo_map {vs : List Nat} {bt : Val → Env → Option Env} {c : Env → R (Bool × Env)} {f : Env → R (Val × Bool × Env)} {E : Env} {p : Val → Bool} {g : Val → Val} : ∀ {items : List Val},
    (∀ x ∈ items, ∃ env1 env2, bt x (wipeE E vs) = some env1 ∧ c env1 = .ok (p x, env2) ∧ (p x = true → ∃ u env3, f env2 = .ok (g x, u, env3) ∧ storable (g x) u = true ∧ wipeE env3 vs = E) ∧ (p x = false → wipeE env2 vs = E)) →
    lcGo vs bt c f items E = .ok ((items.filter p).map g, E)
  | [], _ => rfl
  | x :: r, hs => by
    obtain ⟨env1, env2, e1, e2, e3, e4⟩ := hs x (by simp)
    have ih := lcGo_map (items := r) fun z hz => hs z (by simp [hz])
    cases hp : p x with
    | true =>
      obtain ⟨u, env3, q1, q2, q3⟩ := e3 hp
      rw [hp] at e2
      simp only [lcGo, e1, e2, q1, q2, q3, ih, if_true, List.filter_cons, hp, List.map_cons]
    | false =>
      rw [hp] at e2
      simp only [lcGo, e1, e2, e4 hp, ih, List.filter_cons, hp]
      rfl
theorem forGo_inv {bt : Val → Env → Option Env} {b : Env → R (Option Val × Env)} (M : Nat) (Inv : Nat → Env → Prop) : ∀ {items : List Val} {i : Nat} {env : Env}, i + items.length ≤ M →
    (∀ (i : Nat) (x : Val) (env : Env), i < M → x ∈ items → Inv i env → ∃ env1 env2, bt x env = some env1 ∧ b env1 = .ok (none, env2) ∧ Inv (i + 1) env2) → Inv i env →
    ∃ envF, forGo bt b items env = .ok (none, envF) ∧ Inv (i + items.length) envF
  | [], i, env, _, _, h => ⟨env, rfl, h⟩
  | x :: r, i, env, hM, hs, h => by
    rw [List.length_cons] at hM
    obtain ⟨env1, env2, e1, e2, hi⟩ := hs i x env (by omega) (by simp) h
    obtain ⟨envF, q1, q2⟩ := forGo_inv M Inv (items := r) (i := i + 1) (env := env2) (by omega) (fun j z env hj hz => hs j z env hj (by simp [hz])) hi
    refine ⟨envF, by simp only [forGo, e1, e2, q1], ?_⟩
    have : i + (x :: r).length = i + 1 + r.length := by simp; omega
    rw [this]; exact q2
theorem atI_some {α : Type} {xs : List α} {i : Int} (h0 : 0 ≤ i) (h1 : i < xs.length) : ∃ (j : Nat) (h : j < xs.length), i = j ∧ atI xs i = some xs[j] := by
  obtain ⟨j, rfl⟩ := Int.eq_ofNat_of_zero_le h0
  have hj : j < xs.length := by omega
  refine ⟨j, hj, rfl, ?_⟩
  unfold atI ixN
  rw [if_pos h0, if_pos (by omega)]
  show xs[(j : Int).toNat]? = _
  rw [Int.toNat_natCast, List.getElem?_eq_getElem hj]
theorem fold_len (sep : Str) : ∀ (ys : List Str) (acc : Array Nat), (ys.foldl (fun acc p => acc ++ sep.cps ++ p.cps) acc).size = acc.size + (ys.map (·.length)).sum + ys.length * sep.length
  | [], acc => by simp
  | y :: r, acc => by
    rw [List.foldl_cons, fold_len sep r, Array.size_append, Array.size_append]
    simp only [List.map_cons, List.sum_cons, List.length_cons, Nat.add_mul]
    show acc.size + sep.length + y.length + _ + _ = _
    omega
theorem join_len (sep : Str) (ys : List Str) : (Txt.join sep ys).length ≤ (ys.map (·.length)).sum + ys.length * sep.length := by
  cases ys with
  | nil => exact Nat.zero_le _
  | cons y r =>
    show (r.foldl (fun acc p => acc ++ sep.cps ++ p.cps) y.cps).size ≤ _
    rw [fold_len]
    simp only [List.map_cons, List.sum_cons, List.length_cons, Nat.add_mul]
    show y.length + _ + _ ≤ _
    omega
theorem rangeV_len (lo : Int) (n : Nat) : (rangeV lo n).length = n := by simp [rangeV]
theorem rangeV_mem {lo : Int} {n : Nat} {x : Val} (h : x ∈ rangeV lo n) : ∃ i : Nat, i < n ∧ x = .int (lo + i) := by
  unfold rangeV at h
  obtain ⟨i, hi, e⟩ := List.mem_map.mp h
  exact ⟨i, List.mem_range.mp hi, e.symm⟩
theorem for_range1 {T : Tbl} {t : Tgt} {its : List ME} {q r p : Pos} {body : List MS} {env env1 env2 : Env} {j : Int} {u : Bool} (h1 : evL T its env = .ok ([(.int j, u)], env1)) (hs : small62 j = true)
    (q1 : forGo t.bind (exL T body) (rangeV 0 j.toNat) env1 = .ok (none, env2)) : exS T (.forS t .range1 its q r body p) env = .ok (none, env2) := by
  unfold exS
  rw [h1, R.bind_ok]
  show (if IK.stays .range1 [(.int j, u)] = true then (match (if small62 j = true then some (rangeV 0 j.toNat) else none) with
      | some items => forGo t.bind (exL T body) items env1
      | none => .stuck) else .stuck) = _
  rw [if_pos hs]
  exact q1
theorem exL_next {T : Tbl} {s : MS} {ss : List MS} {env env1 : Env} (h : exS T s env = .ok (none, env1)) : exL T (s :: ss) env = exL T ss env1 := by
  rw [exL, h]
/-! texts -/
theorem str_len_app (a b : Str) : (a ++ b).length = a.length + b.length := by
  show (a.cps ++ b.cps).size = _
  rw [Array.size_append]; rfl
theorem allStr_map {α : Type} (f : α → Str) : ∀ xs : List α, allStr (xs.map fun x => Val.str (f x)) = some (xs.map f)
  | [] => rfl
  | x :: xs => by simp [allStr, allStr_map f xs]
theorem allStr_of : ∀ {ys : List Val} {n : Nat}, (∀ y ∈ ys, ∃ z : Str, y = .str z ∧ z.length ≤ n ∧ PyData.strOk z = true) → ∃ zs : List Str, allStr ys = some zs ∧ zs.length = ys.length ∧ (zs.map (·.length)).sum ≤ ys.length * n ∧ ∀ z ∈ zs, PyData.strOk z = true
  | [], n, _ => ⟨[], rfl, rfl, by simp, nofun⟩
  | y :: ys, n, h => by
    obtain ⟨z, rfl, hz, ho⟩ := h y (by simp)
    obtain ⟨zs, e1, e2, e3, e4⟩ := allStr_of (ys := ys) (n := n) fun y hy => h y (by simp [hy])
    refine ⟨z :: zs, by simp [allStr, e1], by simp [e2], ?_, fun w hw => (List.mem_cons.mp hw).elim (fun e => e ▸ ho) (e4 w)⟩
    simp only [List.map_cons, List.sum_cons, List.length_cons]
    rw [Nat.add_mul]
    omega
theorem ok_iff {z : Str} : PyData.strOk z = true ↔ ∀ c ∈ z.cps.toList, c < 0x110000 := by
  unfold PyData.strOk
  rw [Array.all_eq_true_iff_forall_mem]
  simp
theorem ok_app {a b : Str} (ha : PyData.strOk a = true) (hb : PyData.strOk b = true) : PyData.strOk (a ++ b) = true := by
  rw [ok_iff] at *
  intro c hc
  have e : (a ++ b).cps.toList = a.cps.toList ++ b.cps.toList := by
    show (a.cps ++ b.cps).toList = _
    simp
  rw [e] at hc
  rcases List.mem_append.mp hc with h | h
  · exact ha c h
  · exact hb c h
theorem ok_cut {z : Str} {lo hi : Option Int} (h : PyData.strOk z = true) : PyData.strOk (cutS z lo hi) = true := by
  rw [ok_iff] at *
  intro c hc
  unfold cutS at hc
  exact h c (List.mem_of_mem_drop (List.mem_of_mem_take (by simpa using hc)))
theorem ok_one {z : Str} {c : Nat} (h : PyData.strOk z = true) (hc : c ∈ z.cps.toList) : PyData.strOk ⟨#[c]⟩ = true := by
  rw [ok_iff] at *
  intro d hd
  have : d = c := by simpa using hd
  subst this
  exact h d hc
theorem ok_fold {sep : Str} (hs : PyData.strOk sep = true) : ∀ {ys : List Str} {acc : Array Nat}, (∀ y ∈ ys, PyData.strOk y = true) → (∀ c ∈ acc.toList, c < 0x110000) → ∀ c ∈ (ys.foldl (fun acc p => acc ++ sep.cps ++ p.cps) acc).toList, c < 0x110000
  | [], acc, _, h => h
  | y :: r, acc, hy, h => by
    rw [List.foldl_cons]
    refine ok_fold hs (fun z hz => hy z (by simp [hz])) ?_
    intro c hc
    rw [Array.toList_append, Array.toList_append, List.mem_append, List.mem_append] at hc
    rcases hc with (hc | hc) | hc
    · exact h c hc
    · exact ok_iff.mp hs c hc
    · exact ok_iff.mp (hy y (by simp)) c hc
theorem ok_join {sep : Str} {ys : List Str} (hs : PyData.strOk sep = true) (h : ∀ y ∈ ys, PyData.strOk y = true) : PyData.strOk (Txt.join sep ys) = true := by
  rw [ok_iff]
  cases ys with
  | nil => intro c hc; exact absurd hc (by simp [Txt.join, PySem.Builtin.Str.glued, Str.empty])
  | cons y r => exact ok_fold hs (fun z hz => h z (List.mem_of_mem_drop hz)) (ok_iff.mp (h y (by simp)))
end Mn

set_option Elab.async false
set_option maxRecDepth 100000
set_option linter.all false
/-! Mo1: calls of built-ins as operations with their proofs. -/
namespace Mn
open PySem L2
section
variable {X : Cx} {K : PySem.W.Frag} {F H : Hp} {Q : VK} {x y z : V} {rc : Val → Bool} {sem : List (Val × Bool) → Option (Val × Bool)}
theorem PCtx.u1 {X : Cx} {nm : List Str} (c : PCtx X nm) : X.A.units + 1 < cLine := by have := c.u65; omega
theorem PCtx.u64 {X : Cx} {nm : List Str} (c : PCtx X nm) : X.A.units + 64 < cLine := by have := c.u65; omega
theorem Plain.back1 {a : Expr} {p : Pos} (h : Plain a) : (backTo p (starEach [a] X.env)).any (·.1) = false := by rw [h.star]; rfl
theorem call_plain {f : Str} {p q : Pos} {a : Expr} {es : List Expr} : Plain (.Call (.Name f q) (a :: es) [] p) := .call fun _ _ _ => .inl (by simp)
/-- f(a) of a built-in function or class -/
def opCall1 (f : Str) (u : Value) (hb : bootBuiltins f = some u) (hk : (∃ id, u = .builtin id) ∨ ∃ id, u = .type id) (sem : List (Val × Bool) → Option (Val × Bool)) (r : Cx → List V → Hp → VK → Prop)
    (rule : ∀ X, PCtx X [f] → CallR X u (r X)) (h : ∀ X x H Q, PpS X.K sem [x] H Q → r X [x] H Q) : POp where
  er := fun p q _ a es => .Call (.Name f q) (a :: es) [] p
  sem := sem
  rc := fun _ => true
  ar := 0
  names := [f]
  line := false
  plain := fun _ _ _ _ _ => call_plain
  plainT := fun _ _ _ _ _ => .call
  noLc := fun _ _ _ _ _ => ⟨nofun, nofun⟩
  snd0 := fun _ X p q r' a ta c _ pa ma ha => by
    obtain ⟨b1, b2, b3, b4⟩ := c.nm f (by simp)
    rcases hk with ⟨id, rfl⟩ | ⟨id, rfl⟩
    · exact PE.weak (pe_callB (rule X c) b1 b2 hb (pa_cons ha pa_nil pa.star) b3 b4 pa.star rfl) fun σ H Q z => ma _ _ _ _ (fun x H1 w => h X x H1 Q w.2) z
    · exact PE.weak (pe_callTy (rule X c) b1 b2 hb (pa_cons ha pa_nil pa.star) b3 b4 pa.star rfl) fun σ H Q z => ma _ _ _ _ (fun x H1 w => h X x H1 Q w.2) z
  snd1 := nofun
  snd2 := nofun
/-! sorted -/
theorem reps_zip : ∀ {ps : List (Val × V)}, (∀ p ∈ ps, Rep K F p.1 p.2 []) → Reps K F (ps.map (·.1)) (ps.map (·.2)) []
  | [], _ => .nil
  | p :: r, h => .cons (fp := []) (fps := []) (h p (by simp)) (reps_zip fun q hq => h q (by simp [hq]))
theorem zip_reps : ∀ {xs : List Val} {vs : List V}, Reps K F xs vs [] → (∀ p ∈ xs.zip vs, Rep K F p.1 p.2 []) ∧ (xs.zip vs).map (·.1) = xs ∧ (xs.zip vs).map (·.2) = vs := by
  intro xs vs r
  have hl := r.length
  refine ⟨fun p hp => ?_, ?_, ?_⟩
  · obtain ⟨i, hi⟩ := List.mem_iff_getElem?.mp hp
    obtain ⟨h1, h2⟩ := List.getElem?_zip_eq_some.mp hi
    obtain ⟨w, g, e, q, s⟩ := r.get h1
    rw [h2] at e; cases e
    obtain rfl := List.sublist_nil.mp s
    exact q
  · rw [List.map_fst_zip]; omega
  · rw [List.map_snd_zip]; omega
def leV (a b : Val) : Bool := PySem.W.dataLe false Val.data a b
def sortV (xs : List Val) : List Val := xs.mergeSort leV
def tupN : PyData → Bool
  | .tuple (_ :: _) => true
  | _ => false
def notTN : PyData → Bool
  | .none => false | .tuple _ => false | _ => true
def srtOk (xs : List Val) : Bool := noOwnL xs && xs.all (fun x => good x.data && decide (x.data.depth ≤ 62)) && xs.all (fun x => xs.all fun y => PySem.W.alike x.data y.data) && (xs.all (fun x => tupN x.data) || xs.all fun x => notTN x.data)
def strKeys? : List (Key × Val) → Option (List Str)
  | [] => some []
  | (.inr x, _) :: r => (strKeys? r).map (x :: ·)
  | _ => none
def s_srt : List (Val × Bool) → Option (Val × Bool)
  | [(.lst _ xs, _)] => if srtOk xs then some (.lst true (sortV xs), true) else none
  | [(.dK _ kvs, _)] => (strKeys? kvs).bind fun ks => if ks.length < 64 then some (.lst true (sortV (ks.map Val.str)), true) else none
  | _ => none
theorem sort_perm (xs : List Val) : (sortV xs).Perm xs := List.mergeSort_perm _ _
theorem leV_trans (a b c : Val) (h1 : leV a b = true) (h2 : leV b c = true) : leV a c = true := by
  unfold leV at *
  rw [PySem.W.dataLe_eq] at *
  simp only [cond_false, Bool.not_eq_true', PySem.W.dataLt] at *
  rcases hb : PyProof.Rows.lexLt PyProof.Rows.itemOrd (PySem.W.keyToks c.data) (PySem.W.keyToks a.data) with _ | _
  · rfl
  · rcases PyProof.Rows.lex_negTrans _ (PySem.W.keyToks b.data) _ hb with z | z
    · rw [z] at h2; cases h2
    · rw [z] at h1; cases h1
theorem leV_total (a b : Val) : (leV a b || leV b a) = true := by
  unfold leV
  rw [PySem.W.dataLe_eq]
  simp only [cond_false, PySem.W.dataLt]
  rcases h1 : PyProof.Rows.lexLt PyProof.Rows.itemOrd (PySem.W.keyToks b.data) (PySem.W.keyToks a.data) with _ | _
  · rfl
  · rcases h2 : PyProof.Rows.lexLt PyProof.Rows.itemOrd (PySem.W.keyToks a.data) (PySem.W.keyToks b.data) with _ | _
    · rfl
    · have := PyProof.Rows.lex_trans _ _ _ h1 h2
      rw [PyProof.Rows.lex_irrefl] at this; cases this
theorem sort_sorted (xs : List Val) : (sortV xs).Pairwise fun a b => leV a b = true := List.pairwise_mergeSort leV_trans leV_total xs
theorem leV_anti {a b : Val} (h1 : leV a b = true) (h2 : leV b a = true) : PySem.W.keyToks a.data = PySem.W.keyToks b.data := by
  unfold leV at *
  rw [PySem.W.dataLe_eq] at *
  simp only [cond_false, Bool.not_eq_true', PySem.W.dataLt] at *
  exact PyProof.Rows.lex_total _ _ h2 h1
/-- a sorted list of the same items, where the order tells items apart -/
theorem sort_uniq {xs ys : List Val} (p : ys.Perm xs) (s : ys.Pairwise fun a b => leV a b = true) (h : ∀ a ∈ xs, ∀ b ∈ xs, PySem.W.keyToks a.data = PySem.W.keyToks b.data → a = b) : ys = sortV xs :=
  List.Perm.eq_of_pairwise (le := fun a b => leV a b = true) (fun a b ha hb h1 h2 => h a (p.mem_iff.mp ha) b ((sort_perm xs).mem_iff.mp hb) (leV_anti h1 h2)) s (sort_sorted xs) (p.trans (sort_perm xs).symm)
theorem leV_str (x y : Str) : leV (.str x) (.str y) = decide (x.cps.toList ≤ y.cps.toList) := by
  have := congrFun (congrFun (PySem.W.dataLe_str (fun b : Str => b)) x) y
  exact this
theorem dt_length : ∀ xs : List Val, dataL xs = xs.map Val.data
  | [] => rfl
  | x :: r => by simp [dataL, dt_length r]
theorem strKeys_spec : ∀ {kvs : List (Key × Val)} {ks : List Str}, strKeys? kvs = some ks → kvs.map (·.1) = ks.map Sum.inr
  | [], ks, e => by simp [strKeys?] at e; subst e; rfl
  | (.inl i, _) :: r, ks, e => by simp [strKeys?] at e
  | (.inr x, _) :: r, ks, e => by
    simp only [strKeys?] at e
    cases h : strKeys? r with
    | none => rw [h] at e; cases e
    | some l => rw [h] at e; cases e; simp [strKeys_spec h]
theorem sortedS_pw : ∀ {ys : List Str}, PyProof.Rows.sortedS ys = true → ys.Pairwise fun a b => a.cps.toList ≤ b.cps.toList := by
  have go : ∀ {ys : List Str} {x : Str}, PyProof.Rows.risingS x ys = true → (∀ b ∈ ys, x.cps.toList ≤ b.cps.toList) ∧ ys.Pairwise fun a b => a.cps.toList ≤ b.cps.toList := by
    intro ys
    induction ys with
    | nil => exact fun _ => ⟨by simp, .nil⟩
    | cons y r ih =>
      intro x h
      simp only [PyProof.Rows.risingS, Bool.and_eq_true] at h
      obtain ⟨h1, h2⟩ := ih h.2
      have hxy : x.cps.toList ≤ y.cps.toList := by
        have := h.1
        rw [PyProof.Rows.ltCps_eq] at this
        simp only [Bool.not_eq_true', decide_eq_false_iff_not] at this
        exact List.not_lt.mp this
      exact ⟨fun b hb => (List.mem_cons.mp hb).elim (fun e => e ▸ hxy) fun hb => List.le_trans hxy (h1 b hb), .cons h1 h2⟩
  intro ys h
  cases ys with
  | nil => exact .nil
  | cons x r => exact .cons (go h).1 (go h).2
theorem str_inj {a b : Str} (h : PySem.W.keyToks (Val.str a).data = PySem.W.keyToks (Val.str b).data) : Val.str a = Val.str b := by
  simp only [Val.data, PySem.W.keyToks, List.cons.injEq, Sum.inr.injEq, and_true] at h
  rw [PySem.W.str_of_cps h]
theorem sort_strs {ks ys : List Str} (p : ys.Perm ks) (h : PyProof.Rows.sortedS ys = true) : ys.map Val.str = sortV (ks.map Val.str) := by
  refine sort_uniq (p.map _) ?_ fun a ha b hb e => ?_
  · rw [List.pairwise_map]
    exact (sortedS_pw h).imp fun q => by rw [leV_str]; exact decide_eq_true q
  · obtain ⟨x, _, rfl⟩ := List.mem_map.mp ha
    obtain ⟨y, _, rfl⟩ := List.mem_map.mp hb
    exact str_inj e
def rSrtD : List V → Hp → VK → Prop := fun xs H Q => ∃ (a : Addr) (kvs : List (Key × V)) (ks : List Str), xs = [.ref a] ∧ Rd H a (.dK kvs) ∧ kvs.map (·.1) = ks.map Sum.inr ∧ ks.length < 64 ∧ ∀ ys p, ys.Perm ks → PyProof.Rows.sortedS ys = true → H p = none → Q (.ref p) (upd H p (.lst (ys.map V.str)))
theorem reps_strs : ∀ ys : List Str, Reps K F (ys.map Val.str) (ys.map V.str) []
  | [] => .nil
  | _ :: r => .cons (fp := []) (fps := []) .str (reps_strs r)
theorem pp_srt (h : PpS K s_srt [x] H Q) : rSortD K [x] H Q ∨ rSrtD [x] H Q := by
  obtain ⟨F, xs, fo, base, ext, A, o, m⟩ := h
  obtain ⟨x1, u1, f1, rfl, r1, h1, rfl⟩ := A.one
  have hf1 : Hold H f1 := held1 h1 o.held
  cases x1 <;> try exact False.elim m
  · rename_i og ys
    obtain ⟨b, ws, g0, rfl, q2, p2, p3, _⟩ := r1.lst_inv (K := K) o.same hf1
    simp only [s_srt] at m
    by_cases hn : srtOk ys = true
    · rw [if_pos hn] at m
      unfold srtOk at hn
      simp only [Bool.and_eq_true, Bool.or_eq_true, List.all_eq_true, decide_eq_true_eq] at hn
      obtain ⟨⟨⟨n1, n2⟩, n3⟩, n4⟩ := hn
      obtain rfl := p2.noOwn n1
      obtain ⟨z1, z2, z3⟩ := zip_reps p2
      let f : Val × V → PyData × V := fun p => (p.1.data, p.2)
      have hmem : ∀ p ∈ ys.zip ws, p.1 ∈ ys := fun p hp => by rw [← z2]; exact List.mem_map_of_mem hp
      have e2 : ((ys.zip ws).map f).map (·.2) = ws := by rw [List.map_map]; exact z3
      have e1 : ((ys.zip ws).map f).map (·.1) = dataL ys := by
        rw [List.map_map, dt_length]
        conv => rhs; rw [← z2, List.map_map]
        rfl
      refine .inl ⟨b, (ys.zip ws).map f, rfl, by rw [e2]; exact q2, ?_, ?_, ?_, ?_, fun q hq => ?_⟩
      · intro p hp
        obtain ⟨t, ht, rfl⟩ := List.mem_map.mp hp
        exact (z1 t ht).dp o.same Hold.nil (good_lay (n2 t.1 (hmem t ht)).1)
      · rw [e1]
        intro d hd e he
        rw [dt_length] at hd he
        obtain ⟨a, ha, rfl⟩ := List.mem_map.mp hd
        obtain ⟨c, hc, rfl⟩ := List.mem_map.mp he
        exact n3 a ha c hc
      · rw [e1, dt_length]
        refine n4.imp (fun h d hd => ?_) fun h d hd => ?_
        · obtain ⟨a, ha, rfl⟩ := List.mem_map.mp hd
          have := h a ha
          revert this
          cases a.data <;> simp only [tupN, Bool.false_eq_true, false_imp_iff]
          rename_i l
          cases l with
          | nil => simp [tupN]
          | cons x r => exact fun _ => ⟨x, r, rfl⟩
        · obtain ⟨a, ha, rfl⟩ := List.mem_map.mp hd
          have := h a ha
          revert this
          cases a.data <;> simp [notTN]
      · intro p hp
        obtain ⟨t, ht, rfl⟩ := List.mem_map.mp hp
        exact (n2 t.1 (hmem t ht)).2
      · have e3 : ((ys.zip ws).map f).mergeSort leD = ((ys.zip ws).mergeSort fun p q => leV p.1 q.1).map f := (List.map_mergeSort (f := f) (s := leD) fun a _ b _ => rfl).symm
        have e4 : ((ys.zip ws).mergeSort fun p q => leV p.1 q.1).map (·.1) = sortV ys := by
          rw [List.map_mergeSort (s := leV) fun a _ b _ => rfl, z2]; rfl
        rw [e3, List.map_map]
        have rr : Reps K F (sortV ys) (((ys.zip ws).mergeSort fun p q => leV p.1 q.1).map (·.2)) [] := by
          rw [← e4]
          exact reps_zip fun p hp => z1 p ((List.mergeSort_perm _ _).mem_iff.mp hp)
        exact outL o hq rr m
    · rw [if_neg hn] at m; exact m.elim
  · rename_i og kvs
    obtain ⟨a, kws, g, rfl, h, q1, q2, q3⟩ := r1.dK_inv (K := K) o.same hf1
    simp only [s_srt] at m
    cases e : strKeys? kvs with
    | none => rw [e] at m; exact m.elim
    | some ks =>
      rw [e] at m
      simp only [Option.bind_some] at m
      by_cases hl : ks.length < 64
      · rw [if_pos hl] at m
        refine .inr ⟨a, kws, ks, rfl, .inl h, by rw [← q1]; exact strKeys_spec e, hl, fun zs p hp hs hn => ?_⟩
        refine outL (K := K) o hn (reps_strs zs) ?_
        rw [sort_strs hp hs]
        exact m
      · rw [if_neg hl] at m; exact m.elim
def opSorted : POp := opCall1 "sorted" (.builtin "sorted") (by decide +kernel) (.inl ⟨_, rfl⟩) s_srt (fun X vs H Q => rSortD X.K vs H Q ∨ rSrtD vs H Q)
  (fun X c => CallR.or (cr_sortD c.u65) (call_sortedD c.calm)) fun X x H Q h => pp_srt h
end
end Mn

set_option Elab.async false
set_option maxRecDepth 100000
set_option linter.all false
/-! Mo2: sets as they come in, texts' methods, looks into dicts. -/
namespace Mn
open PySem L2
section
variable {X : Cx} {K : PySem.W.Frag} {F H : Hp} {Q : VK} {x y z : V} {rc : Val → Bool} {sem : List (Val × Bool) → Option (Val × Bool)}
def sameKb (ks : List Key) : Bool := ks.all (fun k => match k with | .inl _ => true | .inr _ => false) || ks.all fun k => match k with | .inl _ => false | .inr _ => true
theorem sameKb_of {ks : List Key} (h : sameKb ks = true) : sameK ks := by
  unfold sameKb at h
  simp only [Bool.or_eq_true, List.all_eq_true] at h
  refine h.imp (fun h k hk => ?_) fun h k hk => ?_
  · have := h k hk
    rcases k with i | x
    · exact ⟨i, rfl⟩
    · cases this
  · have := h k hk
    rcases k with i | x
    · cases this
    · exact ⟨x, rfl⟩
def listOf? : Val → Option (List Val)
  | .lst _ xs => some xs
  | .tup xs => some xs
  | _ => none
/-- the keys of a list or tuple -/
def seqKeys? (v : Val) : Option (List Key) := (listOf? v).bind keys?
def s_sset : List (Val × Bool) → Option (Val × Bool)
  | [(v, _)] => (seqKeys? v).bind fun ks => if sameKb ks && decide (ks.length < 4000) then some (.lst true (sortV ((onceK ks).map keyV)), true) else none
  | _ => none
def s_lset : List (Val × Bool) → Option (Val × Bool)
  | [(v, _)] => (seqKeys? v).bind fun ks => if ks.length < 4000 then some (.int (onceK ks).length, true) else none
  | _ => none
theorem seqKeys_rep {x1 : Val} {f : FP} {ks : List Key} (r : Rep K F x1 x f) (s : Same F H) (h : Hold H f) (e : seqKeys? x1 = some ks) : ∃ a, x = .ref a ∧ (SqL K H a (ks.map kV) ∨ SqT K H a (ks.map kV)) := by
  unfold seqKeys? at e
  cases x1 <;> simp [listOf?] at e
  · obtain ⟨b, ws, rfl, q2, p2⟩ := r.tup_inv (K := K) s
    obtain ⟨rfl, _⟩ := keys_reps p2 e
    exact ⟨b, rfl, .inr q2⟩
  · obtain ⟨b, ws, g0, rfl, q2, p2, p3, _⟩ := r.lst_inv (K := K) s h
    obtain ⟨rfl, _⟩ := keys_reps p2 e
    exact ⟨b, rfl, .inl q2⟩
/-- f(set(x)) -/
theorem pe_fset {f : Str} {id : String} {r : List V → Hp → VK → Prop} {nm : List Str} {p q p2 q2 : Pos} {a : Expr} {ta : TE} (c : PCtx X nm) (hf : f ∈ nm) (hs : ("set" : Str) ∈ nm) (hb : bootBuiltins f = some (.builtin id)) (rule : CallR X (.builtin id) r) (pa : Plain a) (ha : PE X a ta) :
    PE X (.Call (.Name f q) [.Call (.Name "set" q2) [a] [] p2] [] p) (tCB r (tCons (tCB (rSetK X.K X.prog X.w) (tCons ta tNil)) tNil)) := by
  obtain ⟨b1, b2, b3, b4⟩ := c.nm f hf
  obtain ⟨c1, c2, c3, c4⟩ := c.nm "set" hs
  have hi := pe_callTy (cr_setK c.calm) c1 c2 (pos := p2) (p := q2) (by decide +kernel) (pa_cons ha pa_nil pa.star) c3 c4 pa.star rfl
  have pl : Plain (.Call (.Name "set" q2) [a] [] p2) := call_plain
  exact pe_callB rule b1 b2 hb (pa_cons hi pa_nil pl.star) b3 b4 pl.star rfl
theorem keyV_data (k : Key) : (keyV k).data = keyD k := by cases k <;> rfl
theorem keyD_inj {a b : Key} (h : PySem.W.keyToks (keyD a) = PySem.W.keyToks (keyD b)) : a = b := by
  rcases a with i | x <;> rcases b with j | y <;> simp [keyD, PySem.W.keyToks] at h
  · rw [h]
  · rw [PySem.W.str_of_cps (x := x) (y := y) (by rw [h])]
theorem leK_leV (a b : Key) : leK a b = leV (keyV a) (keyV b) := by
  unfold leK leV
  rw [PySem.W.dataLe_eq, PySem.W.dataLe_eq]
  simp only [keyV_data]
theorem sortK_map (L : List Key) : (L.mergeSort leK).map keyV = sortV (L.map keyV) := by
  unfold sortV
  exact List.map_mergeSort fun a _ b _ => leK_leV a b
theorem sortK_perm {L L' : List Key} (p : L'.Perm L) : sortV (L'.map keyV) = sortV (L.map keyV) := by
  refine sort_uniq ((sort_perm _).trans (p.map _)) (sort_sorted _) fun a ha b hb e => ?_
  obtain ⟨k, _, rfl⟩ := List.mem_map.mp ha
  obtain ⟨l, _, rfl⟩ := List.mem_map.mp hb
  rw [keyV_data, keyV_data] at e
  rw [keyD_inj e]
theorem perm_of_nodup {L L' : List Key} (h : L.Nodup) (h' : L'.Nodup) (m : ∀ x, x ∈ L ↔ x ∈ L') : L.Perm L' := (List.perm_ext_iff_of_nodup h h').mpr m
def opSortSet (p2 q2 : Pos) : POp where
  er := fun p q _ a _ => .Call (.Name "sorted" q) [.Call (.Name "set" q2) [a] [] p2] [] p
  sem := s_sset
  rc := fun _ => true
  ar := 0
  names := ["sorted", "set"]
  line := false
  plain := fun _ _ _ _ _ => call_plain
  plainT := fun _ _ _ _ _ => .call
  noLc := fun _ _ _ _ _ => ⟨nofun, nofun⟩
  snd0 := fun _ X p q r' a ta c _ pa ma ha => by
    refine PE.weak (pe_fset c (by simp) (by simp) (by decide +kernel) (cr_sortK c.calm c.u65) pa ha) fun σ H Q z => ma _ _ _ _ (fun x H1 w => ?_) z
    obtain ⟨F, xs, fo, base, ext, A, o, m⟩ := w.2
    obtain ⟨x1, u1, f1, rfl, r1, h1, rfl⟩ := A.one
    have hf1 : Hold H1 f1 := held1 h1 o.held
    simp only [s_sset] at m
    cases e : seqKeys? x1 with
    | none => rw [e] at m; exact m.elim
    | some ks =>
      rw [e] at m
      simp only [Option.bind_some] at m
      by_cases hc : (sameKb ks && decide (ks.length < 4000)) = true
      · rw [if_pos hc] at m
        simp only [Bool.and_eq_true, decide_eq_true_eq] at hc
        obtain ⟨b, rfl, q2⟩ := seqKeys_rep r1 o.same hf1 e
        have sk := sameKb_of hc.1
        refine ⟨b, ks, rfl, q2, hc.2, fun p' L nd hm hp => ⟨p', L, rfl, upd_same, ?_, fun L' q' pL hq => ?_⟩⟩
        · exact sk.imp (fun h k hk => h k ((hm k).1 hk)) fun h k hk => h k ((hm k).1 hk)
        · have e2 : sortV (L'.map keyV) = sortV ((onceK ks).map keyV) := sortK_perm (pL.trans (perm_of_nodup nd (onceK_nd ks) fun x => (hm x).trans onceK_mem.symm))
          have o2 : Ow F (upd H1 p' (KSO X.prog X.w p' L)) (base ++ ((if u1 = true then f1 else []) ++ ext)) := ⟨fun b u e => upd_sub hp _ _ (o.same _ _ e), o.nd, o.hold.mono (upd_sub hp), o.off⟩
          have rr : Reps X.K F (sortV ((onceK ks).map keyV)) ((L'.mergeSort leK).map kV) [] := by
            rw [← e2, ← sortK_map]
            exact reps_keys _
          exact outL o2 hq rr fun F2 H2 v fp a1 a2 => m F2 H2 v fp a1 (Same.trans (upd_sub hp) a2)
      · rw [if_neg hc] at m; exact m.elim
  snd1 := nofun
  snd2 := nofun
/-- len(set(x)) -/
def rLenK (P : Program) (w : World) : List V → Hp → VK → Prop := fun vs H Q => ∃ (a : Addr) (L : List Key), vs = [V.ref a] ∧ H a = some (KSO P w a L) ∧ Q (.int L.length) H
theorem cr_lenK : CallR X (.builtin "len") (rLenK X.prog X.w) := by
  intro pins s σ H vs us Q I r h
  obtain ⟨a, L, rfl, ha, q⟩ := h
  have R := kso_get I ha
  rw [Vals.ref1 r]
  obtain ⟨⟨o, es, ep, t, ho, hx, hd, rw0, hf, hr, hl⟩, nd, few⟩ := R
  have hz : es.size = L.length := by rw [← Array.length_toList, rw0.len]
  have hb : (es.size : Int) < 2 ^ 63 := by
    rw [hz]
    have : L.length < 4096 := few
    omega
  exact call_len_set ho hx hd hf hb ⟨.int L.length, H, I.tok _, ⟨_, by rw [hz]⟩, q⟩
def opLenSet (p2 q2 : Pos) : POp where
  er := fun p q _ a _ => .Call (.Name "len" q) [.Call (.Name "set" q2) [a] [] p2] [] p
  sem := s_lset
  rc := fun _ => true
  ar := 0
  names := ["len", "set"]
  line := false
  plain := fun _ _ _ _ _ => call_plain
  plainT := fun _ _ _ _ _ => .call
  noLc := fun _ _ _ _ _ => ⟨nofun, nofun⟩
  snd0 := fun _ X p q r' a ta c _ pa ma ha => by
    refine PE.weak (pe_fset c (by simp) (by simp) (by decide +kernel) cr_lenK pa ha) fun σ H Q z => ma _ _ _ _ (fun x H1 w => ?_) z
    obtain ⟨F, xs, fo, base, ext, A, o, m⟩ := w.2
    obtain ⟨x1, u1, f1, rfl, r1, h1, rfl⟩ := A.one
    have hf1 : Hold H1 f1 := held1 h1 o.held
    simp only [s_lset] at m
    cases e : seqKeys? x1 with
    | none => rw [e] at m; exact m.elim
    | some ks =>
      rw [e] at m
      simp only [Option.bind_some] at m
      by_cases hc : ks.length < 4000
      · rw [if_pos hc] at m
        obtain ⟨b, rfl, q2⟩ := seqKeys_rep r1 o.same hf1 e
        refine ⟨b, ks, rfl, q2, hc, fun p' L nd hm hp => ⟨p', L, rfl, upd_same, ?_⟩⟩
        have e2 := (perm_of_nodup nd (onceK_nd ks) fun x => (hm x).trans onceK_mem.symm).length_eq
        have o2 : Ow F (upd H1 p' (KSO X.prog X.w p' L)) (base ++ ((if u1 = true then f1 else []) ++ ext)) := ⟨fun b u e => upd_sub hp _ _ (o.same _ _ e), o.nd, o.hold.mono (upd_sub hp), o.off⟩
        rw [e2]
        exact out0 (K := X.K) o2 .int fun F2 H2 v fp a1 a2 => m F2 H2 v fp a1 (Same.trans (upd_sub hp) a2)
      · rw [if_neg hc] at m; exact m.elim
  snd1 := nofun
  snd2 := nofun
/-! methods of texts -/
def isStrV : Val → Bool
  | .str _ => true
  | _ => false
theorem rc_str {v : V} (h : RcV K isStrV v H) : ∃ a, v = .str a := by
  obtain ⟨F, x, fp, r, _, _, h⟩ := h
  cases r <;> simp [isStrV] at h
  exact ⟨_, rfl⟩
/-- s.m(y) -/
def opStr1 (m : Str) (id : String) (slot : Slot "str" m id) (ty : typeOf (.builtin id) = pure (.type "method_descriptor")) (sem : List (Val × Bool) → Option (Val × Bool)) (r : Cx → V → List V → Hp → VK → Prop) (rule : ∀ X, PCtx X [] → MtR X id (r X))
    (h : ∀ X x y H Q, PpS X.K sem [x, y] H Q → r X x [y] H Q) : POp where
  er := fun p q _ a es => .Call (.Attribute a m q) es [] p
  sem := sem
  rc := isStrV
  ar := 1
  names := []
  line := true
  plain := fun _ _ _ _ _ => .call nofun
  plainT := fun _ _ _ _ _ => .call
  noLc := fun _ _ _ _ _ => ⟨nofun, nofun⟩
  snd0 := nofun
  snd1 := fun _ X p q r' a b ta tb c hl pa pb ma mb ha hb => PE.weak (pe_m1 slot ty (rule X c) ha hb pb.star pa.attr (hl rfl)) fun σ H Q z => ma _ _ _ _ (fun x H1 w => ⟨rc_str w.1, mb _ _ _ _ (fun y H2 w2 => h X x y _ _ w2) w.2⟩) z
  snd2 := nofun
/-- s.m() -/
def opStr0 (m : Str) (id : String) (slot : Slot "str" m id) (ty : typeOf (.builtin id) = pure (.type "method_descriptor")) (sem : List (Val × Bool) → Option (Val × Bool)) (r : Cx → V → List V → Hp → VK → Prop) (rule : ∀ X, PCtx X [] → MtR X id (r X))
    (h : ∀ X x H Q, PpS X.K sem [x] H Q → r X x [] H Q) : POp where
  er := fun p q _ a _ => .Call (.Attribute a m q) [] [] p
  sem := sem
  rc := isStrV
  ar := 0
  names := []
  line := true
  plain := fun _ _ _ _ _ => .call nofun
  plainT := fun _ _ _ _ _ => .call
  noLc := fun _ _ _ _ _ => ⟨nofun, nofun⟩
  snd0 := fun _ X p q r' a ta c hl pa ma ha => PE.weak (pe_m0 slot ty (rule X c) ha pa.attr (hl rfl)) fun σ H Q z => ma _ _ _ _ (fun x H1 w => ⟨rc_str w.1, h X x _ _ w.2⟩) z
  snd1 := nofun
  snd2 := nofun
def s_find : List (Val × Bool) → Option (Val × Bool)
  | [(.str a, _), (.str b, _)] => some (.int (Txt.find a b), true)
  | _ => none
def s_split : List (Val × Bool) → Option (Val × Bool)
  | [(.str a, _), (.str b, _)] => if (b.length == 0) = false ∧ a.length + 2 ≤ sizeLine then some (.lst true ((Txt.split a b).map Val.str), true) else none
  | _ => none
def s_part : List (Val × Bool) → Option (Val × Bool)
  | [(.str a, _), (.str b, _)] => if (b.length == 0) = false ∧ a.length ≤ sizeLine then some (.tup [.str (Txt.partition a b).1, .str (Txt.partition a b).2.1, .str (Txt.partition a b).2.2], true) else none
  | _ => none
def s_joinA : List (Val × Bool) → Option (Val × Bool)
  | [(.str a, _), (v, _)] => ((listOf? v).bind allStr).bind fun ys => if (ys.map (·.length)).sum + ys.length * a.length ≤ 16777216 then some (.str (Txt.join a ys), true) else none
  | _ => none
def s_startsw : List (Val × Bool) → Option (Val × Bool)
  | [(.str a, _), (.str b, _)] => some (.bl (Txt.startswith a b), true)
  | _ => none
def opFind : POp := opStr1 "find" _ PySem.F.slot_str_find PySem.F.type_str_find s_find (fun X x xs H Q => ∃ a b, x = .str a ∧ xs = [.str b] ∧ Q (.int (Txt.find a b)) H) (fun X _ => mt_find) fun X x y H Q h => by
  obtain ⟨F, xs, fo, base, ext, A, o, m⟩ := h
  obtain ⟨x1, u1, f1, x2, u2, f2, rfl, r1, r2, h1, h2, rfl⟩ := A.two
  cases r1 <;> try exact False.elim m
  cases r2 <;> try exact False.elim m
  exact ⟨_, _, rfl, rfl, out0 (K := X.K) o .int m⟩
def opSplit : POp := opStr1 "split" _ PySem.F.slot_str_split PySem.F.type_str_split s_split (fun X x xs H Q => ∃ a b, x = .str a ∧ xs = [.str b] ∧ (b.length == 0) = false ∧ a.length + 2 ≤ sizeLine ∧ rNewStrs (Txt.split a b) H Q) (fun X _ => mt_split) fun X x y H Q h => by
  obtain ⟨F, xs, fo, base, ext, A, o, m⟩ := h
  obtain ⟨x1, u1, f1, x2, u2, f2, rfl, r1, r2, h1, h2, rfl⟩ := A.two
  cases r1 <;> try exact False.elim m
  cases r2 <;> try exact False.elim m
  simp only [s_split] at m
  split at m
  · rename_i e
    split at e
    · rename_i hc
      cases e
      exact ⟨_, _, rfl, rfl, hc.1, hc.2, fun p hp => outL (K := X.K) o hp (reps_strs _) m⟩
    · cases e
  · exact m.elim
def opPart : POp := opStr1 "partition" _ PySem.F.slot_str_partition PySem.F.type_str_partition s_part (fun X x xs H Q => ∃ a b, x = .str a ∧ xs = [.str b] ∧ (b.length == 0) = false ∧ a.length ≤ sizeLine ∧ ∀ p, H p = none → Q (.ref p) (upd H p (.tup [.str (Txt.partition a b).1, .str (Txt.partition a b).2.1, .str (Txt.partition a b).2.2]))) (fun X _ => mt_partition) fun X x y H Q h => by
  obtain ⟨F, xs, fo, base, ext, A, o, m⟩ := h
  obtain ⟨x1, u1, f1, x2, u2, f2, rfl, r1, r2, h1, h2, rfl⟩ := A.two
  cases r1 <;> try exact False.elim m
  cases r2 <;> try exact False.elim m
  simp only [s_part] at m
  split at m
  · rename_i e
    split at e
    · rename_i hc
      cases e
      exact ⟨_, _, rfl, rfl, hc.1, hc.2, fun p hp => outT (K := X.K) (ys := [.str _, .str _, .str _]) o hp (reps_strs [_, _, _]) m⟩
    · cases e
  · exact m.elim
def opJoin : POp := opStr1 "join" _ PySem.F.slot_str_join PySem.F.type_str_join s_joinA (fun X x xs H Q => ∃ a p, ∃ ys : List Str, x = .str a ∧ xs = [.ref p] ∧ (SqL X.K H p (ys.map V.str) ∨ SqT X.K H p (ys.map V.str)) ∧ (ys.map (·.length)).sum + ys.length * a.length ≤ 16777216 ∧ Q (.str (Txt.join a ys)) H) (fun X _ => mt_join) fun X x y H Q h => by
  obtain ⟨F, xs, fo, base, ext, A, o, m⟩ := h
  obtain ⟨x1, u1, f1, x2, u2, f2, rfl, r1, r2, h1, h2, rfl⟩ := A.two
  have hf2 : Hold H f2 := held1 h2 o.held.app.1
  cases r1 <;> try exact False.elim m
  rename_i a
  simp only [s_joinA] at m
  cases e : (listOf? x2).bind allStr with
  | none => rw [e] at m; exact m.elim
  | some ys =>
    rw [e] at m
    simp only [Option.bind_some] at m
    by_cases hz : (ys.map (·.length)).sum + ys.length * a.length ≤ 16777216
    · rw [if_pos hz] at m
      cases x2 <;> simp [listOf?] at e
      · obtain ⟨b, ws, rfl, q2, p2⟩ := r2.tup_inv (K := X.K) o.same
        obtain rfl := allStr_reps p2 e
        exact ⟨a, b, ys, rfl, rfl, .inr q2, hz, out0 (K := X.K) o .str m⟩
      · obtain ⟨b, ws, g0, rfl, q2, p2, p3, _⟩ := r2.lst_inv (K := X.K) o.same hf2
        obtain rfl := allStr_reps p2 e
        exact ⟨a, b, ys, rfl, rfl, .inl q2, hz, out0 (K := X.K) o .str m⟩
    · rw [if_neg hz] at m; exact m.elim
end
end Mn

set_option Elab.async false
set_option maxRecDepth 100000
set_option linter.all false
/-! Mo3: looks into dicts with another thing, places in lists, changes in place. -/
namespace Mn
open PySem L2
section
variable {X : Cx} {K : PySem.W.Frag} {F H : Hp} {Q : VK} {x y z : V}
def isDictV : Val → Bool
  | .dK _ _ => true | .dT _ _ => true | _ => false
theorem rc_dict {v : V} (h : RcV K isDictV v H) : ∃ a, v = .ref a ∧ IsD H a := by
  obtain ⟨F, x, fp, r, s, hh, h⟩ := h
  cases x <;> simp [isDictV] at h
  · obtain ⟨a, kws, g, rfl, h, _⟩ := r.dK_inv (K := K) s hh
    exact ⟨a, rfl, .inl ⟨_, .inl h⟩⟩
  · obtain ⟨a, kws, g, rfl, h, _⟩ := r.dT_inv (K := K) s hh
    exact ⟨a, rfl, .inr ⟨_, .inl h⟩⟩
def dkey? : Val → Val → Option (Option Val)
  | .dK _ kvs, x => x.key?.map fun k => lk kvs k
  | .dT _ kvs, x => x.tkey?.map fun k => lk kvs k
  | _, _ => none
def s_get1 : List (Val × Bool) → Option (Val × Bool)
  | [(d, _), (x, _)] => (dkey? d x).map fun r => match r with | some y => (y, false) | none => (.non, true)
  | _ => none
def s_get2 : List (Val × Bool) → Option (Val × Bool)
  | [(d, _), (x, _), (z, u)] => (dkey? d x).map fun r => match r with | some y => (y, false) | none => (z, u)
  | _ => none
theorem dkey_case {d x : Val} {r : Option Val} (e : dkey? d x = some r) : (∃ o kvs k, d = .dK o kvs ∧ x.key? = some k ∧ r = lk kvs k) ∨ (∃ o kvs k, d = .dT o kvs ∧ x.tkey? = some k ∧ r = lk kvs k) := by
  cases d <;> simp [dkey?] at e
  · obtain ⟨k, h1, h2⟩ := e; exact .inl ⟨_, _, k, rfl, h1, h2.symm⟩
  · obtain ⟨k, h1, h2⟩ := e; exact .inr ⟨_, _, k, rfl, h1, h2.symm⟩
theorem m1_of {a b : Expr} {m : Str} {p q : Pos} (pa : Plain a) (pb : Plain b) (h : (q.endLine == p.line) = true) : M1 X a m q b p := ⟨pa.attr, by rw [pb.star]; rfl, h, by rw [pb.star]; rfl⟩
theorem m2_of {a b c : Expr} {m : Str} {p q : Pos} (pa : Plain a) (pb : Plain b) (pc : Plain c) (h : (q.endLine == p.line) = true) : M2 X a m q b c p := ⟨pa.attr, by rw [pb.star, pc.star]; rfl, h, by rw [pb.star, pc.star]; rfl⟩
def opGet1 : POp where
  er := fun p q _ a es => .Call (.Attribute a "get" q) es [] p
  sem := s_get1
  rc := isDictV
  ar := 1
  names := []
  line := true
  plain := fun _ _ _ _ _ => .call nofun
  plainT := fun _ _ _ _ _ => .call
  noLc := fun _ _ _ _ _ => ⟨nofun, nofun⟩
  snd0 := nofun
  snd1 := fun _ X p q r' a b ta tb c hl pa pb ma mb ha hb => PE.weak (pe_dget1 c.u1 ha hb (m1_of pa pb (hl rfl))) fun σ H Q z => ma _ _ _ _ (fun x H1 w => by
    obtain ⟨ad, rfl, hd⟩ := rc_dict w.1
    refine ⟨ad, rfl, hd, mb _ _ _ _ (fun y H2 w2 => ?_) w.2⟩
    obtain ⟨F, xs, fo, base, ext, A, o, m⟩ := w2
    obtain ⟨x1, u1, f1, x2, u2, f2, rfl, r1, r2, h1, h2, rfl⟩ := A.two
    have hf1 : Hold H2 f1 := held1 h1 o.held.app.2
    simp only [s_get1] at m
    cases e : dkey? x1 x2 with
    | none => rw [e] at m; exact m.elim
    | some res =>
      rw [e] at m
      obtain ⟨a', ov, e1, e2, e3⟩ := dget_of o.same r1 hf1 r2 (dkey_case e)
      cases e1
      refine ⟨ov, e2, ?_⟩
      rcases e3 with ⟨rfl, rfl⟩ | ⟨z, v, g, rfl, rfl, q1, q2⟩
      · exact out0 (K := X.K) o .non m
      · exact m F H2 v g (Same.refl _) (Same.refl _) (by simpa using o.drop) q1 fun _ => q2) z
  snd2 := nofun
theorem Ags.three {xs : List (Val × Bool)} {v w t : V} {fo : FP} (a : Ags K F H xs [v, w, t] fo) : ∃ x u f y u2 g z u3 h, xs = [(x, u), (y, u2), (z, u3)] ∧ Rep K F x v f ∧ Rep K F y w g ∧ Rep K F z t h ∧ (u = false → Hold H f) ∧ (u2 = false → Hold H g) ∧ (u3 = false → Hold H h) ∧ fo = (((if u3 then h else []) ++ if u2 then g else []) ++ if u then f else []) := by
  cases a with
  | cons r h a =>
    cases a with
    | cons r2 h2 a =>
      cases a with
      | cons r3 h3 a => cases a; exact ⟨_, _, _, _, _, _, _, _, _, rfl, r, r2, r3, h, h2, h3, by simp⟩
def opGet2 : POp where
  er := fun p q _ a es => .Call (.Attribute a "get" q) es [] p
  sem := s_get2
  rc := isDictV
  ar := 2
  names := []
  line := true
  plain := fun _ _ _ _ _ => .call nofun
  plainT := fun _ _ _ _ _ => .call
  noLc := fun _ _ _ _ _ => ⟨nofun, nofun⟩
  snd0 := nofun
  snd1 := nofun
  snd2 := fun _ X p q r' a b d ta tb td c hl pa pb pd ma mb md ha hb hd' => PE.weak (pe_dget2 c.u1 ha hb hd' (m2_of pa pb pd (hl rfl))) fun σ H Q z => ma _ _ _ _ (fun x H1 w => by
    obtain ⟨ad, rfl, hd⟩ := rc_dict w.1
    refine ⟨ad, rfl, hd, mb _ _ _ _ (fun y H2 w2 => md _ _ _ _ (fun t H3 w3 => ?_) w2) w.2⟩
    obtain ⟨F, xs, fo, base, ext, A, o, m⟩ := w3
    obtain ⟨x1, u1, f1, x2, u2, f2, x3, u3, f3, rfl, r1, r2, r3, h1, h2, h3, rfl⟩ := Ags.three A
    have hh := o.held.app
    have hf1 : Hold H3 f1 := held1 h1 hh.2
    simp only [s_get2] at m
    cases e : dkey? x1 x2 with
    | none => rw [e] at m; exact m.elim
    | some res =>
      rw [e] at m
      obtain ⟨a', ov, e1, e2, e3⟩ := dget_of o.same r1 hf1 r2 (dkey_case e)
      cases e1
      refine ⟨ov, e2, ?_⟩
      rcases e3 with ⟨rfl, rfl⟩ | ⟨z, v, g, rfl, rfl, q1, q2⟩
      · refine m F H3 t f3 (Same.refl _) (Same.refl _) (o.sub ?_) r3 h3
        refine List.Sublist.append (List.Sublist.refl _) (List.Sublist.append ?_ (List.Sublist.refl _))
        rw [List.append_assoc]
        exact List.sublist_append_left _ _
      · exact m F H3 v g (Same.refl _) (Same.refl _) (by simpa using o.drop) q1 fun _ => q2) z
end
end Mn

set_option Elab.async false
set_option maxRecDepth 100000
set_option linter.all false
/-! Mo4: operations by the values. -/
namespace Mn
def plusO : Op := .alt .add (.alt .addS (.alt .addL .addT))
def ltO : Op := .alt .lt .ltS
def geO : Op := .ge
def inO : Op := .alt .inS (.alt .inL (.alt .inT .inD))
def ninO : Op := .alt .notinS (.alt .notinL (.alt .notinT .notinD))
def ixO : Op := .alt .ix .dix
def lenO : Op := .alt .len .lenD
def listO : Op := .alt .listOf .listD
def slO (lo hi : Bool) : Op := .alt (.slL lo hi) (.alt (.slT lo hi) (.slS lo hi))
end Mn

set_option Elab.async false
set_option maxRecDepth 100000
set_option linter.all false
/-! Mo5: methods of lists as operations. -/
namespace Mn
open PySem PySem.Spec PyProof.Rows L2
section
variable {X : Cx} {K : PySem.W.Frag} {F H : Hp} {Q : VK} {x y z v : V}
def isLstV : Val → Bool
  | .lst _ _ => true
  | _ => false
def isOwnL : Val → Bool
  | .lst true _ => true
  | _ => false
theorem rc_lst (h : RcV K isLstV v H) : tyV K "list" v H := by
  obtain ⟨F, x, fp, r, s, hh, h⟩ := h
  cases x <;> simp [isLstV] at h
  obtain ⟨a, vs, g, rfl, q, _⟩ := r.lst_inv (K := K) s hh
  exact .inl ⟨rfl, vs, q⟩
theorem rc_own (h : RcV K isOwnL v H) : tyV K "list" v H := by
  obtain ⟨F, x, fp, r, s, hh, h⟩ := h
  refine rc_lst ⟨F, x, fp, r, s, hh, ?_⟩
  cases x <;> simp [isOwnL] at h
  rfl
/-- xs.m(y) of a list, told alone -/
def opLst1 (m : Str) (id : String) (slot : Slot "list" m id) (ty : typeOf (.builtin id) = pure (.type "method_descriptor")) (sem : List (Val × Bool) → Option (Val × Bool)) (r : Cx → V → List V → Hp → VK → Prop) (rule : ∀ X, PCtx X [] → MtR X id (r X))
    (h : ∀ X x y H Q, PpS X.K sem [x, y] H Q → r X x [y] H Q) : POp where
  er := fun p q _ a es => .Call (.Attribute a m q) es [] p
  sem := sem
  rc := isLstV
  ar := 1
  names := []
  line := true
  plain := fun _ _ _ _ _ => .call nofun
  plainT := fun _ _ _ _ _ => .call
  noLc := fun _ _ _ _ _ => ⟨nofun, nofun⟩
  snd0 := nofun
  snd1 := fun _ X p q r' a b ta tb c hl pa pb ma mb ha hb => PE.weak (pe_bm PySem.F.plainAttrs_list slot ty (rule X c) ha (pa_cons hb pa_nil pb.star) pa.attr (by rw [pb.star]; rfl) (hl rfl) pb.star rfl) fun σ H Q z => ma _ _ _ _ (fun x H1 w => ⟨rc_lst w.1, mb _ _ _ _ (fun y H2 w2 => h X x y _ _ w2) w.2⟩) z
  snd2 := nofun
/-- the first place of a text -/
def idxS : List Str → Str → Nat
  | [], _ => 0
  | a :: r, b => if a = b then 0 else idxS r b + 1
def s_idx : List (Val × Bool) → Option (Val × Bool)
  | [(.lst _ xs, _), (.str b, _)] => (allStr xs).bind fun ys => if b ∈ ys ∧ ys.length < 1000000 then some (.int (idxS ys b : Nat), true) else none
  | _ => none
theorem idx_first : ∀ {ys : List Str} {b : Str}, b ∈ ys → ys[idxS ys b]? = some b ∧ ∀ m, m < idxS ys b → ys[m]? ≠ some b
  | [], b, h => by cases h
  | a :: r, b, h => by
    by_cases e : a = b
    · subst e
      have e0 : idxS (a :: r) a = 0 := if_pos rfl
      rw [e0]
      exact ⟨rfl, fun m hm => absurd hm (Nat.not_lt_zero m)⟩
    · have hr : b ∈ r := (List.mem_cons.mp h).elim (fun z => absurd z.symm e) id
      obtain ⟨h1, h2⟩ := idx_first hr
      have ei : idxS (a :: r) b = idxS r b + 1 := if_neg e
      rw [ei]
      refine ⟨by simpa using h1, fun m hm => ?_⟩
      cases m with
      | zero => simpa using e
      | succ m => simpa using h2 m (by omega)
def opIndex : POp := opLst1 "index" _ PySem.F.slot_list_index PySem.F.type_list_index s_idx (fun X => rIndex X.K) (fun X _ => mt_index) fun X x y H Q h => by
  obtain ⟨F, xs, fo, base, ext, A, o, m⟩ := h
  obtain ⟨x1, u1, f1, x2, u2, f2, rfl, r1, r2, h1, h2, rfl⟩ := A.two
  have hf1 : Hold H f1 := held1 h1 o.held.app.2
  cases x1 <;> try exact False.elim m
  rename_i og xs
  cases r2 <;> try exact False.elim m
  rename_i b
  simp only [s_idx] at m
  cases e : allStr xs with
  | none => rw [e] at m; exact m.elim
  | some ys =>
    rw [e] at m
    simp only [Option.bind_some] at m
    by_cases hc : b ∈ ys ∧ ys.length < 1000000
    · rw [if_pos hc] at m
      obtain ⟨a, ws, g0, rfl, q2, p2, p3, _⟩ := r1.lst_inv (K := X.K) o.same hf1
      obtain rfl := allStr_reps p2 e
      obtain ⟨k1, k2⟩ := idx_first hc.1
      refine ⟨a, _, .str b, idxS ys b, .str b, rfl, rfl, q2, rfl, ?_, by rw [List.getElem?_map, k1]; rfl, by simp [eqV], fun m' z' hm hz => ?_, out0 (K := X.K) o .int m⟩
      · rw [List.all_eq_true]
        intro w hw
        obtain ⟨s, _, rfl⟩ := List.mem_map.mp hw
        rfl
      · rw [List.getElem?_map] at hz
        have hne := k2 m' hm
        cases es : ys[m']? with
        | none => rw [es] at hz; cases hz
        | some t =>
          rw [es] at hz hne
          cases hz
          simp only [eqV, beq_eq_false_iff_ne]
          exact fun z => hne (by rw [z])
    · rw [if_neg hc] at m; exact m.elim
/-! a text is taken out of a list -/
def sameS (b : Str) : Value → Bool
  | .str z _ => z.cps.toList == b.cps.toList
  | _ => false
theorem sameS_gives {b : Str} {t : Tok} : ∀ {us : List Value} {zs : List Str}, StrsAre us zs → ∀ w ∈ us, MeetsSeq.EqGives w (.str b t) (sameS b w)
  | _, _, .nil => fun w hw => nomatch hw
  | _, _, .cons z t' h => fun w hw => (List.mem_cons.mp hw).elim (fun e => e ▸ SeqRoads2.EqGives.str z b t' t) (sameS_gives h w)
def rRemS : V → List V → Hp → VK → Prop := fun x xs H Q => ∃ (l : Addr) (zs : List Str) (b : Str) (j : Nat), x = .ref l ∧ xs = [.str b] ∧ H l = some (.lst (zs.map V.str)) ∧ zs[j]? = some b ∧ (∀ m : Nat, m < j → zs[m]? ≠ some b) ∧ Q .non (upd H l (.lst ((zs.eraseIdx j).map V.str)))
theorem erase_map {α β : Type} (f : α → β) : ∀ (l : List α) (j : Nat), (l.map f).eraseIdx j = (l.eraseIdx j).map f
  | [], _ => rfl
  | _ :: _, 0 => rfl
  | a :: r, j + 1 => by
    show f a :: (r.map f).eraseIdx j = f a :: (r.eraseIdx j).map f
    rw [erase_map f r j]
theorem mt_removeS : MtR X "list.remove" rRemS := by
  intro pp s st Hh rcv args w ws QQ I r1 r2 hyp
  obtain ⟨l, zs, b, j, rfl, rfl, hH, hj, hno, q⟩ := hyp
  cases r1
  obtain ⟨u, rfl, ru⟩ := r2.one
  obtain ⟨t, rfl⟩ := ru
  obtain ⟨z, its, n, r, hl, e⟩ := I.lstM hH
  have hi := r.strs
  rw [List.length_map] at hl z
  have hjn : j < zs.length := (List.getElem?_eq_some_iff.mp hj).1
  have hjl : j < its.toArray.size := by rw [List.size_toArray]; omega
  refine call_meets PySem.F.slot_list_remove ⟨_, e, rfl⟩ PySem.F.entry_list_remove (PySem.F.args_list_remove_2 _ _)
    (MeetsSeq.list_remove l its.toArray n (.str b t) (sameS b) (fun y hy => sameS_gives hi y (by simpa using hy)) j hjl ?at_ ?no_ (by rw [List.size_toArray]; omega)) ⟨e, ?end_⟩
  case at_ =>
    obtain ⟨tj, hjt⟩ := hi.get j b hj
    obtain ⟨_, h2⟩ := List.getElem?_eq_some_iff.mp hjt
    rw [show its.toArray[j] = .str b tj by simpa using h2]
    exact beq_self_eq_true _
  case no_ =>
    intro m hm hmj
    have hmn : m < zs.length := by omega
    obtain ⟨tm, hmt⟩ := hi.get m _ (List.getElem?_eq_getElem hmn)
    obtain ⟨_, h2⟩ := List.getElem?_eq_some_iff.mp hmt
    rw [show its.toArray[m] = .str zs[m] tm by simpa using h2]
    refine beq_eq_false_iff_ne.mpr fun e2 => hno m hmj ?_
    rw [List.getElem?_eq_getElem hmn, PySem.W.str_of_cps e2]
  case end_ =>
    have rr := r.eraseIdx j
    rw [erase_map] at rr
    refine ⟨.non, _, I.lset (its' := its.eraseIdx j) (t' := s.toks) hH e ?_ rr ?_, rfl, q⟩
    · show its.toArray.eraseIdxIfInBounds j = (its.eraseIdx j).toArray
      rw [List.eraseIdxIfInBounds_toArray]
    · rw [List.length_map]
      have := List.length_eraseIdx_le zs j
      omega
/-- xs.m(y) of a list of one's own, which it changes -/
def mpLst1 (m : Str) (id : String) (slot : Slot "list" m id) (ty : typeOf (.builtin id) = pure (.type "method_descriptor")) (sem : Val → List (Val × Bool) → Option (Val × Val × Bool)) (r : Cx → V → List V → Hp → VK → Prop) (rule : ∀ X, PCtx X [] → MtR X id (r X))
    (h : ∀ X v y H Q, MuS X.K sem v [y] H Q → r X v [y] H Q) : MPop where
  name := m
  sem := sem
  rc := isOwnL
  ar := 1
  snd0 := nofun
  snd1 := fun _ X i p q a b tb c hl pa pb mb ha hb => PE.weak (pe_bm PySem.F.plainAttrs_list slot ty (rule X c) ha (pa_cons hb pa_nil pb.star) pa.attr (by rw [pb.star]; rfl) hl pb.star rfl) fun σ H Q ⟨v, e, rc, w⟩ => ⟨v, e, rc_own rc, mb _ _ _ _ (fun y H2 w2 => h X v y _ _ w2) w⟩
  snd2 := nofun
def s_rem : Val → List (Val × Bool) → Option (Val × Val × Bool)
  | .lst true xs, [(.str b, _)] => (allStr xs).bind fun ys => if b ∈ ys then some (.lst true ((ys.eraseIdx (idxS ys b)).map Val.str), .non, true) else none
  | _, _ => none
theorem mu_own {F : Hp} {fz base fo ext : FP} {a : Addr} {ws : List V} {f : FP} (o : Ow F H (((a, HO.lst ws) :: f) ++ (base ++ (fo ++ ext)))) (ws' : List V) : Ow F (upd H a (.lst ws')) (((a, HO.lst ws') :: f) ++ (base ++ (fo ++ ext))) := Ow.set o
def opRemove : MPop := mpLst1 "remove" _ PySem.F.slot_list_remove PySem.F.type_list_remove s_rem (fun _ => rRemS) (fun X _ => mt_removeS) fun X v y H Q h => by
  obtain ⟨F, z, fz, ys, fo, base, ext, rz, A, o, m⟩ := h
  obtain ⟨x1, u1, f1, rfl, r1, h1, rfl⟩ := A.one
  cases z <;> try exact False.elim m
  rename_i ow xs
  cases ow
  · exact False.elim m
  cases r1 <;> try exact False.elim m
  rename_i b
  simp only [s_rem] at m
  cases e : allStr xs with
  | none => rw [e] at m; exact m.elim
  | some zs =>
    rw [e] at m
    simp only [Option.bind_some] at m
    by_cases hc : b ∈ zs
    · rw [if_pos hc] at m
      cases rz with
      | lstO rs =>
        rename_i a ws g
        have hH : H a = some (.lst ws) := o.hold (a, .lst ws) (by simp)
        obtain rfl := allStr_reps rs e
        obtain ⟨k1, k2⟩ := idx_first hc
        refine ⟨a, zs, b, _, rfl, rfl, hH, k1, k2, ?_⟩
        have o2 := mu_own (fz := []) o ((zs.eraseIdx (idxS zs b)).map V.str)
        refine m F _ .non ((a, .lst ((zs.eraseIdx (idxS zs b)).map V.str)) :: []) [] (Same.refl _) (.lstO (reps_strs _)) .non ?_ nofun
        exact o2.sub (List.Sublist.append (List.Sublist.cons_cons _ (List.nil_sublist _)) (List.Sublist.append (List.Sublist.refl _) (by simp)))
    · rw [if_neg hc] at m; exact m.elim
def s_ext : Val → List (Val × Bool) → Option (Val × Val × Bool)
  | .lst true xs, [(.lst _ ys, _)] => if noOwnL ys && decide (xs.length + ys.length ≤ sizeLine) then some (.lst true (xs ++ ys), .non, true) else none
  | _, _ => none
def opExtend : MPop := mpLst1 "extend" _ PySem.F.slot_list_extend PySem.F.type_list_extend s_ext (fun _ => rExtend) (fun X _ => mt_extend) fun X v y H Q h => by
  obtain ⟨F, z, fz, ys, fo, base, ext, rz, A, o, m⟩ := h
  obtain ⟨x1, u1, f1, rfl, r1, h1, rfl⟩ := A.one
  cases z <;> try exact False.elim m
  rename_i ow xs
  cases ow
  · exact False.elim m
  cases x1 <;> try exact False.elim m
  rename_i ob ys
  simp only [s_ext] at m
  by_cases hc : (noOwnL ys && decide (xs.length + ys.length ≤ sizeLine)) = true
  · rw [if_pos hc] at m
    simp only [Bool.and_eq_true, decide_eq_true_eq] at hc
    have hf1 : Hold H f1 := held1 h1 o.hold.app.2.app.2.app.1
    obtain ⟨b, vs, g0, rfl, _, p2, _, hB⟩ := r1.lst_inv (K := X.K) o.same hf1
    obtain rfl := p2.noOwn hc.1
    cases rz with
    | lstO rs =>
      rename_i a ws g
      have hH : H a = some (.lst ws) := o.hold (a, .lst ws) (by simp)
      refine ⟨a, b, ws, vs, rfl, rfl, hH, hB, by rw [← rs.length, ← p2.length]; exact hc.2, ?_⟩
      have o2 := mu_own (fz := []) o (ws ++ vs)
      refine m F _ .non ((a, .lst (ws ++ vs)) :: (g ++ [])) [] (Same.refl _) (.lstO (rs.app p2)) .non ?_ nofun
      refine o2.sub (List.Sublist.append (List.Sublist.cons_cons _ (by rw [List.append_nil]; exact List.Sublist.refl _)) (List.Sublist.append (List.Sublist.refl _) (by simp)))
  · rw [if_neg hc] at m; exact m.elim
end
end Mn

set_option Elab.async false
set_option maxRecDepth 100000
set_option linter.all false
/-! Mp1: the operations on values of a known kind. -/
namespace Mn
open PySem L2
theorem big_line : 1000000 ≤ sizeLine := by decide +kernel
section
variable {u v : Bool} {i j : Int} {o o' : Bool} {xs ys : List Val} {x y : Val} {a b : Str} {ps : List (Val × Bool)} {ns : List Int} {kvs : List (Key × Val)} {lo hi : Bool}
theorem q_addI : plusO.sem [(.int i, u), (.int j, v)] = some (.int (i + j), true) := rfl
theorem q_addS (h : a.length + b.length ≤ sizeLine) : plusO.sem [(.str a, u), (.str b, v)] = some (.str (a ++ b), true) := by
  show s_alt s_add (s_alt s_addS (s_alt s_addL s_addT)) _ = _
  simp [s_alt, s_add, s_addS, h]
theorem q_addL (h1 : noOwnL xs = true) (h2 : noOwnL ys = true) (h : xs.length + ys.length ≤ sizeLine) : plusO.sem [(.lst o xs, u), (.lst o' ys, v)] = some (.lst true (xs ++ ys), true) := by
  show s_alt s_add (s_alt s_addS (s_alt s_addL s_addT)) _ = _
  simp [s_alt, s_add, s_addS, s_addL, h, h1, h2]
theorem q_addT (h1 : noOwnL xs = true) (h2 : noOwnL ys = true) (h : xs.length + ys.length ≤ sizeLine) : plusO.sem [(.tup xs, u), (.tup ys, v)] = some (.tup (xs ++ ys), true) := by
  show s_alt s_add (s_alt s_addS (s_alt s_addL s_addT)) _ = _
  simp [s_alt, s_add, s_addS, s_addL, s_addT, h, h1, h2]
theorem q_sub : Op.sub.sem [(.int i, u), (.int j, v)] = some (.int (i - j), true) := rfl
theorem q_mul (h : i.natAbs.log2 + j.natAbs.log2 < 1000000) : Op.mul.sem [(.int i, u), (.int j, v)] = some (.int (i * j), true) := by
  show s_mul _ = _
  simp [s_mul, h]
theorem q_fdiv (h : 0 < j) (h2 : j.natAbs.log2 < 9000) : Op.fdiv.sem [(.int i, u), (.int j, v)] = some (.int (i / j), true) := by
  show s_fdiv _ = _
  simp [s_fdiv, h, h2]
theorem q_mod (h : 0 < j) : Op.mod.sem [(.int i, u), (.int j, v)] = some (.int (i % j), true) := by
  show s_mod _ = _
  simp [s_mod, h]
theorem q_pow (h : 0 ≤ j) (h1 : j ≤ 64) (h2 : i.natAbs.log2 < 1000000) : Op.pow.sem [(.int i, u), (.int j, v)] = some (.int (i ^ j.toNat), true) := by
  show s_pow _ = _
  simp [s_pow, h, h1, h2]
theorem q_neg : Op.neg.sem [(.int i, u)] = some (.int (-i), true) := rfl
theorem q_ltI : ltO.sem [(.int i, u), (.int j, v)] = some (.bl (decide (i < j)), true) := rfl
theorem q_ltS : ltO.sem [(.str a, u), (.str b, v)] = some (.bl (decide (a.cps.toList < b.cps.toList)), true) := rfl
theorem q_le : Op.le.sem [(.int i, u), (.int j, v)] = some (.bl (decide (i ≤ j)), true) := rfl
theorem q_gt : Op.gt.sem [(.int i, u), (.int j, v)] = some (.bl (decide (j < i)), true) := rfl
theorem q_ge : geO.sem [(.int i, u), (.int j, v)] = some (.bl (decide (j ≤ i)), true) := rfl
theorem q_lt' : Op.lt.sem [(.int i, u), (.int j, v)] = some (.bl (decide (i < j)), true) := rfl
theorem q_eqD (h1 : good x.data = true) (h2 : good y.data = true) : Op.eq.sem [(x, u), (y, v)] = some (.bl (PyData.eqv x.data y.data), true) := by
  show s_eq _ = _
  rw [b_eq, h1, h2]; rfl
theorem q_neD (h1 : good x.data = true) (h2 : good y.data = true) : Op.ne.sem [(x, u), (y, v)] = some (.bl (!PyData.eqv x.data y.data), true) := by
  show s_ne _ = _
  rw [b_ne, h1, h2]; rfl
theorem q_eqI : Op.eq.sem [(.int i, u), (.int j, v)] = some (.bl (decide (i = j)), true) := b_eqI
theorem q_neI : Op.ne.sem [(.int i, u), (.int j, v)] = some (.bl (!decide (i = j)), true) := b_neI
theorem beq_str : (a == b) = decide (a = b) := by
  by_cases h : a = b
  · simp [h]
  · simp [h]
theorem q_eqS (ha : PyData.strOk a = true) (hb : PyData.strOk b = true) : Op.eq.sem [(.str a, u), (.str b, v)] = some (.bl (decide (a = b)), true) := (b_eqS ha hb).trans (by rw [beq_str])
theorem q_neS (ha : PyData.strOk a = true) (hb : PyData.strOk b = true) : Op.ne.sem [(.str a, u), (.str b, v)] = some (.bl (!decide (a = b)), true) := (b_neS ha hb).trans (by rw [bne, beq_str])
theorem q_eqB {p q : Bool} : Op.eq.sem [(.bl p, u), (.bl q, v)] = some (.bl (p == q), true) := b_eqB
theorem q_neB {p q : Bool} : Op.ne.sem [(.bl p, u), (.bl q, v)] = some (.bl (p != q), true) := b_neB
theorem q_isN : Op.isN.sem [(x, u)] = some (.bl (match x with | .non => true | _ => false), true) := rfl
theorem q_notN : Op.notN.sem [(x, u)] = some (.bl (match x with | .non => false | _ => true), true) := rfl
theorem q_isi {ty : String} : (Op.isi ty).sem [(x, u)] = some (.bl (tyIs ty x), true) := rfl
theorem q_lst (h : (ps.all fun x => x.2 || x.1.noOwn) = true) (h2 : ps.length ≤ sizeLine) : Op.lst.sem ps = some (.lst true (ps.map (·.1)), true) := by
  show s_lst _ = _
  rw [b_lst, h]; simp [h2]
theorem q_tup (h : (ps.all fun x => x.2 || x.1.noOwn) = true) (h2 : ps.length ≤ sizeLine) : Op.tup.sem ps = some (.tup (ps.map (·.1)), true) := by
  show s_tup _ = _
  rw [b_tup, h]; simp [h2]
theorem q_dnK : Op.dnK.sem [] = some (.dK true [], true) := rfl
theorem q_dnT : Op.dnT.sem [] = some (.dT true [], true) := rfl
theorem atI_get {α : Type} {xs : List α} {i : Int} (h0 : 0 ≤ i) (h1 : i < xs.length) : atI xs i = some (xs[i.toNat]'(by omega)) := by
  obtain ⟨j, hj, rfl, e⟩ := atI_some h0 h1
  rw [e]; rfl
theorem q_ixL (h0 : 0 ≤ i) (h1 : i < xs.length) : ixO.sem [(.lst o xs, u), (.int i, v)] = some (xs[i.toNat]'(by omega), false) := by
  show s_alt s_ix s_dix _ = _
  simp [s_alt, s_ix, atI_get h0 h1]
theorem q_ixT (h0 : 0 ≤ i) (h1 : i < xs.length) : ixO.sem [(.tup xs, u), (.int i, v)] = some (xs[i.toNat]'(by omega), false) := by
  show s_alt s_ix s_dix _ = _
  simp [s_alt, s_ix, atI_get h0 h1]
theorem q_ixC (h0 : 0 ≤ i) (h1 : i < ns.length) : ixO.sem [(.scr ns, u), (.int i, v)] = some (.int (ns[i.toNat]'(by omega)), true) := by
  show s_alt s_ix s_dix _ = _
  simp [s_alt, s_ix, atI_get h0 h1]
theorem q_ixS (h : a.length ≤ sizeLine) (h0 : 0 ≤ i) (h1 : i < a.cps.toList.length) : ixO.sem [(.str a, u), (.int i, v)] = some (.str ⟨#[a.cps.toList[i.toNat]'(by omega)]⟩, true) := by
  show s_alt s_ix s_dix _ = _
  have e : atI a.cps.toList i = some (a.cps.toList[i.toNat]'(by omega)) := atI_get h0 h1
  simp only [s_alt, s_ix, h, if_true, e, Option.map_some]
theorem q_ixD {k : Key} (h : x.key? = some k) (h2 : lk kvs k = some y) : ixO.sem [(.dK o kvs, u), (x, v)] = some (y, false) := by
  show s_alt s_ix s_dix _ = _
  simp [s_alt, s_ix, s_dix, h, h2]
/-- i within a list, by ixv -/
theorem r_ixL (h0 : 0 ≤ i) (h1 : i < xs.length) : s_ix [(.lst o xs, u), (.int i, v)] = some (xs[i.toNat]'(by omega), false) := by simp [s_ix, atI_get h0 h1]
theorem r_ixT (h0 : 0 ≤ i) (h1 : i < xs.length) : s_ix [(.tup xs, u), (.int i, v)] = some (xs[i.toNat]'(by omega), false) := by simp [s_ix, atI_get h0 h1]
theorem r_ixS (h : a.length ≤ sizeLine) (h0 : 0 ≤ i) (h1 : i < a.cps.toList.length) : s_ix [(.str a, u), (.int i, v)] = some (.str ⟨#[a.cps.toList[i.toNat]'(by omega)]⟩, true) := by
  have e : atI a.cps.toList i = some (a.cps.toList[i.toNat]'(by omega)) := atI_get h0 h1
  simp only [s_ix, h, if_true, e, Option.map_some]
theorem q_lenL : lenO.sem [(.lst o xs, u)] = some (.int xs.length, true) := rfl
theorem q_lenT : lenO.sem [(.tup xs, u)] = some (.int xs.length, true) := rfl
theorem q_lenC : lenO.sem [(.scr ns, u)] = some (.int ns.length, true) := rfl
theorem q_lenD : lenO.sem [(.dK o kvs, u)] = some (.int kvs.length, true) := rfl
theorem q_lenS (h : a.length ≤ sizeLine) : lenO.sem [(.str a, u)] = some (.int a.length, true) := by
  show s_alt s_len s_lenD _ = _
  simp [s_alt, s_len, h]
theorem q_listL (h : noOwnL xs = true) : listO.sem [(.lst o xs, u)] = some (.lst true xs, true) := by
  show s_alt s_listOf s_listD _ = _
  simp [s_alt, s_listOf, h]
theorem q_listT (h : noOwnL xs = true) : listO.sem [(.tup xs, u)] = some (.lst true xs, true) := by
  show s_alt s_listOf s_listD _ = _
  simp [s_alt, s_listOf, h]
theorem q_listD : listO.sem [(.dK o kvs, u)] = some (.lst true (kvs.map fun kv => keyV kv.1), true) := rfl
theorem q_tupOf (h : noOwnL xs = true) : Op.tupOf.sem [(.lst o xs, u)] = some (.tup xs, true) := by
  show s_tupOf _ = _
  simp [s_tupOf, h]
theorem q_max : Op.max2.sem [(.int i, u), (.int j, v)] = some (.int (if j > i then j else i), true) := rfl
theorem q_min : Op.min2.sem [(.int i, u), (.int j, v)] = some (.int (if j < i then j else i), true) := rfl
theorem q_intB {p : Bool} : Op.intB.sem [(.bl p, u)] = some (.int (if p then 1 else 0), true) := rfl
theorem q_intI : Op.intB.sem [(.int i, u)] = some (.int i, true) := rfl
theorem q_all : Op.all.sem [(.lst o xs, u)] = (allB xs).map fun bs => (.bl (bs.all id), true) := rfl
theorem q_any : Op.any.sem [(.lst o xs, u)] = (allB xs).map fun bs => (.bl (bs.any id), true) := rfl
theorem q_slL (h : noOwnL xs = true) : (slO lo hi).sem ((.lst o xs, u) :: ps) = (parts? lo hi (ps.map (·.1))).map fun p => (.lst true (cutL xs p.1 p.2), true) := by
  show s_alt (s_slL lo hi) (s_alt (s_slT lo hi) (s_slS lo hi)) _ = _
  simp only [s_alt, s_slL, h, if_true]
  cases parts? lo hi (ps.map (·.1)) <;> rfl
theorem q_slT (h : noOwnL xs = true) : (slO lo hi).sem ((.tup xs, u) :: ps) = (parts? lo hi (ps.map (·.1))).map fun p => (.tup (cutL xs p.1 p.2), true) := by
  show s_alt (s_slL lo hi) (s_alt (s_slT lo hi) (s_slS lo hi)) _ = _
  simp only [s_alt, s_slL, s_slT, h, if_true]
  cases parts? lo hi (ps.map (·.1)) <;> rfl
theorem q_slS (h : a.length ≤ sizeLine) : (slO lo hi).sem ((.str a, u) :: ps) = (parts? lo hi (ps.map (·.1))).map fun p => (.str (cutS a p.1 p.2), true) := by
  show s_alt (s_slL lo hi) (s_alt (s_slT lo hi) (s_slS lo hi)) _ = _
  simp only [s_alt, s_slL, s_slT, s_slS, h, if_true]
theorem q_inS1 {c : Nat} : inO.sem [(.str ⟨#[c]⟩, u), (.str b, v)] = some (.bl (decide (c ∈ b.cps.toList)), true) := rfl
theorem q_ninS1 {c : Nat} : ninO.sem [(.str ⟨#[c]⟩, u), (.str b, v)] = some (.bl (!decide (c ∈ b.cps.toList)), true) := rfl
theorem q_inL (h1 : good x.data = true) (h2 : good (Val.lst o ys).data = true) : inO.sem [(x, u), (.lst o ys, v)] = some (.bl ((dataL ys).any fun z => PyData.eqv z x.data), true) := by
  show s_alt s_inS (s_alt s_inL (s_alt s_inT s_inD)) _ = _
  have e : s_inS [(x, u), (.lst o ys, v)] = none := by cases x <;> rfl
  simp [s_alt, e, s_inL, h1, h2]
theorem q_ninL (h1 : good x.data = true) (h2 : good (Val.lst o ys).data = true) : ninO.sem [(x, u), (.lst o ys, v)] = some (.bl (!(dataL ys).any fun z => PyData.eqv z x.data), true) := by
  show s_alt s_notinS (s_alt s_notinL (s_alt s_notinT s_notinD)) _ = _
  have e : s_notinS [(x, u), (.lst o ys, v)] = none := by cases x <;> rfl
  simp [s_alt, e, s_notinL, h1, h2]
theorem q_inT (h1 : isFlat x = true) (h2 : ys.all isFlat = true) : inO.sem [(x, u), (.tup ys, v)] = some (.bl (ys.any fun z => PyData.eqv z.data x.data), true) := by
  show s_alt s_inS (s_alt s_inL (s_alt s_inT s_inD)) _ = _
  have e : s_inS [(x, u), (.tup ys, v)] = none := by cases x <;> rfl
  have e2 : s_inL [(x, u), (.tup ys, v)] = none := by cases x <;> rfl
  simp only [s_alt, e, e2, s_inT, h1, h2, Bool.and_self, if_true]
theorem q_inD {k : Key} (h : x.key? = some k) : inO.sem [(x, u), (.dK o kvs, v)] = some (.bl (lk kvs k).isSome, true) := by
  show s_alt s_inS (s_alt s_inL (s_alt s_inT s_inD)) _ = _
  have e : s_inS [(x, u), (.dK o kvs, v)] = none := by cases x <;> rfl
  have e2 : s_inL [(x, u), (.dK o kvs, v)] = none := by cases x <;> rfl
  have e3 : s_inT [(x, u), (.dK o kvs, v)] = none := by cases x <;> rfl
  simp [s_alt, e, e2, e3, s_inD, h]
theorem q_ninD {k : Key} (h : x.key? = some k) : ninO.sem [(x, u), (.dK o kvs, v)] = some (.bl (!(lk kvs k).isSome), true) := by
  show s_alt s_notinS (s_alt s_notinL (s_alt s_notinT s_notinD)) _ = _
  have e : s_notinS [(x, u), (.dK o kvs, v)] = none := by cases x <;> rfl
  have e2 : s_notinL [(x, u), (.dK o kvs, v)] = none := by cases x <;> rfl
  have e3 : s_notinT [(x, u), (.dK o kvs, v)] = none := by cases x <;> rfl
  simp [s_alt, e, e2, e3, s_notinD, h]
theorem p_join {ys : List Str} (h : (ys.map (·.length)).sum + ys.length * a.length ≤ 16777216) : opJoin.sem [(.str a, u), (.lst o (ys.map Val.str), v)] = some (.str (Txt.join a ys), true) := by
  have e : allStr (ys.map Val.str) = some ys := by
    clear h
    induction ys with
    | nil => rfl
    | cons x r ih => simp [allStr, ih]
  have e0 : opJoin.sem = s_joinA := rfl
  rw [e0]
  simp [s_joinA, listOf?, e, h]
theorem p_rcS {o : POp} (h : o.rc = isStrV) : o.rc (.str a) = true := by rw [h]; rfl
end
/-! slices -/
theorem cutL_none {α : Type} (xs : List α) : cutL xs none none = xs := by
  unfold cutL
  simp [HT.sIx]
theorem noOwnL_iff : ∀ {xs : List Val}, noOwnL xs = true ↔ ∀ x ∈ xs, x.noOwn = true
  | [] => by simp [noOwnL]
  | x :: r => by simp [noOwnL, noOwnL_iff (xs := r)]
theorem noOwn_strs : ∀ zs : List Str, noOwnL (zs.map Val.str) = true
  | [] => rfl
  | _ :: r => by simp [noOwnL, Val.noOwn, noOwn_strs r]
theorem mem_cutL {α : Type} {xs : List α} {lo hi : Option Int} {x : α} (h : x ∈ cutL xs lo hi) : x ∈ xs := by
  unfold cutL at h
  exact List.mem_of_mem_drop (List.mem_of_mem_take h)
theorem cutL_len {α : Type} (xs : List α) (lo hi : Option Int) : (cutL xs lo hi).length ≤ xs.length := by
  unfold cutL
  rw [List.length_take, List.length_drop]
  omega
theorem cutL_map {α β : Type} (f : α → β) (xs : List α) (lo hi : Option Int) : cutL (xs.map f) lo hi = (cutL xs lo hi).map f := by
  unfold cutL
  simp [List.map_take, List.map_drop]
theorem noOwn_cutL {xs : List Val} {lo hi : Option Int} (h : noOwnL xs = true) : noOwnL (cutL xs lo hi) = true := noOwnL_iff.mpr fun x hx => noOwnL_iff.mp h x (mem_cutL hx)
theorem noOwn_app {xs ys : List Val} (h : noOwnL xs = true) (h2 : noOwnL ys = true) : noOwnL (xs ++ ys) = true := noOwnL_iff.mpr fun x hx => (List.mem_append.mp hx).elim (noOwnL_iff.mp h x) (noOwnL_iff.mp h2 x)
/-- lists of data -/
theorem good_lst {o : Bool} {xs : List Val} (h : ∀ x ∈ xs, good x.data = true ∧ x.data.depth ≤ 60) : good (Val.lst o xs).data = true ∧ (Val.lst o xs).data.depth ≤ 61 := by
  have key : PyData.canLayAll0 (dataL xs) = true ∧ PyData.depthAll (dataL xs) ≤ 60 := by
    induction xs with
    | nil => exact ⟨rfl, Nat.zero_le _⟩
    | cons x r ih =>
      obtain ⟨h1, h2⟩ := h x (by simp)
      obtain ⟨h3, h4⟩ := ih fun y hy => h y (by simp [hy])
      refine ⟨by simp [dataL, PyData.canLayAll0, good_lay h1, h3], ?_⟩
      simp only [dataL, PyData.depthAll]
      omega
  have hd : (Val.lst o xs).data.depth ≤ 61 := by simp only [Val.data, PyData.depth]; omega
  refine ⟨?_, hd⟩
  unfold good SeqAt.shaped
  simp only [Bool.and_eq_true, decide_eq_true_eq]
  exact ⟨by simpa [Val.data, PyData.canLay0] using key.1, by omega⟩
theorem good_tup {xs : List Val} (h : ∀ x ∈ xs, good x.data = true ∧ x.data.depth ≤ 60) : good (Val.tup xs).data = true ∧ (Val.tup xs).data.depth ≤ 61 := by
  have key : PyData.canLayAll0 (dataL xs) = true ∧ PyData.depthAll (dataL xs) ≤ 60 := by
    induction xs with
    | nil => exact ⟨rfl, Nat.zero_le _⟩
    | cons x r ih =>
      obtain ⟨h1, h2⟩ := h x (by simp)
      obtain ⟨h3, h4⟩ := ih fun y hy => h y (by simp [hy])
      refine ⟨by simp [dataL, PyData.canLayAll0, good_lay h1, h3], ?_⟩
      simp only [dataL, PyData.depthAll]
      omega
  have hd : (Val.tup xs).data.depth ≤ 61 := by simp only [Val.data, PyData.depth]; omega
  refine ⟨?_, hd⟩
  unfold good SeqAt.shaped
  simp only [Bool.and_eq_true, decide_eq_true_eq]
  exact ⟨by simpa [Val.data, PyData.canLay0] using key.1, by omega⟩
theorem good_strs {o : Bool} {zs : List Str} (h : ∀ z ∈ zs, PyData.strOk z = true) : good (Val.lst o (zs.map Val.str)).data = true := (good_lst fun x hx => by
  obtain ⟨z, hz, rfl⟩ := List.mem_map.mp hx
  exact ⟨good_str (h z hz), Nat.zero_le _⟩).1
theorem eqv_strs : ∀ {xs ys : List Str}, PyData.eqvAll (dataL (xs.map Val.str)) (dataL (ys.map Val.str)) = decide (xs = ys)
  | [], [] => rfl
  | [], _ :: _ => rfl
  | _ :: _, [] => rfl
  | x :: r, y :: t => by
    simp only [List.map_cons, dataL, Val.data, PyData.eqvAll, PyData.eqv, eqv_strs]
    by_cases h : x = y <;> simp [h]
end Mn

set_option Elab.async false
set_option maxRecDepth 100000
set_option linter.all false
/-! Mp2: texts and lists as lists of signs, slices of them. -/
namespace Mn
open PySem L2
theorem sIx_pos {n d : Nat} {r : Int} (h : 0 ≤ r) : HT.sIx n d (some r) = min r.toNat n := by
  show (if r < 0 then _ else min r.toNat n) = _
  rw [if_neg (by omega)]
theorem cutL_take {α : Type} {xs : List α} {r : Int} (h : 0 ≤ r) : cutL xs none (some r) = xs.take r.toNat := by
  unfold cutL
  rw [sIx_pos h]
  show ((xs.drop 0).take (min r.toNat xs.length - 0)) = _
  rw [List.drop_zero, Nat.sub_zero, List.take_eq_take_iff]
  omega
theorem cutL_drop {α : Type} {xs : List α} {r : Int} (h : 0 ≤ r) : cutL xs (some r) none = xs.drop r.toNat := by
  unfold cutL
  rw [sIx_pos h]
  show ((xs.drop (min r.toNat xs.length)).take (xs.length - min r.toNat xs.length)) = _
  rw [List.take_of_length_le (by rw [List.length_drop]; omega)]
  by_cases h2 : r.toNat ≤ xs.length
  · rw [Nat.min_eq_left h2]
  · rw [Nat.min_eq_right (by omega), List.drop_length, List.drop_eq_nil_of_le (by omega)]
theorem cutL_mid {α : Type} {xs : List α} {r t : Int} (h : 0 ≤ r) (h2 : 0 ≤ t) : cutL xs (some r) (some t) = (xs.drop r.toNat).take (t.toNat - r.toNat) := by
  unfold cutL
  rw [sIx_pos h, sIx_pos h2]
  by_cases h3 : r.toNat ≤ xs.length
  · rw [Nat.min_eq_left h3, List.take_eq_take_iff, List.length_drop]
    omega
  · rw [List.drop_eq_nil_of_le (by omega : xs.length ≤ min r.toNat xs.length), List.drop_eq_nil_of_le (by omega : xs.length ≤ r.toNat)]
    simp
def tx (z : Str) : List Nat := z.cps.toList
theorem tx_len (z : Str) : (tx z).length = z.length := by unfold tx Str.length; simp
theorem tx_app (a b : Str) : tx (a ++ b) = tx a ++ tx b := by
  show (a.cps ++ b.cps).toList = _
  simp [tx]
theorem tx_one (c : Nat) : tx ⟨#[c]⟩ = [c] := rfl
theorem tx_inj {a b : Str} (h : tx a = tx b) : a = b := PySem.W.str_of_cps h
theorem tx_cut (z : Str) (lo hi : Option Int) : tx (cutS z lo hi) = cutL (tx z) lo hi := by
  unfold tx cutS cutL
  simp [Str.length]
theorem tx_take {z : Str} {r : Int} (h : 0 ≤ r) : tx (cutS z none (some r)) = (tx z).take r.toNat := by rw [tx_cut, cutL_take h]
theorem tx_drop {z : Str} {r : Int} (h : 0 ≤ r) : tx (cutS z (some r) none) = (tx z).drop r.toNat := by rw [tx_cut, cutL_drop h]
theorem tx_ok {z : Str} : PyData.strOk z = true ↔ ∀ c ∈ tx z, c < 0x110000 := ok_iff
theorem tx_mem {z : Str} {i : Nat} (h : i < z.cps.toList.length) : z.cps.toList[i] ∈ tx z := List.getElem_mem h
theorem nil_len : Str.length (Str.ofString "") = 0 := by decide +kernel
theorem tx_nil : tx (Str.ofString "") = [] := by decide +kernel
theorem eq_nil {z : Str} : z = Str.ofString "" ↔ z.length = 0 := by
  constructor
  · rintro rfl; exact nil_len
  · intro h
    apply tx_inj
    rw [tx_nil]
    exact List.eq_nil_of_length_eq_zero (by rw [tx_len]; exact h)
theorem tx_join : ∀ (ys : List Str), tx (Txt.join (Str.ofString "") ys) = (ys.map tx).flatten
  | [] => rfl
  | y :: r => by
    have go : ∀ (r : List Str) (acc : Array Nat), (r.foldl (fun acc p => acc ++ (Str.ofString "").cps ++ p.cps) acc).toList = acc.toList ++ (r.map tx).flatten := by
      intro r
      induction r with
      | nil => simp
      | cons a r ih =>
        intro acc
        rw [List.foldl_cons, ih]
        have e : (Str.ofString "").cps = #[] := by decide +kernel
        simp [e, tx]
    show (r.foldl (fun acc p => acc ++ (Str.ofString "").cps ++ p.cps) y.cps).toList = _
    rw [go]
    simp [tx]
theorem strs_of {P : Str → Prop} : ∀ {ys : List Val}, (∀ y ∈ ys, ∃ z : Str, y = .str z ∧ P z) → ∃ zs : List Str, ys = zs.map Val.str ∧ ∀ z ∈ zs, P z
  | [], _ => ⟨[], rfl, nofun⟩
  | y :: r, h => by
    obtain ⟨z, rfl, hz⟩ := h y (by simp)
    obtain ⟨zs, rfl, hs⟩ := strs_of (ys := r) fun x hx => h x (by simp [hx])
    exact ⟨z :: zs, rfl, fun x hx => (List.mem_cons.mp hx).elim (fun e => e ▸ hz) (hs x)⟩
theorem strs_get {zs : List Str} {i : Nat} (h : i < (zs.map Val.str).length) : (zs.map Val.str)[i] = Val.str (zs[i]'(by simpa using h)) := by simp
end Mn

set_option Elab.async false
set_option maxRecDepth 100000
set_option linter.all false
/-! Mp3: texts sorted, each once; dicts as sets of texts. -/
namespace Mn
open PySem L2
def leS (a b : Str) : Bool := decide (tx a ≤ tx b)
def onceS : List Str → List Str
  | [] => []
  | x :: r => if x ∈ onceS r then onceS r else x :: onceS r
theorem onceS_mem {y : Str} : ∀ {L : List Str}, y ∈ onceS L ↔ y ∈ L
  | [] => Iff.rfl
  | x :: r => by
    unfold onceS
    split
    · rename_i h
      rw [onceS_mem, List.mem_cons]
      exact ⟨.inr, fun q => q.elim (fun e => e ▸ onceS_mem.mp h) id⟩
    · rw [List.mem_cons, List.mem_cons, onceS_mem]
theorem onceS_nd : ∀ L : List Str, (onceS L).Nodup
  | [] => List.nodup_nil
  | x :: r => by
    unfold onceS
    split
    · exact onceS_nd r
    · exact List.nodup_cons.mpr ⟨by assumption, onceS_nd r⟩
theorem onceS_len : ∀ L : List Str, (onceS L).length ≤ L.length
  | [] => Nat.le_refl _
  | x :: r => by
    have := onceS_len r
    unfold onceS
    split
    · simp; omega
    · simp; omega
theorem onceK_strs : ∀ L : List Str, onceK (L.map Sum.inr) = (onceS L).map Sum.inr
  | [] => rfl
  | x :: r => by
    show addK (.inr x) (onceK (r.map Sum.inr)) = _
    rw [onceK_strs r]
    have e : onceS (x :: r) = if x ∈ onceS r then onceS r else x :: onceS r := rfl
    rw [e]
    generalize onceS r = L
    unfold addK
    by_cases h : x ∈ L
    · rw [if_pos h, hasK_t.2 (List.mem_map_of_mem h)]; rfl
    · rw [if_neg h, hasK_f (by simpa using h)]; rfl
def sortS (L : List Str) : List Str := L.mergeSort leS
/-- sorted, each once -/
def usort (L : List Str) : List Str := sortS (onceS L)
theorem sortV_strs (L : List Str) : sortV (L.map Val.str) = (sortS L).map Val.str := by
  unfold sortV sortS
  exact (List.map_mergeSort fun a _ b _ => (leV_str a b).symm).symm
theorem keys_strs : ∀ L : List Str, keys? (L.map Val.str) = some (L.map Sum.inr)
  | [] => rfl
  | x :: r => by simp [keys?, Val.key?, keys_strs r]
theorem strKeys_same (L : List Str) : sameKb (L.map Sum.inr) = true := by
  unfold sameKb
  rw [Bool.or_eq_true]
  right
  rw [List.all_eq_true]
  intro k hk
  obtain ⟨x, _, rfl⟩ := List.mem_map.mp hk
  rfl
theorem sset_strs {v : Val} {L : List Str} {u : Bool} (hv : listOf? v = some (L.map Val.str)) (h : L.length < 4000) : s_sset [(v, u)] = some (.lst true ((usort L).map Val.str), true) := by
  have e : seqKeys? v = some (L.map Sum.inr) := by unfold seqKeys?; rw [hv]; exact keys_strs L
  simp only [s_sset, e, Option.bind_some]
  rw [strKeys_same, List.length_map, decide_eq_true h, onceK_strs, List.map_map]
  show (if (true && true) = true then some (Val.lst true (sortV ((onceS L).map Val.str)), true) else none) = _
  rw [sortV_strs]; rfl
theorem p_sset {L : List Str} {o u : Bool} {p q : Pos} (h : L.length < 4000) : (opSortSet p q).sem [(.lst o (L.map Val.str), u)] = some (.lst true ((usort L).map Val.str), true) := sset_strs (u := u) rfl h
theorem p_ssetT {L : List Str} {u : Bool} {p q : Pos} (h : L.length < 4000) : (opSortSet p q).sem [(.tup (L.map Val.str), u)] = some (.lst true ((usort L).map Val.str), true) := sset_strs (u := u) rfl h
theorem small_line {n : Nat} (h : n ≤ 1000000) : n ≤ sizeLine := Nat.le_trans h big_line
theorem q_nil : Op.lst.sem [] = some (.lst true [], true) := rfl
theorem p_rcSS {p q : Pos} {v : Val} : (opSortSet p q).rc v = true := rfl
theorem p_rcLS {p q : Pos} {v : Val} : (opLenSet p q).rc v = true := rfl
theorem p_rcSD {v : Val} : opSorted.rc v = true := rfl
theorem leS_trans (a b c : Str) (h1 : leS a b = true) (h2 : leS b c = true) : leS a c = true := by
  unfold leS at *
  simp only [decide_eq_true_eq] at *
  exact List.le_trans h1 h2
theorem leS_total (a b : Str) : (leS a b || leS b a) = true := by
  unfold leS
  simp only [Bool.or_eq_true, decide_eq_true_eq]
  exact List.le_total _ _
theorem sortS_perm (L : List Str) : (sortS L).Perm L := List.mergeSort_perm _ _
theorem sortS_pw (L : List Str) : (sortS L).Pairwise fun a b => leS a b = true := List.pairwise_mergeSort leS_trans leS_total L
theorem leS_anti {a b : Str} (h1 : leS a b = true) (h2 : leS b a = true) : a = b := by
  unfold leS at *
  simp only [decide_eq_true_eq] at *
  exact tx_inj (List.le_antisymm h1 h2)
theorem sortS_eq {L M : List Str} (p : L.Perm M) : sortS L = sortS M :=
  List.Perm.eq_of_pairwise (le := fun a b => leS a b = true) (fun a b _ _ h1 h2 => leS_anti h1 h2) (sortS_pw L) (sortS_pw M) (((sortS_perm L).trans p).trans (sortS_perm M).symm)
theorem usort_mem {L : List Str} {x : Str} : x ∈ usort L ↔ x ∈ L := (sortS_perm _).mem_iff.trans onceS_mem
theorem usort_nd (L : List Str) : (usort L).Nodup := (sortS_perm _).nodup_iff.mpr (onceS_nd L)
theorem usort_len (L : List Str) : (usort L).length ≤ L.length := by
  unfold usort
  rw [(sortS_perm _).length_eq]; exact onceS_len L
theorem usort_eq {L M : List Str} (h : ∀ x, x ∈ L ↔ x ∈ M) : usort L = usort M :=
  sortS_eq ((List.perm_ext_iff_of_nodup (onceS_nd L) (onceS_nd M)).mpr fun x => by rw [onceS_mem, onceS_mem, h])
theorem sortS_nd {L : List Str} (h : L.Nodup) : sortS L = usort L := sortS_eq ((List.perm_ext_iff_of_nodup h (onceS_nd L)).mpr fun x => onceS_mem.symm)
theorem lt_of_le_ne {a b : Str} (h : leS a b = true) (hn : a ≠ b) : tx a < tx b := by
  unfold leS at h
  simp only [decide_eq_true_eq] at h
  rcases Classical.em (tx a < tx b) with z | z
  · exact z
  · exact absurd (tx_inj (List.le_antisymm h (List.not_lt.mp z))) hn
theorem usort_pw (L : List Str) : (usort L).Pairwise fun a b => tx a < tx b := by
  have h1 := sortS_pw (onceS L)
  have h2 : (sortS (onceS L)).Nodup := usort_nd L
  exact (h1.and h2).imp fun ⟨a, b⟩ => lt_of_le_ne a b
theorem eqv_lstS {xs ys : List Str} {o o' : Bool} : PyData.eqv (Val.lst o (xs.map Val.str)).data (Val.lst o' (ys.map Val.str)).data = decide (xs = ys) := eqv_strs
theorem q_neLS {xs ys : List Str} {o o' u v : Bool} (h1 : ∀ z ∈ xs, PyData.strOk z = true) (h2 : ∀ z ∈ ys, PyData.strOk z = true) : Op.ne.sem [(.lst o (xs.map Val.str), u), (.lst o' (ys.map Val.str), v)] = some (.bl (!decide (xs = ys)), true) := by
  rw [q_neD (good_strs h1) (good_strs h2), eqv_lstS]
theorem q_eqLS {xs ys : List Str} {o o' u v : Bool} (h1 : ∀ z ∈ xs, PyData.strOk z = true) (h2 : ∀ z ∈ ys, PyData.strOk z = true) : Op.eq.sem [(.lst o (xs.map Val.str), u), (.lst o' (ys.map Val.str), v)] = some (.bl (decide (xs = ys)), true) := by
  rw [q_eqD (good_strs h1) (good_strs h2), eqv_lstS]
theorem frzL_strs : ∀ zs : List Str, frzL (zs.map Val.str) = zs.map Val.str
  | [] => rfl
  | _ :: r => by simp [frzL, Val.frz, frzL_strs r]
/-! texts of one sign -/
theorem lt_one {c d : Nat} : ([c] : List Nat) < [d] ↔ c < d := by
  rw [List.cons_lt_cons_iff]
  simp
def dset (zs : List Str) : List (Key × Val) := zs.map fun z => ((Sum.inr z : Key), Val.bl true)
theorem dset_any {zs : List Str} {z : Str} : ((dset zs).any fun kv => decide (kv.1 = (Sum.inr z : Key))) = decide (z ∈ zs) := by
  unfold dset
  rw [List.any_map]
  by_cases h : z ∈ zs
  · rw [decide_eq_true h, List.any_eq_true]
    exact ⟨z, h, by simp⟩
  · rw [decide_eq_false h, List.any_eq_false]
    intro x hx e
    simp at e
    exact h (e ▸ hx)
theorem dset_pk {zs : List Str} {z : Str} : pk (dset zs) (Sum.inr z : Key) (.bl true) = dset (if z ∈ zs then zs else zs ++ [z]) := by
  unfold pk
  rw [dset_any]
  by_cases h : z ∈ zs
  · rw [if_pos (decide_eq_true h), if_pos h]
    unfold dset
    rw [List.map_map]
    refine List.map_congr_left fun x hx => ?_
    show (if (Sum.inr x : Key) = Sum.inr z then ((Sum.inr x : Key), Val.bl true) else ((Sum.inr x : Key), Val.bl true)) = _
    split <;> rfl
  · rw [if_neg (by simpa using h), if_neg h]
    unfold dset
    rw [List.map_append]; rfl
theorem dset_keys (zs : List Str) : ((dset zs).map fun kv => keyV kv.1) = zs.map Val.str := by
  unfold dset
  rw [List.map_map]; rfl
theorem dset_len (zs : List Str) : (dset zs).length = zs.length := by simp [dset]
theorem dset_lk {zs : List Str} {z : Str} : (lk (dset zs) (Sum.inr z : Key)).isSome = decide (z ∈ zs) := by
  unfold lk
  rw [Option.isSome_map, ← dset_any, Bool.eq_iff_iff, List.find?_isSome, List.any_eq_true]
theorem st_dset {zs : List Str} {z : Str} (h : zs.length < sizeLine) : stDv (.dK true (dset zs)) (.str z) (.bl true) = some (.dK true (dset (if z ∈ zs then zs else zs ++ [z]))) := by
  have h' : (dset zs).length < sizeLine := by rw [dset_len]; exact h
  simp only [stDv, Val.key?, Option.bind_some, h', decide_true, Val.noOwn, Bool.and_self, if_true]
  rw [dset_pk]
theorem strKeys_dset : ∀ zs : List Str, strKeys? (dset zs) = some zs
  | [] => rfl
  | z :: r => by
    show (strKeys? (dset r)).map (z :: ·) = _
    rw [strKeys_dset r]; rfl
/-- sorted of a dict whose keys are texts -/
theorem p_sortD {zs : List Str} {o u : Bool} (h : zs.length < 64) : opSorted.sem [(.dK o (dset zs), u)] = some (.lst true ((sortS zs).map Val.str), true) := by
  have e0 : opSorted.sem = s_srt := rfl
  rw [e0]
  simp only [s_srt, strKeys_dset, Option.bind_some, h, if_true]
  rw [sortV_strs]
theorem srtOk_strs {zs : List Str} (h : ∀ z ∈ zs, PyData.strOk z = true) : srtOk (zs.map Val.str) = true := by
  unfold srtOk
  simp only [Bool.and_eq_true, Bool.or_eq_true, List.all_eq_true, decide_eq_true_eq]
  refine ⟨⟨⟨noOwn_strs zs, fun x hx => ?_⟩, fun x hx y hy => ?_⟩, .inr fun x hx => ?_⟩
  · obtain ⟨z, hz, rfl⟩ := List.mem_map.mp hx
    exact ⟨good_str (h z hz), Nat.zero_le _⟩
  · obtain ⟨z, _, rfl⟩ := List.mem_map.mp hx
    obtain ⟨w, _, rfl⟩ := List.mem_map.mp hy
    rfl
  · obtain ⟨z, _, rfl⟩ := List.mem_map.mp hx
    rfl
theorem p_sortL {zs : List Str} {o u : Bool} (h : ∀ z ∈ zs, PyData.strOk z = true) : opSorted.sem [(.lst o (zs.map Val.str), u)] = some (.lst true ((sortS zs).map Val.str), true) := by
  have e0 : opSorted.sem = s_srt := rfl
  rw [e0]
  simp only [s_srt, srtOk_strs h, if_true]
  rw [sortV_strs]
end Mn

set_option Elab.async false
set_option maxRecDepth 100000
set_option linter.all false
/-! Mp4: loops by their items, members of rows of texts. -/
namespace Mn
open PySem L2
variable {xs ys : List Val} {x : Val} {o u v : Bool}
theorem forGo_ix {bt : Val → Env → Option Env} {b : Env → R (Option Val × Env)} (Inv : Nat → Env → Prop) : ∀ {items : List Val} {i : Nat} {env : Env},
    (∀ (j : Nat) (x : Val) (env : Env), items[j]? = some x → Inv (i + j) env → ∃ env1 env2, bt x env = some env1 ∧ b env1 = .ok (none, env2) ∧ Inv (i + j + 1) env2) → Inv i env →
    ∃ envF, forGo bt b items env = .ok (none, envF) ∧ Inv (i + items.length) envF
  | [], i, env, _, h => ⟨env, rfl, h⟩
  | x :: r, i, env, hs, h => by
    obtain ⟨env1, env2, e1, e2, hi⟩ := hs 0 x env rfl h
    obtain ⟨envF, q1, q2⟩ := forGo_ix Inv (items := r) (i := i + 1) (env := env2) (fun j z en hj hz => by
      have := hs (j + 1) z en (by simpa using hj) (by rw [show i + (j + 1) = i + 1 + j by omega]; exact hz)
      rw [show i + (j + 1) + 1 = i + 1 + j + 1 by omega] at this
      exact this) hi
    exact ⟨envF, by simp only [forGo, e1, e2, q1], by rw [List.length_cons, show i + (r.length + 1) = i + 1 + r.length by omega]; exact q2⟩
/-- a loop over rows as a fold -/
theorem forGo_fold {σ α : Type} {bt : Val → Env → Option Env} {b : Env → R (Option Val × Env)} (E : σ → Env → Prop) (f : σ → α → σ) (g : α → Val) : ∀ {as : List α} {s : σ} {env : Env},
    (∀ a ∈ as, ∀ s env, E s env → ∃ env1 env2, bt (g a) env = some env1 ∧ b env1 = .ok (none, env2) ∧ E (f s a) env2) → E s env →
    ∃ envF, forGo bt b (as.map g) env = .ok (none, envF) ∧ E (as.foldl f s) envF
  | [], s, env, _, h => ⟨env, rfl, h⟩
  | a :: r, s, env, hs, h => by
    obtain ⟨env1, env2, e1, e2, hi⟩ := hs a (by simp) s env h
    obtain ⟨envF, q1, q2⟩ := forGo_fold E f g (as := r) (s := f s a) (env := env2) (fun z hz => hs z (by simp [hz])) hi
    exact ⟨envF, by simp only [List.map_cons, forGo, e1, e2, q1], q2⟩
theorem whileGo_rel {c : Env → R (Bool × Env)} {b : Env → R (Option Val × Env)} (I : Nat → Env → Prop) (Q : Env → Prop)
    (step : ∀ k env, I k env → (∃ env1 env2 k', c env = .ok (true, env1) ∧ b env1 = .ok (none, env2) ∧ I k' env2 ∧ k' < k) ∨ (∃ env1, c env = .ok (false, env1) ∧ Q env1)) :
    ∀ {n k : Nat} {env : Env}, I k env → k < n → ∃ envF, whileGo c b n env = .ok (none, envF) ∧ Q envF
  | 0, _, _, _, h => absurd h (by omega)
  | n + 1, k, env, hI, hk => by
    rcases step k env hI with ⟨env1, env2, k', e1, e2, hi, hl⟩ | ⟨env1, e1, hq⟩
    · obtain ⟨envF, q1, q2⟩ := whileGo_rel I Q step (n := n) hi (by omega)
      exact ⟨envF, by simp only [whileGo, e1, e2, q1], q2⟩
    · exact ⟨env1, by simp only [whileGo, e1], hq⟩
/-- a loop over rows that ends at the first turn that returns -/
theorem forGo_ret {bt : Val → Env → Option Env} {b : Env → R (Option Val × Env)} (I : Env → Prop) (y : Val) (J : Env → Prop) (hit : Val → Prop) [DecidablePred hit] : ∀ {items : List Val} {env : Env},
    (∀ x ∈ items, ∀ env, I env → (¬ hit x → ∃ env1 env2, bt x env = some env1 ∧ b env1 = .ok (none, env2) ∧ I env2) ∧ (hit x → ∃ env1 env2, bt x env = some env1 ∧ b env1 = .ok (some y, env2) ∧ J env2)) → I env →
    (∃ envF, (∀ x ∈ items, ¬ hit x) ∧ forGo bt b items env = .ok (none, envF) ∧ I envF) ∨ (∃ envF, (∃ x ∈ items, hit x) ∧ forGo bt b items env = .ok (some y, envF) ∧ J envF)
  | [], env, _, h => .inl ⟨env, nofun, rfl, h⟩
  | x :: r, env, hs, h => by
    obtain ⟨h1, h2⟩ := hs x (by simp) env h
    by_cases c : hit x
    · obtain ⟨env1, env2, e1, e2, hj⟩ := h2 c
      exact .inr ⟨env2, ⟨x, by simp, c⟩, by simp only [forGo, e1, e2], hj⟩
    · obtain ⟨env1, env2, e1, e2, hi⟩ := h1 c
      rcases forGo_ret I y J hit (items := r) (env := env2) (fun z hz => hs z (by simp [hz])) hi with ⟨envF, q0, q1, q2⟩ | ⟨envF, ⟨z, hz, q0⟩, q1, q2⟩
      · exact .inl ⟨envF, fun z hz => (List.mem_cons.mp hz).elim (fun e => e ▸ c) (q0 z), by simp only [forGo, e1, e2, q1], q2⟩
      · exact .inr ⟨envF, ⟨z, by simp [hz], q0⟩, by simp only [forGo, e1, e2, q1], q2⟩
theorem atI_last {α : Type} {xs : List α} (h : xs ≠ []) : atI xs (-1) = some (xs[xs.length - 1]'(by have := List.length_pos_iff.mpr h; omega)) := by
  have h2 := List.length_pos_iff.mpr h
  have e1 : ¬ (0 : Int) ≤ -1 := by decide
  have e2 : (-1 : Int) + (xs.length : Int) = ((xs.length - 1 : Nat) : Int) := by omega
  have e3 : (1 : Int) ≤ (xs.length : Int) := by omega
  simp [atI, ixN, e2, e3, h2]
theorem q_ixLm (h : xs ≠ []) : ixO.sem [(.lst o xs, u), (.int (-1), v)] = some (xs[xs.length - 1]'(by have := List.length_pos_iff.mpr h; omega), false) := by
  show s_alt s_ix s_dix _ = _
  simp [s_alt, s_ix, atI_last h]
theorem q_ninT (h1 : isFlat x = true) (h2 : ys.all isFlat = true) : ninO.sem [(x, u), (.tup ys, v)] = some (.bl (!ys.any fun z => PyData.eqv z.data x.data), true) := by
  show s_alt s_notinS (s_alt s_notinL (s_alt s_notinT s_notinD)) _ = _
  have e : s_notinS [(x, u), (.tup ys, v)] = none := by cases x <;> rfl
  have e2 : s_notinL [(x, u), (.tup ys, v)] = none := by cases x <;> rfl
  simp [s_alt, e, e2, s_notinT, h1, h2]
theorem any_strs {z : Str} : ∀ {zs : List Str}, ((dataL (zs.map Val.str)).any fun d => PyData.eqv d (Val.str z).data) = decide (z ∈ zs)
  | [] => rfl
  | y :: r => by
    have e : PyData.eqv (Val.str y).data (Val.str z).data = decide (y = z) := beq_str
    simp only [List.map_cons, dataL, List.any_cons, e, any_strs (zs := r), List.mem_cons]
    by_cases c : y = z
    · simp [c]
    · simp [c, Ne.symm c]
theorem q_inLS {z : Str} {zs : List Str} (h1 : PyData.strOk z = true) (h2 : ∀ y ∈ zs, PyData.strOk y = true) : inO.sem [(.str z, u), (.lst o (zs.map Val.str), v)] = some (.bl (decide (z ∈ zs)), true) := by
  rw [q_inL (good_str h1) (good_strs h2), any_strs]
theorem q_ninLS {z : Str} {zs : List Str} (h1 : PyData.strOk z = true) (h2 : ∀ y ∈ zs, PyData.strOk y = true) : ninO.sem [(.str z, u), (.lst o (zs.map Val.str), v)] = some (.bl (!decide (z ∈ zs)), true) := by
  rw [q_ninL (good_str h1) (good_strs h2), any_strs]
theorem any_tupS {z : Str} : ∀ {zs : List Str}, ((zs.map Val.str).any fun y => PyData.eqv y.data (Val.str z).data) = decide (z ∈ zs)
  | [] => rfl
  | y :: r => by
    have e : PyData.eqv (Val.str y).data (Val.str z).data = decide (y = z) := beq_str
    simp only [List.map_cons, List.any_cons, e, any_tupS (zs := r), List.mem_cons]
    by_cases c : y = z
    · simp [c]
    · simp [c, Ne.symm c]
theorem flat_strs (zs : List Str) : (zs.map Val.str).all isFlat = true := by
  rw [List.all_eq_true]
  intro x hx
  obtain ⟨z, _, rfl⟩ := List.mem_map.mp hx
  rfl
theorem q_inTS {z : Str} {zs : List Str} : inO.sem [(.str z, u), (.tup (zs.map Val.str), v)] = some (.bl (decide (z ∈ zs)), true) := by
  rw [q_inT rfl (flat_strs zs), any_tupS]
theorem q_ninTS {z : Str} {zs : List Str} : ninO.sem [(.str z, u), (.tup (zs.map Val.str), v)] = some (.bl (!decide (z ∈ zs)), true) := by
  rw [q_ninT rfl (flat_strs zs), any_tupS]
theorem q_inDS {z : Str} {zs : List Str} : inO.sem [(.str z, u), (.dK o (dset zs), v)] = some (.bl (decide (z ∈ zs)), true) := by
  rw [q_inD (k := Sum.inr z) rfl, dset_lk]
theorem q_ninDS {z : Str} {zs : List Str} : ninO.sem [(.str z, u), (.dK o (dset zs), v)] = some (.bl (!decide (z ∈ zs)), true) := by
  rw [q_ninD (k := Sum.inr z) rfl, dset_lk]
theorem allB_bl {α : Type} {p : α → Bool} : ∀ {l : List α}, allB (l.map fun a => Val.bl (p a)) = some (l.map p)
  | [] => rfl
  | a :: r => by simp only [List.map_cons, allB, allB_bl (l := r), Option.map_some]
theorem q_allP {α : Type} {p : α → Bool} {l : List α} : Op.all.sem [(.lst o (l.map fun a => Val.bl (p a)), u)] = some (.bl (l.all p), true) := by
  rw [q_all, allB_bl]; simp [List.all_map, Function.comp_def]
theorem q_anyP {α : Type} {p : α → Bool} {l : List α} : Op.any.sem [(.lst o (l.map fun a => Val.bl (p a)), u)] = some (.bl (l.any p), true) := by
  rw [q_any, allB_bl]; simp [List.any_map, Function.comp_def]
theorem nodup_len {α : Type} [DecidableEq α] : ∀ {l m : List α}, l.Nodup → (∀ x ∈ l, x ∈ m) → l.length ≤ m.length
  | [], _, _, _ => Nat.zero_le _
  | a :: r, m, hn, hs => by
    obtain ⟨h1, h2⟩ := List.nodup_cons.mp hn
    have ha := hs a (by simp)
    have := nodup_len (l := r) (m := m.erase a) h2 fun x hx => (List.mem_erase_of_ne (by rintro rfl; exact h1 hx)).mpr (hs x (by simp [hx]))
    rw [List.length_erase_of_mem ha] at this
    have := List.length_pos_of_mem ha
    simp only [List.length_cons]
    omega
/-- a comprehension over rows of any data -/
theorem lcGo_as {α : Type} {vs : List Nat} {bt : Val → Mn.Env → Option Mn.Env} {c : Mn.Env → R (Bool × Mn.Env)} {f : Mn.Env → R (Val × Bool × Mn.Env)} {E : Mn.Env} (h : α → Val) (p : α → Bool) (g : α → Val) : ∀ {as : List α},
    (∀ a ∈ as, ∃ env1 env2, bt (h a) (wipeE E vs) = some env1 ∧ c env1 = .ok (p a, env2) ∧ (p a = true → ∃ u env3, f env2 = .ok (g a, u, env3) ∧ storable (g a) u = true ∧ wipeE env3 vs = E) ∧ (p a = false → wipeE env2 vs = E)) →
    lcGo vs bt c f (as.map h) E = .ok ((as.filter p).map g, E)
  | [], _ => rfl
  | a :: r, hs => by
    obtain ⟨env1, env2, e1, e2, e3, e4⟩ := hs a (by simp)
    have ih := lcGo_as h p g (as := r) fun z hz => hs z (by simp [hz])
    cases hp : p a with
    | true =>
      obtain ⟨u, env3, q1, q2, q3⟩ := e3 hp
      simp only [List.map_cons, lcGo, e1, e2, hp, q1, q2, q3, ih, if_true, List.filter_cons]
    | false => simp only [List.map_cons, lcGo, e1, e2, hp, e4 hp, ih, List.filter_cons]; rfl
theorem eqL_nil {zs : List Str} {o' : Bool} (h : ∀ z ∈ zs, PyData.strOk z = true) : Op.eq.sem [(.lst o (zs.map Val.str), u), (.lst o' [], v)] = some (.bl (decide (zs = [])), true) := q_eqLS (ys := []) h nofun
theorem neL_nil {zs : List Str} {o' : Bool} (h : ∀ z ∈ zs, PyData.strOk z = true) : Op.ne.sem [(.lst o (zs.map Val.str), u), (.lst o' [], v)] = some (.bl (!decide (zs = [])), true) := q_neLS (ys := []) h nofun
theorem eqL_nn {o' : Bool} : Op.eq.sem [(.lst o [], u), (.lst o' [], v)] = some (.bl true, true) := q_eqLS (xs := []) (ys := []) nofun nofun
theorem neL_nn {o' : Bool} : Op.ne.sem [(.lst o [], u), (.lst o' [], v)] = some (.bl false, true) := q_neLS (xs := []) (ys := []) nofun nofun
/-! statements one by one -/
theorem exL_step {T : Tbl} {s : MS} {ss : List MS} {env env1 : Mn.Env} (h : exS T s env = .ok (none, env1)) : exL T (s :: ss) env = exL T ss env1 := by simp only [exL, h]
theorem exL_end {T : Tbl} {s : MS} {ss : List MS} {env env1 : Mn.Env} {y : Val} (h : exS T s env = .ok (some y, env1)) : exL T (s :: ss) env = .ok (some y, env1) := by simp only [exL, h]
theorem exL_nil {T : Tbl} {env : Mn.Env} : exL T [] env = .ok (none, env) := by simp only [exL]
theorem run_ret {d : Def} {T : Tbl} {xs : List Val} {env0 env : Mn.Env} {y : Val} (h : xs.length = d.np) (h0 : xs.map some ++ List.replicate (d.ns - d.np) none = env0) (e : exL T d.body env0 = .ok (some y, env)) : d.run T xs = .ok y (d.outs env) := by
  unfold Def.run
  rw [if_pos h, h0, e]
end Mn

set_option Elab.async false
set_option maxRecDepth 100000
set_option linter.all false
/-! Mp5: dicts of lists of texts. -/
namespace Mn
open PySem L2
variable {o u v : Bool}
def dl (g : List (Str × List Str)) : List (Key × Val) := g.map fun p => ((Sum.inr p.1 : Key), Val.lst false (p.2.map Val.str))
theorem dl_any {z : Str} : ∀ {g : List (Str × List Str)}, ((dl g).any fun kv => decide (kv.1 = (Sum.inr z : Key))) = decide (z ∈ g.map (·.1))
  | [] => rfl
  | p :: r => by
    have ih := dl_any (z := z) (g := r)
    unfold dl at ih ⊢
    simp only [List.map_cons, List.any_cons, ih, List.mem_cons]
    by_cases c : p.1 = z
    · simp [c]
    · simp [c, Ne.symm c]
theorem dl_pk {g : List (Str × List Str)} {n : Str} {l : List Str} (h : ¬ n ∈ g.map (·.1)) : pk (dl g) (Sum.inr n : Key) (.lst false (l.map Val.str)) = dl (g ++ [(n, l)]) := by
  unfold pk
  rw [dl_any, if_neg (by simpa using h)]
  unfold dl
  rw [List.map_append]; rfl
theorem st_dl {g : List (Str × List Str)} {n : Str} {l : List Str} (h : ¬ n ∈ g.map (·.1)) (hl : g.length < sizeLine) : stDv (.dK true (dl g)) (.str n) (.lst false (l.map Val.str)) = some (.dK true (dl (g ++ [(n, l)]))) := by
  have e : (dl g).length = g.length := by simp [dl]
  have e2 : (Val.lst false (l.map Val.str)).noOwn = true := by simp [Val.noOwn, noOwn_strs]
  simp only [stDv, Val.key?, Option.bind_some, e, hl, e2, decide_true, Bool.and_self, if_true, dl_pk h]
theorem dl_lk {n : Str} {l : List Str} : ∀ {g : List (Str × List Str)}, (n, l) ∈ g → (g.map (·.1)).Nodup → lk (dl g) (Sum.inr n : Key) = some (.lst false (l.map Val.str))
  | [], h, _ => by cases h
  | p :: r, h, nd => by
    simp only [List.map_cons, List.nodup_cons] at nd
    by_cases c : p.1 = n
    · have hp : p = (n, l) := by
        rcases List.mem_cons.mp h with e | e
        · exact e.symm
        · exact absurd (List.mem_map.mpr ⟨(n, l), e, c.symm⟩) nd.1
      subst hp
      simp [dl, lk, List.find?_cons]
    · have hr : (n, l) ∈ r := by
        rcases List.mem_cons.mp h with e | e
        · rw [← e] at c; exact absurd rfl c
        · exact e
      have ih := dl_lk hr nd.2
      unfold lk dl at ih ⊢
      rw [List.map_cons, List.find?_cons_of_neg (by simpa using c)]
      exact ih
theorem q_ixdl {g : List (Str × List Str)} {n : Str} {l : List Str} (h : (n, l) ∈ g) (nd : (g.map (·.1)).Nodup) : ixO.sem [(.dK o (dl g), u), (.str n, v)] = some (.lst false (l.map Val.str), false) := q_ixD (k := Sum.inr n) rfl (dl_lk h nd)
theorem lk_none {κ : Type} [DecidableEq κ] {kvs : List (κ × Val)} {k : κ} : (lk kvs k).isSome = kvs.any fun kv => decide (kv.1 = k) := by
  unfold lk
  rw [Option.isSome_map, Bool.eq_iff_iff, List.find?_isSome, List.any_eq_true]
theorem q_ninDl {g : List (Str × List Str)} {z : Str} : ninO.sem [(.str z, u), (.dK o (dl g), v)] = some (.bl (!decide (z ∈ g.map (·.1))), true) := by
  rw [q_ninD (k := Sum.inr z) rfl, lk_none, dl_any]
theorem q_inDl {g : List (Str × List Str)} {z : Str} : inO.sem [(.str z, u), (.dK o (dl g), v)] = some (.bl (decide (z ∈ g.map (·.1))), true) := by
  rw [q_inD (k := Sum.inr z) rfl, lk_none, dl_any]
theorem strKeys_dl : ∀ g : List (Str × List Str), strKeys? (dl g) = some (g.map (·.1))
  | [] => rfl
  | p :: r => by
    have ih := strKeys_dl r
    unfold dl at ih ⊢
    simp only [List.map_cons, strKeys?, ih, Option.map_some]
theorem p_sortDl {g : List (Str × List Str)} (h : g.length < 64) : opSorted.sem [(.dK o (dl g), u)] = some (.lst true ((sortS (g.map (·.1))).map Val.str), true) := by
  have e0 : opSorted.sem = s_srt := rfl
  rw [e0]
  have hl : (g.map (·.1)).length < 64 := by simpa using h
  simp only [s_srt, strKeys_dl, Option.bind_some, if_pos hl]
  rw [sortV_strs]
theorem dl_keys (g : List (Str × List Str)) : ((dl g).map fun kv => keyV kv.1) = (g.map (·.1)).map Val.str := by
  unfold dl
  rw [List.map_map, List.map_map]; rfl
theorem q_listDl {g : List (Str × List Str)} : listO.sem [(.dK o (dl g), u)] = some (.lst true ((g.map (·.1)).map Val.str), true) := by
  rw [q_listD, dl_keys]
theorem dl_len (g : List (Str × List Str)) : (dl g).length = g.length := by simp [dl]
theorem dl_frz : ∀ g : List (Str × List Str), frzK (dl g) = dl g
  | [] => rfl
  | p :: r => by
    have ih := dl_frz r
    unfold dl at ih ⊢
    simp only [List.map_cons, frzK, ih, Val.frz, frzL_strs]
theorem dl_noOwn : ∀ g : List (Str × List Str), noOwnK (dl g) = true
  | [] => rfl
  | p :: r => by
    have ih := dl_noOwn r
    unfold dl at ih ⊢
    simp only [List.map_cons, noOwnK, ih, Val.noOwn, noOwn_strs]
    rfl
/-! index of texts -/
theorem allStr_strs : ∀ zs : List Str, allStr (zs.map Val.str) = some zs
  | [] => rfl
  | z :: r => by simp only [List.map_cons, allStr, allStr_strs r, Option.map_some]
theorem q_idx {zs : List Str} {z : Str} (h : z ∈ zs) (hl : zs.length < 1000000) : opIndex.sem [(.lst o (zs.map Val.str), u), (.str z, v)] = some (.int (idxS zs z : Nat), true) := by
  have e0 : opIndex.sem = s_idx := rfl
  rw [e0]
  simp only [s_idx, allStr_strs, Option.bind_some, if_pos (⟨h, hl⟩ : z ∈ zs ∧ zs.length < 1000000)]
theorem p_rcIdx {xs : List Val} : opIndex.rc (.lst o xs) = true := rfl
theorem idxS_lt {z : Str} {zs : List Str} (h : z ∈ zs) : idxS zs z < zs.length := by
  obtain ⟨h1, _⟩ := idx_first h
  exact (List.getElem?_eq_some_iff.mp h1).1
theorem q_rem {zs : List Str} {z : Str} (h : z ∈ zs) : opRemove.sem (.lst true (zs.map Val.str)) [(.str z, v)] = some (.lst true ((zs.eraseIdx (idxS zs z)).map Val.str), .non, true) := by
  have e0 : opRemove.sem = s_rem := rfl
  rw [e0]
  simp only [s_rem, allStr_strs, Option.bind_some, if_pos h]
theorem p_rcRem {xs : List Val} : opRemove.rc (.lst true xs) = true := rfl
theorem p_rcExt {xs : List Val} : opExtend.rc (.lst true xs) = true := rfl
theorem q_ext {xs ys : List Val} (h : noOwnL ys = true) (hl : xs.length + ys.length ≤ sizeLine) : opExtend.sem (.lst true xs) [(.lst o ys, v)] = some (.lst true (xs ++ ys), .non, true) := by
  have e0 : opExtend.sem = s_ext := rfl
  rw [e0]
  simp only [s_ext, h, hl, decide_true, Bool.and_self, if_true]
theorem erase_idxS : ∀ {zs : List Str} {z : Str}, z ∈ zs → zs.Nodup → ∀ x, x ∈ zs.eraseIdx (idxS zs z) ↔ x ∈ zs ∧ x ≠ z
  | [], _, h, _ => by cases h
  | a :: r, z, h, nd => by
    obtain ⟨n1, n2⟩ := List.nodup_cons.mp nd
    intro x
    by_cases e : a = z
    · have e0 : idxS (a :: r) z = 0 := if_pos e
      rw [e0]
      simp only [List.eraseIdx_cons_zero, List.mem_cons]
      constructor
      · intro hx
        exact ⟨.inr hx, fun q => n1 (by rw [e, ← q]; exact hx)⟩
      · rintro ⟨hx | hx, hn⟩
        · exact absurd (hx.trans e) hn
        · exact hx
    · have hr : z ∈ r := (List.mem_cons.mp h).elim (fun q => absurd q.symm e) id
      have ei : idxS (a :: r) z = idxS r z + 1 := if_neg e
      rw [ei]
      simp only [List.eraseIdx_cons_succ, List.mem_cons, erase_idxS hr n2]
      constructor
      · rintro (hx | ⟨hx, hn⟩)
        · exact ⟨.inl hx, fun q => e (hx ▸ q)⟩
        · exact ⟨.inr hx, hn⟩
      · rintro ⟨hx | hx, hn⟩
        · exact .inl hx
        · exact .inr ⟨hx, hn⟩
end Mn

set_option Elab.async false
set_option maxRecDepth 100000
set_option linter.all false
/-! Mx1: a caught error that is looked at behind its suite; a def that tells whether a call is refused by one class alone. -/
namespace Mn
open PySem PySem.Spec PyProof.Rows L2

section
variable {X : Cx} {x n : Str} {c : Value} {i : Nat} {body suite rest : List Stmt} {b₀ : Stmt} {np pos pos' : Pos} {tb : WX → TS} {ts : Addr → Value → Option Addr → TS} {tr : Addr → Value → Option Addr → TS} {t0 : TS} {Wout : WX}
/-- behind the suite the error stays pinned -/
theorem Inv.keepE {pins pn' : List (Addr × Obj)} {σ : L2.St} {H : Hp} {s : Shared} {a : Addr} {q : Addr × Obj} (I : Inv (X.suite a (q :: (X.pn ++ pins))) pn' σ H s) (ok : X.Ok) : Inv (X.tr (q :: (X.pn ++ pins)) X.xe) [] σ H s :=
  ⟨ok.toTry _ _, I.os, I.bare, I.base, I.loc, I.cell, I.free, I.freeC, fun p hp => I.pin p (List.mem_append_left _ (by rw [List.append_nil] at hp; exact hp)), I.hok, I.len⟩
theorem Inv.dropE {pins pn' : List (Addr × Obj)} {σ : L2.St} {H : Hp} {s : Shared} {q : Addr × Obj} (I : Inv (X.tr (q :: (X.pn ++ pins)) X.xe) pn' σ H s) (ok : X.Ok) : Inv X pins σ H s :=
  ⟨ok, I.os, I.bare, I.base, I.loc, I.cell, I.free, I.freeC, fun p hp => I.pin p (List.mem_append_left _ (List.mem_cons_of_mem _ hp)), I.hok, I.len⟩
theorem SP.dropE {pins : List (Addr × Obj)} {D : Ends} {f : Flow} {s : Shared} {q : Addr × Obj} (ok : X.Ok) (h : SP (X.tr (q :: (X.pn ++ pins)) X.xe) [] D f s) : SP X pins D f s := by
  cases f with
  | next => obtain ⟨σ', H', I, z⟩ := h; exact ⟨σ', H', Inv.dropE I ok, z⟩
  | brk => obtain ⟨σ', H', I, z⟩ := h; exact ⟨σ', H', Inv.dropE I ok, z⟩
  | cont => obtain ⟨σ', H', I, z⟩ := h; exact ⟨σ', H', Inv.dropE I ok, z⟩
  | ret u => obtain ⟨v, σ', H', I, r, z⟩ := h; exact ⟨v, σ', H', Inv.dropE I ok, r, z⟩
/-- what is wished of an exception of the body, the statements behind the clause included -/
def wAsK (K : PySem.W.Frag) (c : Value) (i : Nat) (ts : Addr → Value → Option Addr → TS) (tr : Addr → Value → Option Addr → TS) (Wout : WX) (D : Ends) : WX := fun cls d σ H =>
  ∃ b, PySem.W.exmOne K cls c = some b ∧ (b = true → ∀ a, H a = none → ts a cls d { nx := fun σ' H' => tr a cls d D (σ'.set i none) H', rt := D.rt, bk := fun σ' H' => D.bk (σ'.set i none) H', ct := fun σ' H' => D.ct (σ'.set i none) H' } (σ.set i (some (.ref a))) H) ∧
    (b = false → Wout cls d σ H)
theorem pss_try_keep (hs : X.stack = X.env :: X.outer) (hf : X.env.frame = some X.env.locals) (hN : X.N.Nodup) (hi : X.N[i]? = some n) (hln : X.env.kindOf n = some .local) (hc : Names X x c) (tk : Takes X Wout)
    (hb : ∀ (W : WX) (pn : List (Addr × Obj)) (xe : Value → Shared → Prop), Takes (X.tr pn xe) W → PassesOwn (model X.prog X.w) X.A X.env xe → PSs (X.tr pn xe) body (tb W))
    (hsu : ∀ (a : Addr) (oe : Obj) (cls : Value) (d : Option Addr) (pn : List (Addr × Obj)), Zc cls d oe → (∃ vs, oe.data = .fields vs) → PSs (X.suite a ((a, oe) :: pn)) (b₀ :: suite) (ts a cls d))
    (hr : ∀ (a : Addr) (oe : Obj) (cls : Value) (d : Option Addr) (pn : List (Addr × Obj)), Zc cls d oe → (∃ vs, oe.data = .fields vs) → PSs (X.tr ((a, oe) :: pn) X.xe) rest (tr a cls d))
    (hr0 : PSs X rest t0) :
    PSs X (.Try body [.ExceptHandler (some (.Name x np)) (some n) (b₀ :: suite) pos'] [] [] pos :: rest) (fun D σ H => tb (wAsK X.K c i ts tr Wout D) { D with nx := t0 D } σ H) := by
  refine ⟨fun pins s σ H D I h => ?_⟩
  have ok := I.ok
  have hfr : X.A.frames = some (X.env :: X.outer) := by rw [ok.frames, hs]
  have hloc : Loc X.env.scope n := .inl hln
  refine wpAny_execs_cons ?_
  refine wpAny_Try_except ?_
  generalize hQQ : (fun (f : Flow) (s' : Shared) => match f with
    | .next => wpAny (model X.prog X.w) X.A (execs rest X.env) (SP X pins D) X.xe s'
    | f => SP X pins D f s') = QQ
  refine wpAny_mono ((hb (wAsK X.K c i ts tr Wout D) (X.pn ++ pins) (fun e s₁ => wpAny (model X.prog X.w) X.A (noteFrame e X.env) (fun _ s₂ => wpAny (model X.prog X.w) X.A (setFlight e none) (fun _ s₃ =>
    wpAny (model X.prog X.w) X.A (handleBy e X.env [.ExceptHandler (some (.Name x np)) (some n) (b₀ :: suite) pos']) QQ X.xe s₃) X.xe s₂) X.xe s₁) (fun u s' xx => ?_) PassesOwn.looking).run [] s σ H { D with nx := t0 D } (I.toTry _) h) (fun f s1 hsp => ?_) (fun e s1 he => he)
  · -- the catch
    obtain ⟨a, B, sI, pins', σ', H', cls, d, rfl, J', nb, up, sky, na, os, ag, b, hb1, hyes, hno⟩ := xx
    have J : Inv X pins σ' H' sI := J'.ofTry ok
    have sky' : Sky B (X.env :: X.outer) a (Zc cls d) X.env.locals s'.heap := by rw [← hs]; exact sky
    show wpAny (model X.prog X.w) X.A (noteFrame (.ref a) X.env) _ _ _
    refine Sky.land Zc.steady hfr hf sky' fun h3 fl3 up3 => ?_
    have J3 : Inv X pins σ' H' { s' with heap := h3 } := J.landed nb fl3.1 (up.trans up3) os ag
    obtain ⟨oe3, vs3, he3, hz3, hd3⟩ := fl3.there
    have notFr : ∀ {h : Heap} {o : Obj} {vs : Array Value}, h.FunFrames B (X.env :: X.outer) → h.get? a = some o → o.data = .fields vs → a ∉ frs (X.env :: X.outer) := fun {h o vs} ff e dd hm => by
      obtain ⟨_, o', e', hnf⟩ := ff.mem hm
      rw [e] at e'; cases e'
      exact hnf _ dd
    have nfr := notFr fl3.2.2.1 he3 hd3
    have nL : a ≠ X.env.locals := fun z => nfr (List.mem_filterMap.mpr ⟨X.env, List.mem_cons_self, by rw [hf, z]⟩)
    have nF : a ∉ X.fs := fun hm => by
      obtain ⟨e, he, q⟩ := List.mem_filterMap.mp hm
      exact nfr (List.mem_filterMap.mpr ⟨e, List.mem_cons_of_mem _ he, q⟩)
    have S3 := J3.suite he3 hd3 na nL nF
    refine wpAny_handleBy_cons (codeAny_handlers_test ?_) (by intro q; cases q)
    have LT : PySem.W.Looks (model X.prog X.w) h3 (typeOf (.ref a)) cls := fun A Q E s k q => wpAny_typeOf_ref (k _ _ he3) (by rw [hz3.1]; exact q)
    have LM := PySem.W.exm_one (M := model X.prog X.w) (J3.kIn) LT hb1
    have test : ∀ {Q : Value → Shared → Prop} {E : Value → Shared → Prop}, Q c { s' with heap := h3 } → wpAny (model X.prog X.w) (X.A.mark (some (.ref a))) (eval (.Name x np) X.env) Q E { s' with heap := h3 } := fun {Q E} q => by
      obtain ⟨hg, hdbg, hm | ⟨hm, hv, hnn⟩⟩ := hc
      · exact ld_glob (X := X.suite a ((a, oe3) :: (X.pn ++ pins))) S3 hg hm q hdbg
      · exact ld_blt (X := X.suite a ((a, oe3) :: (X.pn ++ pins))) S3 hg hm hv q hnn hdbg
    refine test (LM.here ?_)
    cases b with
    | true =>
      refine codeAny_handlers_suite_as ?_
      refine HandSPX.lands_againZ fl3 fun h4 fl4 up4 => ?_
      have J4 : Inv X pins σ' H' { s' with heap := h4 } := J.landed nb fl4.1 ((up.trans up3).trans up4) os ag
      obtain ⟨oe4, vs4, he4, hz4, hd4⟩ := fl4.there
      have S4 := J4.suite he4 hd4 na nL nF
      refine store_ok (X := X.suite a ((a, oe4) :: (X.pn ++ pins))) (v := .ref a) S4 hN hi hloc rfl (fun s5 S5 => ?_) (.inr hln)
      refine wpAny_mono ((hsu a oe4 cls d (X.pn ++ pins) hz4 ⟨_, hd4⟩).run [] s5 _ H' _ S5 (hyes rfl a na)) (fun f s6 hsp => ?_) (fun _ _ z => False.elim z)
      have end_ : ∀ {σ6 : L2.St} {H6 : Hp} {Q : Shared → Prop}, Inv (X.suite a ((a, oe4) :: (X.pn ++ pins))) [] σ6 H6 s6 → (∀ s7, Inv (X.tr ((a, oe4) :: (X.pn ++ pins)) X.xe) [] (σ6.set i none) H6 s7 → Q s7) →
          wpAny (model X.prog X.w) X.A (do bindName X.env n .none; unbindBehindTheSuite X.env n pos') (fun _ s7 => Q s7) X.xe s6 := fun {σ6 H6 Q} S6 hq => gone_ok (X := X.tr ((a, oe4) :: (X.pn ++ pins)) X.xe) (Inv.keepE S6 ok) hN hi hln hq
      cases f with
      | next =>
        obtain ⟨σ6, H6, S6, q6⟩ := hsp
        refine end_ S6 fun s7 J7 => ?_
        rw [← hQQ]
        exact wpAny_mono ((hr a oe4 cls d (X.pn ++ pins) hz4 ⟨_, hd4⟩).run [] s7 _ H6 D J7 q6) (fun f s8 z => SP.dropE ok z) fun _ _ z => z
      | brk =>
        obtain ⟨σ6, H6, S6, q6⟩ := hsp
        refine end_ S6 fun s7 J7 => ?_
        rw [← hQQ]
        exact ⟨_, _, Inv.dropE J7 ok, q6⟩
      | cont =>
        obtain ⟨σ6, H6, S6, q6⟩ := hsp
        refine end_ S6 fun s7 J7 => ?_
        rw [← hQQ]
        exact ⟨_, _, Inv.dropE J7 ok, q6⟩
      | ret u =>
        obtain ⟨v6, σ6, H6, S6, r6, q6⟩ := hsp
        refine end_ S6 fun s7 J7 => ?_
        rw [← hQQ]
        exact ⟨_, _, _, Inv.dropE J7 ok, r6, q6⟩
    | false =>
      show wpAny _ X.A (handleBy (.ref a) X.env []) _ _ _
      refine wpAny_handleBy_nil ?_
      obtain ⟨k1, k2, k3, oe, vs, T, oT, ts', he, hz, hd, h1, hr⟩ := id fl3
      unfold PySem.passOn
      refine wpAny_bind (wpAny_field he hd h1 ?_)
      rw [if_neg (show ¬ ((Value.ref T == Value.none) = true) from by simp)]
      have fin : wpAny (model X.prog X.w) X.A (setFlight (.ref a) X.env.frame) (fun _ s4 => wpAny (model X.prog X.w) X.A (throw (.ref a) : Sem Flow) QQ X.xe s4) X.xe { s' with heap := h3 } := by
        rw [hf]
        refine HandSPX.setFlight_upZ fl3 fun h4 hh4 up4 => wpAny_throw (tk _ _ ?_)
        exact ⟨a, B, sI, pins, σ', H', cls, d, rfl, J, nb, (up.trans up3).trans up4, .inr (.inr (by rw [hs]; exact hh4)), na, os, ag, hno rfl⟩
      first
        | exact wpAny_bind (wpAny_pure (wpAny_bind fin))
        | exact wpAny_bind fin
  · subst hQQ
    cases f with
    | next =>
      obtain ⟨σ', H', J', q⟩ := hsp
      exact wpAny_execs_nil (hr0.run pins s1 σ' H' D (J'.ofTry ok) q)
    | brk =>
      obtain ⟨σ', H', J', q⟩ := hsp
      exact ⟨σ', H', J'.ofTry ok, q⟩
    | cont =>
      obtain ⟨σ', H', J', q⟩ := hsp
      exact ⟨σ', H', J'.ofTry ok, q⟩
    | ret u =>
      obtain ⟨v, σ', H', J', r, q⟩ := hsp
      exact ⟨v, σ', H', J'.ofTry ok, r, q⟩
end
/-! isinstance of a pinned error -/
section
variable {X : Cx} {a D : Addr} {oe : Obj} {pn : List (Addr × Obj)} {xe : Value → Shared → Prop}
theorem inst_of {pins : List (Addr × Obj)} {σ : L2.St} {H : Hp} {s : Shared} (hz : Zc (.ref D) none oe) (hf : ∃ vs, oe.data = .fields vs) (I : Inv (X.tr ((a, oe) :: pn) xe) pins σ H s) : PySem.W.InstAt s.heap a oe D none := by
  obtain ⟨hget, _⟩ := I.pin (a, oe) (List.mem_append.mpr (.inl List.mem_cons_self))
  obtain ⟨vs, hv⟩ := hf
  obtain ⟨oc, od, oda, osl⟩ := oe
  obtain ⟨h1, h2⟩ := hz
  dsimp only at h1 h2 hv
  subst h1 h2 hv
  exact ⟨hget, rfl, rfl, trivial⟩
theorem call_isE2 (C : ExcC X.K D) (hz : Zc (.ref D) none oe) (hf : ∃ vs, oe.data = .fields vs) : CallR (X.tr ((a, oe) :: pn) xe) (.builtin "isinstance") (rIsE X.K D a) := by
  intro pins s σ H xs us Q I r h
  obtain ⟨c, cv, b, rfl, hcv, e, q⟩ := h
  cases r with
  | cons rx rr =>
    cases rr with
    | cons rt rr =>
      cases rr
      cases rx
      have ec := hcv _ rt
      subst ec
      exact PySem.W.kia_one (PySem.W.handS_kitx_exc C.hg C.hk C.hs C.hd C.ha C.hn C.ht C.hm) I.kIn (inst_of hz hf I) e (fun z => nomatch z) fun tk => ⟨.bl b, H, I.kept (t' := tk) fun _ _ z => z, rfl, q⟩
/-- .. of a tuple of classes -/
def rIsET (K : PySem.W.Frag) (D a : Addr) : List V → Hp → VK → Prop := fun xs H Q => ∃ (tp : Addr) (cs : List V) (us : List Value) (b : Bool), xs = [.ref a, .ref tp] ∧ H tp = some (.tup cs) ∧ Paired ClsV cs us ∧ PySem.W.kitAny K (.ref D) us = some b ∧ Q (.bl b) H
theorem call_isET2 (C : ExcC X.K D) (hz : Zc (.ref D) none oe) (hf : ∃ vs, oe.data = .fields vs) : CallR (X.tr ((a, oe) :: pn) xe) (.builtin "isinstance") (rIsET X.K D a) := by
  intro pins s σ H xs us Q I r h
  obtain ⟨tp, cs, ws, b, rfl, hT, k, e, q⟩ := h
  cases r with
  | cons rx rr =>
    cases rr with
    | cons rt rr =>
      cases rr
      cases rx
      cases (show _ = Value.ref tp from rt)
      obtain ⟨_, its, rv, o, h1, h2, n, h3⟩ := (show ObjOk X.prog X.w H s.heap tp (.tup cs) from I.hok tp _ hT)
      have e3 := ClsV.all k rv
      subst e3
      have J := inst_of hz hf I
      obtain ⟨oc, od, dt, sl⟩ := o
      simp only at h2 h3
      subst h2 h3
      exact PySem.W.kia_tup (PySem.W.handS_kitx_exc C.hg C.hk C.hs C.hd C.ha C.hn C.ht C.hm) I.kIn J h1 e (fun z => nomatch z) fun tk => ⟨.bl b, H, I.kept (t' := tk) fun _ _ z => z, rfl, q⟩
end
/-- names of classes -/
def clsEs (l : List (Str × Pos)) : List Expr := l.map fun p => .Name p.1 p.2
inductive ClsL (mg : Str → Option Value) : List (Str × Pos) → List Addr → Prop
  | nil : ClsL mg [] []
  | cons {p a l as} : mg p.1 = some (.ref a) → ClsL mg l as → ClsL mg (p :: l) (a :: as)
def tCls : List Addr → TA
  | [] => tNil
  | a :: as => tCons (tC (.ref a)) (tCls as)
theorem pa_cls {X : Cx} : ∀ {l : List (Str × Pos)} {as : List Addr}, (∀ p ∈ l, Gl X p.1 ∧ (p.1 == ("__debug__" : Str)) = false) → ClsL X.mg l as → PA X (clsEs l) (tCls as)
  | _, _, _, .nil => pa_nil
  | _, _, h, .cons e t => pa_cons (pe_glob (v := .ref _) (h _ List.mem_cons_self).1 e rfl (h _ List.mem_cons_self).2) (pa_cls (fun p hp => h p (List.mem_cons_of_mem _ hp)) t) rfl
theorem cls_star {X : Cx} {pos : Pos} : ∀ l : List (Str × Pos), ((backTo pos (starEach (clsEs l) X.env)).any (·.1)) = false
  | [] => rfl
  | _ :: l => cls_star l
theorem tCls_of : ∀ {as : List Addr} {σ : L2.St} {H : Hp} {Q : List V → Hp → Prop}, Q (as.map V.ref) H → tCls as σ H Q
  | [], _, _, _, h => h
  | a :: as, σ, H, Q, h => tCls_of (as := as) (Q := fun xs H1 => Q (.ref a :: xs) H1) h
theorem paired_cls : ∀ as : List Addr, Paired ClsV (as.map V.ref) (as.map Value.ref)
  | [] => .nil
  | a :: as => .cons (.own a) (paired_cls as)
end Mn

set_option Elab.async false
set_option maxRecDepth 100000
set_option linter.all false
/-! Mx2: a def that tells whether a call is refused by one class alone. -/
namespace Mn
open PySem PySem.Spec PyProof.Rows L2
/-- what it tells, where the call is refused -/
def refF (g : List Val → FR) : List Val → FR := fun xs => match xs with
  | [x, y] => if x.noOwn && y.noOwn then (match g [x, y] with
    | .exc 0 [none, none] => .ok (.bl true) [none, none]
    | _ => .stuck) else .stuck
  | _ => .stuck
def zP (z : List Pos) (i : Nat) : Pos := z.getD i ⟨0, 0, 0, 0⟩
def refM0 (z : List Pos) : MS := .asg (.nm 2 "caught" (zP z 0)) (.const .cn 0 (zP z 1)) false (zP z 2)
def refM1 (fn : Str) (z : List Pos) : MS := .expr (.call 0 fn (zP z 3) (zP z 4) [.var 0 "book" (zP z 5), .var 1 "name" (zP z 6)]) (zP z 7)
def refIf (l : List (Str × Pos)) (z : List Pos) : Stmt :=
  .If (.Call (.Name "isinstance" (zP z 14)) [.Name "caught" (zP z 15), .Tuple (clsEs l) 0 (zP z 16)] [] (zP z 17)) [.Return (some (.Constant (.bool false) 0 (zP z 18))) (zP z 19)] [] (zP z 20)
def refRet (cn : Str) (z : List Pos) : Stmt :=
  .Return (some (.BoolOp .And [.Call (.Name "isinstance" (zP z 21)) [.Name "caught" (zP z 22), .Name cn (zP z 23)] [] (zP z 24), .Call (.Name "isinstance" (zP z 25)) [.Name "caught" (zP z 26), .Name "ValueError" (zP z 27)] [] (zP z 28)] (zP z 29))) (zP z 30)
def refBody (fn cn : Str) (l : List (Str × Pos)) (z : List Pos) : List Stmt :=
  [erS (refM0 z), .Try [erS (refM1 fn z)] [.ExceptHandler (some (.Name "ReadError" (zP z 8))) (some "e") [.Assign [.Name "caught" (zP z 9)] (.Name "e" (zP z 10)) (zP z 11)] (zP z 12)] [] [] (zP z 13), refIf l z, refRet cn z]
theorem kit_no {K : PySem.W.Frag} {a C : Addr} (s : PySem.W.subIn K (.ref a) (.ref C) = some false) (t : PySem.W.typeIn K (.ref C) = some (.type "type")) (d : PySem.W.hasDictIn K C = true) (v : a ≠ C) : PySem.W.kitOne K (.ref a) (.ref C) = some false := by
  obtain ⟨cd, hc, _⟩ := PySem.W.any_some d
  unfold PySem.W.kitOne
  rw [if_neg (by simp [v])]
  show (if ((PySem.W.clsIn K C).isSome && PySem.W.typeIn K (.ref C) == some (.type "type")) = true then PySem.W.subIn K (.ref a) (.ref C) else none) = some false
  rw [if_pos (by rw [hc, t]; rfl)]
  exact s
theorem kit_val {K : PySem.W.Frag} {a : Addr} (s : PySem.W.subIn K (.ref a) (.type "ValueError") = some true) : PySem.W.kitOne K (.ref a) (.type "ValueError") = some true := by
  unfold PySem.W.kitOne
  rw [if_neg (by simp)]
  show (if PySem.W.kitMeta "ValueError" = true then PySem.W.subIn K (.ref a) (.type "ValueError") else none) = some true
  rw [if_pos (by decide +kernel)]
  exact s
structure RefK (K : PySem.W.Frag) (mg : Str → Option Value) (a0 : Addr) (cn : Str) (l : List (Str × Pos)) : Prop where
  cR : ∃ C, mg "ReadError" = some (.ref C) ∧ PySem.W.exmOne K (.ref a0) (.ref C) = some true
  ex : ExcC K a0
  ns : ∃ as, ClsL mg l as ∧ as.length ≤ 1000 ∧ PySem.W.kitAny K (.ref a0) (as.map Value.ref) = some false
  nr : mg cn = some (.ref a0)
  ve : mg "ValueError" = none
  kv : PySem.W.kitOne K (.ref a0) (.type "ValueError") = some true
  is : mg "isinstance" = none
def refN : List Str := ["book", "name", "caught", "e"]
def refG (fn : Str) : Nms := ⟨[fn], [], [], []⟩
/-- what the scope must say -/
def refSc (fn cn : Str) (l : List (Str × Pos)) (z : List Pos) (sc : Scope) : Bool :=
  wfS (refG fn) refN [] sc (refM0 z) && wfS (refG fn) refN [] sc (refM1 fn z) && (sc.names.lookup ("caught" : Str) == some .local) && (sc.names.lookup ("e" : Str) == some .local) && gloB sc "ReadError" && gloB sc cn && okName cn && gloB sc "ValueError" && gloB sc "isinstance" && l.all (fun p => gloB sc p.1 && okName p.1)
theorem gl_of {X : Cx} {x : Str} (h : gloB X.env.scope x = true) : Gl X x := by
  unfold gloB at h
  exact beq_iff_eq.mp h
theorem vs2 {K : PySem.W.Frag} {F : Hp} {x y : Val} {vs : List V} {fp : FP} (r : Reps K F [x, y] vs fp) (hx : x.noOwn = true) (hy : y.noOwn = true) : ∃ v w, vs = [v, w] ∧ Rep K F x v [] ∧ Rep K F y w [] ∧ fp = [] := by
  cases r with
  | cons a b =>
    cases b with
    | cons c d =>
      cases d
      have e1 := a.noOwn hx
      have e2 := c.noOwn hy
      subst e1 e2
      exact ⟨_, _, rfl, a, c, rfl⟩
theorem ex1_of {gf : List Val → FR} {x0 y0 : Val} {fn : Str} {z : List Pos} (hx : x0.noOwn = true) (hy : y0.noOwn = true) (hg : gf [x0, y0] = .exc 0 [none, none]) : exL ⟨[gf], [], 0⟩ [refM1 fn z] [some x0, some y0, some .non, none] = .exc 0 [some x0, some y0, some .non, none] := by
  have ho : storable x0 false = true := by simp [storable, hx]
  have hp : storable y0 false = true := by simp [storable, hy]
  simp [exL, exS, refM1, evE, evArgs, lendIx, ho, hp, lendOut, hg, lendBack]
theorem refF_nz {gf : List Val → FR} {xs : List Val} (h : refF gf xs ≠ .stuck) : ∃ x0 y0, xs = [x0, y0] ∧ x0.noOwn = true ∧ y0.noOwn = true ∧ gf [x0, y0] = .exc 0 [none, none] ∧ refF gf xs = .ok (.bl true) [none, none] := by
  unfold refF at h
  split at h
  · rename_i x0 y0
    split at h
    · rename_i hc
      split at h
      · rename_i hg
        rw [Bool.and_eq_true] at hc
        exact ⟨x0, y0, rfl, hc.1, hc.2, hg, by simp [refF, hc.1, hc.2, hg]⟩
      · exact absurd rfl h
    · exact absurd rfl h
  · exact absurd rfl h
section
variable {cA : Nat → Addr} {k : Nat} {P : Program} {w : World} {K : PySem.W.Frag} {mg : Str → Option Value} {base : Heap}
theorem XOk.tr {G : Nms} {T : Tbl} {X : Cx} {W W' : WX} {pn : List (Addr × Obj)} {xe : Value → Shared → Prop} (ok : XOk G T cA k X W) (tk : Takes (X.tr pn xe) W') (po : PassesOwn (model X.prog X.w) X.A X.env xe) : XOk G T cA k (X.tr pn xe) W' where
  room := ok.room
  calm := ok.calm
  nd := ok.nd
  tk := tk
  po := po
  gl := ok.gl
  fn := ok.fn
  bl := ok.bl
  ec := ok.ec
/-- behind the clause -/
def refT (a : Addr) (a0 : Addr) : TS := fun D σ H => σ[2]? = some (some (.ref a)) ∧ ∀ (p : Addr) (o : HO), H p = none → D.rt (.bl true) (upd H p o)
def refTr (a0 : Addr) (a : Addr) (cls : Value) (d : Option Addr) : TS := fun D σ H => cls = .ref a0 ∧ d = none ∧ refT a a0 D σ H
theorem ref_rest {X : Cx} {cn : Str} {l : List (Str × Pos)} {z : List Pos} {a a0 : Addr} {oe : Obj} {cls : Value} {d : Option Addr} {pn : List (Addr × Obj)} (R : RefK X.K X.mg a0 cn l) (hN : X.N = refN)
    (hc : X.env.scope.names.lookup ("caught" : Str) = some .local) (gi : gloB X.env.scope "isinstance" = true) (gc : gloB X.env.scope cn = true) (oc : okName cn = true) (gv : gloB X.env.scope "ValueError" = true) (gl : ∀ p ∈ l, gloB X.env.scope p.1 = true ∧ okName p.1 = true)
    (hz : Zc cls d oe) (hf : ∃ vs, oe.data = .fields vs) : PSs (X.tr ((a, oe) :: pn) X.xe) [refIf l z, refRet cn z] (refTr a0 a cls d) := by
  refine ⟨fun pins s σ H D I h => ?_⟩
  obtain ⟨rfl, rfl, h2, hr⟩ := h
  obtain ⟨as, hl, hlen, hk⟩ := R.ns
  have dbg : ∀ {x : Str}, okName x = true → (x == ("__debug__" : Str)) = false := fun {x} h => by
    unfold okName at h
    simp only [Bool.and_eq_true, Bool.not_eq_true'] at h
    exact h.1.1
  have pv : ∀ p, PE (X.tr ((a, oe) :: pn) X.xe) (.Name "caught" p) (tVar 2) := fun p => pe_var (by show X.N[2]? = _; rw [hN]; rfl) (.inl hc) (by decide +kernel) (by decide +kernel)
  have isn : bootBuiltins "isinstance" = some (.builtin "isinstance") := by decide +kernel
  have e1 : PE (X.tr ((a, oe) :: pn) X.xe) (.Call (.Name "isinstance" (zP z 14)) [.Name "caught" (zP z 15), .Tuple (clsEs l) 0 (zP z 16)] [] (zP z 17)) _ :=
    pe_callB (call_isET2 R.ex hz hf) (gl_of gi) R.is isn (pa_cons (pv _) (pa_cons (pe_tup (pa_cls (fun p hp => ⟨gl_of (gl p hp).1, dbg (gl p hp).2⟩) hl)) pa_nil rfl) rfl) (by decide +kernel) (by decide +kernel) rfl rfl
  have e2 : PE (X.tr ((a, oe) :: pn) X.xe) (.Call (.Name "isinstance" (zP z 21)) [.Name "caught" (zP z 22), .Name cn (zP z 23)] [] (zP z 24)) _ :=
    pe_callB (call_isE2 R.ex hz hf) (gl_of gi) R.is isn (pa_cons (pv _) (pa_cons (pe_glob (v := .ref a0) (gl_of gc) R.nr rfl (dbg oc)) pa_nil rfl) rfl) (by decide +kernel) (by decide +kernel) rfl rfl
  have e3 : PE (X.tr ((a, oe) :: pn) X.xe) (.Call (.Name "isinstance" (zP z 25)) [.Name "caught" (zP z 26), .Name "ValueError" (zP z 27)] [] (zP z 28)) _ :=
    pe_callB (call_isE2 R.ex hz hf) (gl_of gi) R.is isn (pa_cons (pv _) (pa_cons (pe_bltn (v := .ty "ValueError") (gl_of gv) R.ve (by decide +kernel) rfl (by decide +kernel) (by decide +kernel)) pa_nil rfl) rfl) (by decide +kernel) (by decide +kernel) rfl rfl
  have B := pss_cons (ps_if (pos := zP z 20) (pt_val e1 (fun _ => rfl)) (pss_never (sts := [.Return (some (.Constant (.bool false) 0 (zP z 18))) (zP z 19)])) pss_nil) (pss_one (ps_ret (pos := zP z 30) (pe_and (pos := zP z 29) e2 (pe_one e3))))
  refine B.run pins s σ H D I ?_
  refine ⟨_, h2, tCls_of ⟨by rw [List.length_map]; exact Nat.le_trans hlen (by decide), fun p hp => ?_⟩⟩
  refine ⟨p, as.map V.ref, as.map Value.ref, false, rfl, upd_same, paired_cls as, hk, ⟨false, rfl, ?_⟩⟩
  show (if (false = true) then _ else _)
  rw [if_neg Bool.false_ne_true]
  refine ⟨_, h2, ?_⟩
  refine ⟨.ref a0, .ref a0, true, rfl, fun u hu => hu, by unfold PySem.W.kitOne; rw [if_pos (by simp)], ⟨true, rfl, ?_⟩⟩
  show (if (true = true) then _ else _)
  rw [if_pos rfl]
  refine ⟨_, h2, ?_⟩
  exact ⟨.ty "ValueError", .type "ValueError", true, rfl, fun u hu => hu, R.kv, hr p _ hp⟩
theorem refused_ok {x qual fn cn : Str} {st : Stmt} {f : Addr} {fd : FuncData} {l : List (Str × Pos)} {z : List Pos} {gf : List Val → FR} (Fu : L2.Fun K x qual st f fd) (sc : FnScope refN ["book", "name"] (defScope st)) (hb : defBody st = refBody fn cn l z) (hsc : refSc fn cn l z (defScope st) = true)
    (hfn : FnE cA k P w K mg base fn gf) (Rk : RefK K mg (cA 0) cn l) : FnOk P w K mg base (L2.CX P w) (k + 1) f fd ["book", "name"] (spM K cA (refF gf)) := by
  simp only [refSc, Bool.and_eq_true, beq_iff_eq, List.all_eq_true] at hsc
  obtain ⟨⟨⟨⟨⟨⟨⟨⟨⟨w0, w1⟩, lc⟩, le⟩, gR⟩, gC⟩, oC⟩, gV⟩, gI⟩, gL⟩ := hsc
  refine Fu.okX sc (fun vs H Q E h => ?_) (fun cdv A outer s H vs Q E hr h => ?_)
  · obtain ⟨F, xs, fp, ext, r, o, m⟩ := h
    obtain ⟨x0, y0, rfl, _, _, _, _⟩ := refF_nz (fun e => by rw [e] at m; exact m)
    rw [← r.length]; rfl
  · obtain ⟨F, xs, fp, ext, r, o, m⟩ := h
    obtain ⟨x0, y0, rfl, hx, hy, hg, hrf⟩ := refF_nz (fun e => by rw [e] at m; exact m)
    rw [hrf] at m
    obtain ⟨v0, w0', rfl, rx, ry, rfl⟩ := vs2 r hx hy
    generalize hT : (⟨[gf], [], 0⟩ : Tbl) = T
    have tOk : TOk (refG fn) T cA k P w K mg base := by
      subst hT
      exact ⟨.nil, .cons hfn .nil, (fun _ h => nomatch h), fun c x h => by simp [refG] at h⟩
    have S : SOk (refG fn) T cA k (defScope st) (cxOf (L2.CX P w) P w K mg base refN qual (defScope st) f cdv A outer s H E) (fun cls d _ H => E cls d H) := ⟨tOk.x sc.nd hr, rfl, fun _ => rfl⟩
    have B0 := ssA (pr := []) (L2.start refN [v0, w0']) S (refM0 z) w0
    have B := pss_cons B0 (pss_try_keep (X := cxOf (L2.CX P w) P w K mg base refN qual (defScope st) f cdv A outer s H E) (x := "ReadError") (n := "e") (c := .ref Rk.cR.choose) (i := 3) (np := zP z 8) (pos := zP z 13) (pos' := zP z 12) (Wout := fun cls d _ H => E cls d H)
      (body := [erS (refM1 fn z)]) (tb := fun W => tS K T cA W [] (L2.start refN [v0, w0']) (exL T [refM1 fn z])) (b₀ := .Assign [.Name "caught" (zP z 9)] (.Name "e" (zP z 10)) (zP z 11)) (suite := []) (rest := [refIf l z, refRet cn z]) (tr := refTr (cA 0)) (t0 := tNever)
      rfl rfl sc.nd rfl le ⟨gl_of gR, by decide +kernel, .inl Rk.cR.choose_spec.1⟩ S.ok.tk
      (fun W pn xe tk po => ssL (pr := []) (L2.start refN [v0, w0']) (⟨S.ok.tr tk po, rfl, fun _ => rfl⟩ : SOk (refG fn) T cA k (defScope st) _ W) [refM1 fn z] (by show (wfS (refG fn) refN [] (defScope st) (refM1 fn z) && true) = true; rw [w1]; rfl))
      (fun a oe cls d pn hz hf => pss_one (ps_asg (pe_var (i := 3) rfl (.inl le) (by decide +kernel) (by decide +kernel)) (pg_name (i := 2) sc.nd rfl (.inl lc) (.inr lc)) rfl rfl rfl))
      (fun a oe cls d pn hz hf => ref_rest Rk rfl lc gI gC oC gV (fun p hp => gL p hp) hz hf) pss_never)
    rw [hb]
    refine ⟨_, B, ?_⟩
    have hst : L2.start refN [v0, w0'] = [some v0, some w0', none, none] := rfl
    refine ⟨F, [some x0, some y0, none, none], [[], [], [], []], ext, hst ▸ .ssome rx (.ssome ry (.sno (.sno .snil))), by simpa using o, fun _ _ => rfl, ?_⟩
    have ex0 : exS T (refM0 z) [some x0, some y0, none, none] = .ok (none, [some x0, some y0, some .non, none]) := rfl
    rw [ex0]
    intro F2 H2 σ2 fps2 a1 a2 a3 a4
    refine ⟨F2, _, fps2, ext, a2, a3, (fun _ h => nomatch h), ?_⟩
    have ex1 : exL T [refM1 fn z] [some x0, some y0, some .non, none] = .exc 0 [some x0, some y0, some .non, none] := by
      subst hT
      exact ex1_of hx hy hg
    rw [ex1]
    intro F3 H3 σ3 fps3 b1 b2 b3 b4
    refine ⟨true, Rk.cR.choose_spec.2, fun _ a na => ?_, nofun⟩
    have hl3 : σ3.length = 4 := by rw [← b2.length]; rfl
    refine ⟨_, by rw [List.getElem?_set_self (by omega)], ?_⟩
    refine ⟨rfl, rfl, ?_, fun p ob hp => ?_⟩
    · rw [List.getElem?_set_ne (by decide), List.getElem?_set_self (by rw [List.length_set]; omega)]
    · have b3' : Ow F3 H3 ext := b3.sub (List.sublist_append_right _ _)
      refine m F3 (upd H3 p ob) (.bl true) [] [] (Same.trans a1 b1) .bl (.no (.no .nil)) ?_
      exact (b3'.newO (o := ob) hp).2.sub (List.sublist_cons_self _ _)
end
end Mn

set_option Elab.async false
set_option maxRecDepth 100000
set_option maxHeartbeats 0
set_option linter.all false
namespace Law
open PySem L2 Mn
def top (i : Nat) : Stmt := PySem.Challenge.pw_keptreading_k06_begins.main.body.getD i (.Pass ⟨0, 0, 0, 0⟩)
abbrev s_parts_of : Stmt := top 14
def N_parts_of : List Str := ["form"]
def G_parts_of : Nms := ⟨[], [], ["list"], []⟩
def s0_parts_of : MS := .ret (.prim (.lst) 0 ⟨29, 15, 29, 17⟩ ⟨29, 15, 29, 17⟩ ⟨29, 15, 29, 17⟩ []) ⟨29, 8, 29, 17⟩
def b0_parts_of : List MS := s0_parts_of :: []
def s1_parts_of : MS := .ite (.tru (.prim (inO) 0 ⟨28, 7, 28, 42⟩ ⟨28, 7, 28, 42⟩ ⟨28, 7, 28, 42⟩ [.prim (ixO) 0 ⟨28, 7, 28, 14⟩ ⟨28, 7, 28, 14⟩ ⟨28, 7, 28, 14⟩ [.var 0 "form" ⟨28, 7, 28, 11⟩, .const (.ci 0) 0 ⟨28, 12, 28, 13⟩], .prim (.tup) 0 ⟨28, 18, 28, 42⟩ ⟨28, 18, 28, 42⟩ ⟨28, 18, 28, 42⟩ [.const (.cs "none") 0 ⟨28, 19, 28, 25⟩, .const (.cs "any") 0 ⟨28, 27, 28, 32⟩, .const (.cs "signs") 0 ⟨28, 34, 28, 41⟩]])) b0_parts_of [] ⟨28, 4, 29, 17⟩
def s2_parts_of : MS := .ret (.prim (listO) 0 ⟨30, 11, 30, 25⟩ ⟨30, 11, 30, 15⟩ ⟨30, 11, 30, 25⟩ [.slc (slO true false) ⟨30, 16, 30, 24⟩ ⟨30, 21, 30, 23⟩ (.var 0 "form" ⟨30, 16, 30, 20⟩) [.const (.ci 1) 0 ⟨30, 21, 30, 22⟩]]) ⟨30, 4, 30, 25⟩
def b1_parts_of : List MS := s2_parts_of :: []
def b2_parts_of : List MS := s1_parts_of :: b1_parts_of
def d_parts_of : Def := ⟨1, 1, [], b2_parts_of⟩
abbrev s__law_cell_at : Stmt := top 21
def N__law_cell_at : List Str := ["script", "k"]
def G__law_cell_at : Nms := ⟨[], [], ["len"], []⟩
def s0__law_cell_at : MS := .ret (.prim (ixO) 0 ⟨65, 15, 65, 24⟩ ⟨65, 15, 65, 24⟩ ⟨65, 15, 65, 24⟩ [.var 0 "script" ⟨65, 15, 65, 21⟩, .var 1 "k" ⟨65, 22, 65, 23⟩]) ⟨65, 8, 65, 24⟩
def b0__law_cell_at : List MS := s0__law_cell_at :: []
def s1__law_cell_at : MS := .ite (.tru (.prim (ltO) 0 ⟨64, 7, 64, 22⟩ ⟨64, 7, 64, 22⟩ ⟨64, 7, 64, 22⟩ [.var 1 "k" ⟨64, 7, 64, 8⟩, .prim (lenO) 0 ⟨64, 11, 64, 22⟩ ⟨64, 11, 64, 14⟩ ⟨64, 11, 64, 22⟩ [.var 0 "script" ⟨64, 15, 64, 21⟩]])) b0__law_cell_at [] ⟨64, 4, 65, 24⟩
def s2__law_cell_at : MS := .ret (.const (.ci 0) 0 ⟨66, 11, 66, 12⟩) ⟨66, 4, 66, 12⟩
def b1__law_cell_at : List MS := s2__law_cell_at :: []
def b2__law_cell_at : List MS := s1__law_cell_at :: b1__law_cell_at
def d__law_cell_at : Def := ⟨2, 2, [], b2__law_cell_at⟩
abbrev s__law_bag : Stmt := top 22
def N__law_bag : List Str := ["cell", "place"]
def G__law_bag : Nms := ⟨[], [], ["max"], []⟩
def s0__law_bag : MS := .ret (.prim (.lst) 0 ⟨68, 11, 68, 107⟩ ⟨68, 11, 68, 107⟩ ⟨68, 11, 68, 107⟩ [.prim (.max2) 0 ⟨68, 12, 68, 35⟩ ⟨68, 12, 68, 15⟩ ⟨68, 12, 68, 35⟩ [.const (.ci 0) 0 ⟨68, 16, 68, 17⟩, .prim (.sub) 0 ⟨68, 19, 68, 34⟩ ⟨68, 19, 68, 34⟩ ⟨68, 19, 68, 34⟩ [.var 0 "cell" ⟨68, 19, 68, 23⟩, .prim (.pow) 0 ⟨68, 26, 68, 34⟩ ⟨68, 26, 68, 34⟩ ⟨68, 26, 68, 34⟩ [.const (.ci 10) 0 ⟨68, 26, 68, 28⟩, .const (.ci 18) 0 ⟨68, 32, 68, 34⟩]]], .prim (plusO) 0 ⟨68, 37, 68, 103⟩ ⟨68, 37, 68, 103⟩ ⟨68, 37, 68, 103⟩ [.prim (.mod) 0 ⟨68, 37, 68, 83⟩ ⟨68, 37, 68, 83⟩ ⟨68, 37, 68, 83⟩ [.var 0 "cell" ⟨68, 37, 68, 41⟩, .const (.ci 170141183460469231731687303715884105727) 0 ⟨68, 44, 68, 83⟩], .prim (.mul) 0 ⟨68, 86, 68, 103⟩ ⟨68, 86, 68, 103⟩ ⟨68, 86, 68, 103⟩ [.const (.ci 982451653) 0 ⟨68, 86, 68, 95⟩, .var 1 "place" ⟨68, 98, 68, 103⟩]], .const (.ci 0) 0 ⟨68, 105, 68, 106⟩]) ⟨68, 4, 68, 107⟩
def b0__law_bag : List MS := s0__law_bag :: []
def d__law_bag : Def := ⟨2, 2, [], b0__law_bag⟩
abbrev s__law_draw : Stmt := top 23
def N__law_draw : List Str := ["bag", "many", "found", "mixed"]
def G__law_draw : Nms := ⟨[], [], [], []⟩
def s0__law_draw : MS := .asg (.nm 2 "found" ⟨71, 8, 71, 13⟩) (.prim (.mod) 0 ⟨71, 16, 71, 29⟩ ⟨71, 16, 71, 29⟩ ⟨71, 16, 71, 29⟩ [.prim (ixO) 0 ⟨71, 16, 71, 22⟩ ⟨71, 16, 71, 22⟩ ⟨71, 16, 71, 22⟩ [.var 0 "bag" ⟨71, 16, 71, 19⟩, .const (.ci 0) 0 ⟨71, 20, 71, 21⟩], .var 1 "many" ⟨71, 25, 71, 29⟩]) false ⟨71, 8, 71, 29⟩
def s1__law_draw : MS := .stL 0 "bag" ⟨72, 8, 72, 11⟩ (.const (.ci 0) 0 ⟨72, 12, 72, 13⟩) (.prim (.fdiv) 0 ⟨72, 17, 72, 31⟩ ⟨72, 17, 72, 31⟩ ⟨72, 17, 72, 31⟩ [.prim (ixO) 0 ⟨72, 17, 72, 23⟩ ⟨72, 17, 72, 23⟩ ⟨72, 17, 72, 23⟩ [.var 0 "bag" ⟨72, 17, 72, 20⟩, .const (.ci 0) 0 ⟨72, 21, 72, 22⟩], .var 1 "many" ⟨72, 27, 72, 31⟩]) false ⟨72, 8, 72, 14⟩ ⟨72, 8, 72, 31⟩
def s2__law_draw : MS := .ret (.mv 2 "found" ⟨73, 15, 73, 20⟩) ⟨73, 8, 73, 20⟩
def b0__law_draw : List MS := s2__law_draw :: []
def b1__law_draw : List MS := s1__law_draw :: b0__law_draw
def b2__law_draw : List MS := s0__law_draw :: b1__law_draw
def s3__law_draw : MS := .ite (.tru (.prim (.gt) 0 ⟨70, 7, 70, 17⟩ ⟨70, 7, 70, 17⟩ ⟨70, 7, 70, 17⟩ [.prim (ixO) 0 ⟨70, 7, 70, 13⟩ ⟨70, 7, 70, 13⟩ ⟨70, 7, 70, 13⟩ [.var 0 "bag" ⟨70, 7, 70, 10⟩, .const (.ci 0) 0 ⟨70, 11, 70, 12⟩], .const (.ci 1) 0 ⟨70, 16, 70, 17⟩])) b2__law_draw [] ⟨70, 4, 73, 20⟩
def s4__law_draw : MS := .stL 0 "bag" ⟨74, 4, 74, 7⟩ (.const (.ci 2) 0 ⟨74, 8, 74, 9⟩) (.prim (plusO) 0 ⟨74, 13, 74, 23⟩ ⟨74, 13, 74, 23⟩ ⟨74, 13, 74, 23⟩ [.prim (ixO) 0 ⟨74, 13, 74, 19⟩ ⟨74, 13, 74, 19⟩ ⟨74, 13, 74, 19⟩ [.var 0 "bag" ⟨74, 13, 74, 16⟩, .const (.ci 2) 0 ⟨74, 17, 74, 18⟩], .const (.ci 1) 0 ⟨74, 22, 74, 23⟩]) false ⟨74, 4, 74, 10⟩ ⟨74, 4, 74, 23⟩
def s5__law_draw : MS := .asg (.nm 3 "mixed" ⟨75, 4, 75, 9⟩) (.prim (.mod) 0 ⟨75, 12, 75, 86⟩ ⟨75, 12, 75, 86⟩ ⟨75, 12, 75, 86⟩ [.prim (.pow) 0 ⟨75, 12, 75, 44⟩ ⟨75, 12, 75, 44⟩ ⟨75, 12, 75, 44⟩ [.prim (plusO) 0 ⟨75, 13, 75, 38⟩ ⟨75, 13, 75, 38⟩ ⟨75, 13, 75, 38⟩ [.prim (ixO) 0 ⟨75, 13, 75, 19⟩ ⟨75, 13, 75, 19⟩ ⟨75, 13, 75, 19⟩ [.var 0 "bag" ⟨75, 13, 75, 16⟩, .const (.ci 1) 0 ⟨75, 17, 75, 18⟩], .prim (.mul) 0 ⟨75, 22, 75, 38⟩ ⟨75, 22, 75, 38⟩ ⟨75, 22, 75, 38⟩ [.const (.ci 7368787) 0 ⟨75, 22, 75, 29⟩, .prim (ixO) 0 ⟨75, 32, 75, 38⟩ ⟨75, 32, 75, 38⟩ ⟨75, 32, 75, 38⟩ [.var 0 "bag" ⟨75, 32, 75, 35⟩, .const (.ci 2) 0 ⟨75, 36, 75, 37⟩]]], .const (.ci 3) 0 ⟨75, 43, 75, 44⟩], .const (.ci 170141183460469231731687303715884105727) 0 ⟨75, 47, 75, 86⟩]) false ⟨75, 4, 75, 86⟩
def s6__law_draw : MS := .asg (.nm 3 "mixed" ⟨76, 4, 76, 9⟩) (.prim (.mod) 0 ⟨76, 12, 76, 80⟩ ⟨76, 12, 76, 80⟩ ⟨76, 12, 76, 80⟩ [.prim (.pow) 0 ⟨76, 12, 76, 44⟩ ⟨76, 12, 76, 44⟩ ⟨76, 12, 76, 44⟩ [.prim (plusO) 0 ⟨76, 13, 76, 38⟩ ⟨76, 13, 76, 38⟩ ⟨76, 13, 76, 38⟩ [.var 3 "mixed" ⟨76, 13, 76, 18⟩, .prim (.mul) 0 ⟨76, 21, 76, 38⟩ ⟨76, 21, 76, 38⟩ ⟨76, 21, 76, 38⟩ [.const (.ci 15485863) 0 ⟨76, 21, 76, 29⟩, .prim (ixO) 0 ⟨76, 32, 76, 38⟩ ⟨76, 32, 76, 38⟩ ⟨76, 32, 76, 38⟩ [.var 0 "bag" ⟨76, 32, 76, 35⟩, .const (.ci 2) 0 ⟨76, 36, 76, 37⟩]]], .const (.ci 3) 0 ⟨76, 43, 76, 44⟩], .const (.ci 162259276829213363391578010288127) 0 ⟨76, 47, 76, 80⟩]) false ⟨76, 4, 76, 80⟩
def s7__law_draw : MS := .ret (.prim (.mod) 0 ⟨77, 11, 77, 31⟩ ⟨77, 11, 77, 31⟩ ⟨77, 11, 77, 31⟩ [.prim (.fdiv) 0 ⟨77, 11, 77, 24⟩ ⟨77, 11, 77, 24⟩ ⟨77, 11, 77, 24⟩ [.var 3 "mixed" ⟨77, 11, 77, 16⟩, .const (.ci 1024) 0 ⟨77, 20, 77, 24⟩], .var 1 "many" ⟨77, 27, 77, 31⟩]) ⟨77, 4, 77, 31⟩
def b3__law_draw : List MS := s7__law_draw :: []
def b4__law_draw : List MS := s6__law_draw :: b3__law_draw
def b5__law_draw : List MS := s5__law_draw :: b4__law_draw
def b6__law_draw : List MS := s4__law_draw :: b5__law_draw
def b7__law_draw : List MS := s3__law_draw :: b6__law_draw
def d__law_draw : Def := ⟨2, 4, [0], b7__law_draw⟩
abbrev s__law_empty : Stmt := top 30
def N__law_empty : List Str := ["book", "found", "round_of", "name", "form", "good", "part"]
def G__law_empty : Nms := ⟨[], [], ["range", "len", "sorted"], []⟩
def s0__law_empty : MS := .asg (.nm 1 "found" ⟨137, 4, 137, 9⟩) (.prim (.lst) 0 ⟨137, 12, 137, 14⟩ ⟨137, 12, 137, 14⟩ ⟨137, 12, 137, 14⟩ []) false ⟨137, 4, 137, 14⟩
def g0__law_empty : Tgt := .nm 2 "round_of" ⟨138, 8, 138, 16⟩
def g1__law_empty : Tgt := .tp [.nm 3 "name" ⟨139, 12, 139, 16⟩, .nm 4 "form" ⟨139, 18, 139, 22⟩] 0 ⟨139, 12, 139, 22⟩
def s1__law_empty : MS := .asg (.nm 5 "good" ⟨140, 12, 140, 16⟩) (.prim (inO) 0 ⟨140, 19, 140, 63⟩ ⟨140, 19, 140, 63⟩ ⟨140, 19, 140, 63⟩ [.prim (ixO) 0 ⟨140, 19, 140, 26⟩ ⟨140, 19, 140, 26⟩ ⟨140, 19, 140, 26⟩ [.var 4 "form" ⟨140, 19, 140, 23⟩, .const (.ci 0) 0 ⟨140, 24, 140, 25⟩], .prim (.lst) 0 ⟨140, 30, 140, 63⟩ ⟨140, 30, 140, 63⟩ ⟨140, 30, 140, 63⟩ [.const (.cs "none") 0 ⟨140, 31, 140, 37⟩, .const (.cs "again") 0 ⟨140, 39, 140, 46⟩, .const (.cs "ahead") 0 ⟨140, 48, 140, 55⟩, .const (.cs "not") 0 ⟨140, 57, 140, 62⟩]]) false ⟨140, 12, 140, 63⟩
def e0__law_empty : ME := .var 6 "part" ⟨142, 24, 142, 28⟩
def i0__law_empty : List ME := [.tru (.prim (ninO) 0 ⟨142, 53, 142, 70⟩ ⟨142, 53, 142, 70⟩ ⟨142, 53, 142, 70⟩ [.var 6 "part" ⟨142, 53, 142, 57⟩, .var 1 "found" ⟨142, 65, 142, 70⟩])]
def g2__law_empty : Tgt := .nm 6 "part" ⟨142, 33, 142, 37⟩
def c0__law_empty : ME := .lc e0__law_empty g2__law_empty .tuple [.slc (slO true false) ⟨142, 41, 142, 49⟩ ⟨142, 46, 142, 48⟩ (.var 4 "form" ⟨142, 41, 142, 45⟩) [.const (.ci 1) 0 ⟨142, 46, 142, 47⟩]] ⟨142, 41, 142, 49⟩ ⟨142, 41, 142, 49⟩ i0__law_empty { kind := .function, names := [(".0", .local), ("part", .local), ("found", .free)], isGenerator := false, isCoroutine := false, more := [] } [("part", 6)] ⟨142, 23, 142, 71⟩
def s2__law_empty : MS := .asg (.nm 5 "good" ⟨142, 16, 142, 20⟩) (.prim (.eq) 0 ⟨142, 23, 142, 77⟩ ⟨142, 23, 142, 77⟩ ⟨142, 23, 142, 77⟩ [c0__law_empty, .prim (.lst) 0 ⟨142, 75, 142, 77⟩ ⟨142, 75, 142, 77⟩ ⟨142, 75, 142, 77⟩ []]) false ⟨142, 16, 142, 77⟩
def b0__law_empty : List MS := s2__law_empty :: []
def s3__law_empty : MS := .ite (.tru (.prim (.eq) 0 ⟨141, 15, 141, 31⟩ ⟨141, 15, 141, 31⟩ ⟨141, 15, 141, 31⟩ [.prim (ixO) 0 ⟨141, 15, 141, 22⟩ ⟨141, 15, 141, 22⟩ ⟨141, 15, 141, 22⟩ [.var 4 "form" ⟨141, 15, 141, 19⟩, .const (.ci 0) 0 ⟨141, 20, 141, 21⟩], .const (.cs "row") 0 ⟨141, 26, 141, 31⟩])) b0__law_empty [] ⟨141, 12, 142, 77⟩
def e1__law_empty : ME := .var 6 "part" ⟨144, 24, 144, 28⟩
def i1__law_empty : List ME := [.tru (.prim (inO) 0 ⟨144, 53, 144, 66⟩ ⟨144, 53, 144, 66⟩ ⟨144, 53, 144, 66⟩ [.var 6 "part" ⟨144, 53, 144, 57⟩, .var 1 "found" ⟨144, 61, 144, 66⟩])]
def g3__law_empty : Tgt := .nm 6 "part" ⟨144, 33, 144, 37⟩
def c1__law_empty : ME := .lc e1__law_empty g3__law_empty .tuple [.slc (slO true false) ⟨144, 41, 144, 49⟩ ⟨144, 46, 144, 48⟩ (.var 4 "form" ⟨144, 41, 144, 45⟩) [.const (.ci 1) 0 ⟨144, 46, 144, 47⟩]] ⟨144, 41, 144, 49⟩ ⟨144, 41, 144, 49⟩ i1__law_empty { kind := .function, names := [(".0", .local), ("part", .local), ("found", .free)], isGenerator := false, isCoroutine := false, more := [] } [("part", 6)] ⟨144, 23, 144, 67⟩
def s4__law_empty : MS := .asg (.nm 5 "good" ⟨144, 16, 144, 20⟩) (.prim (.ne) 0 ⟨144, 23, 144, 73⟩ ⟨144, 23, 144, 73⟩ ⟨144, 23, 144, 73⟩ [c1__law_empty, .prim (.lst) 0 ⟨144, 71, 144, 73⟩ ⟨144, 71, 144, 73⟩ ⟨144, 71, 144, 73⟩ []]) false ⟨144, 16, 144, 73⟩
def b1__law_empty : List MS := s4__law_empty :: []
def s5__law_empty : MS := .ite (.tru (.prim (.eq) 0 ⟨143, 15, 143, 33⟩ ⟨143, 15, 143, 33⟩ ⟨143, 15, 143, 33⟩ [.prim (ixO) 0 ⟨143, 15, 143, 22⟩ ⟨143, 15, 143, 22⟩ ⟨143, 15, 143, 22⟩ [.var 4 "form" ⟨143, 15, 143, 19⟩, .const (.ci 0) 0 ⟨143, 20, 143, 21⟩], .const (.cs "first") 0 ⟨143, 26, 143, 33⟩])) b1__law_empty [] ⟨143, 12, 144, 73⟩
def s6__law_empty : MS := .app .append 1 "found" ⟨146, 16, 146, 21⟩ [.var 3 "name" ⟨146, 29, 146, 33⟩] false ⟨146, 16, 146, 28⟩ ⟨146, 16, 146, 34⟩ ⟨146, 16, 146, 34⟩
def b2__law_empty : List MS := s6__law_empty :: []
def s7__law_empty : MS := .ite (.tAnd (.tru (.var 5 "good" ⟨145, 15, 145, 19⟩)) [.tru (.prim (ninO) 0 ⟨145, 24, 145, 41⟩ ⟨145, 24, 145, 41⟩ ⟨145, 24, 145, 41⟩ [.var 3 "name" ⟨145, 24, 145, 28⟩, .var 1 "found" ⟨145, 36, 145, 41⟩])] ⟨145, 15, 145, 41⟩) b2__law_empty [] ⟨145, 12, 146, 34⟩
def b3__law_empty : List MS := s7__law_empty :: []
def b4__law_empty : List MS := s5__law_empty :: b3__law_empty
def b5__law_empty : List MS := s3__law_empty :: b4__law_empty
def b6__law_empty : List MS := s1__law_empty :: b5__law_empty
def s8__law_empty : MS := .forS g1__law_empty .list [.var 0 "book" ⟨139, 26, 139, 30⟩] ⟨139, 26, 139, 30⟩ ⟨139, 26, 139, 30⟩ b6__law_empty ⟨139, 8, 146, 34⟩
def b7__law_empty : List MS := s8__law_empty :: []
def s9__law_empty : MS := .forS g0__law_empty .range1 [.prim (lenO) 0 ⟨138, 26, 138, 35⟩ ⟨138, 26, 138, 29⟩ ⟨138, 26, 138, 35⟩ [.var 0 "book" ⟨138, 30, 138, 34⟩]] ⟨138, 20, 138, 25⟩ ⟨138, 20, 138, 36⟩ b7__law_empty ⟨138, 4, 146, 34⟩
def s10__law_empty : MS := .ret (.pop opSorted ⟨147, 11, 147, 24⟩ ⟨147, 11, 147, 17⟩ ⟨147, 11, 147, 24⟩ (.var 1 "found" ⟨147, 18, 147, 23⟩) []) ⟨147, 4, 147, 24⟩
def b8__law_empty : List MS := s10__law_empty :: []
def b9__law_empty : List MS := s9__law_empty :: b8__law_empty
def b10__law_empty : List MS := s0__law_empty :: b9__law_empty
def d__law_empty : Def := ⟨1, 7, [], b10__law_empty⟩
abbrev s__law_begins : Stmt := top 31
def N__law_begins : List Str := ["form", "empty", "many"]
def G__law_begins : Nms := ⟨[], [], ["len", "sorted", "set"], []⟩
def s0__law_begins : MS := .ret (.prim (.lst) 0 ⟨150, 15, 150, 17⟩ ⟨150, 15, 150, 17⟩ ⟨150, 15, 150, 17⟩ []) ⟨150, 8, 150, 17⟩
def b0__law_begins : List MS := s0__law_begins :: []
def s1__law_begins : MS := .ite (.tru (.prim (inO) 0 ⟨149, 7, 149, 42⟩ ⟨149, 7, 149, 42⟩ ⟨149, 7, 149, 42⟩ [.prim (ixO) 0 ⟨149, 7, 149, 14⟩ ⟨149, 7, 149, 14⟩ ⟨149, 7, 149, 14⟩ [.var 0 "form" ⟨149, 7, 149, 11⟩, .const (.ci 0) 0 ⟨149, 12, 149, 13⟩], .prim (.lst) 0 ⟨149, 18, 149, 42⟩ ⟨149, 18, 149, 42⟩ ⟨149, 18, 149, 42⟩ [.const (.cs "none") 0 ⟨149, 19, 149, 25⟩, .const (.cs "any") 0 ⟨149, 27, 149, 32⟩, .const (.cs "signs") 0 ⟨149, 34, 149, 41⟩]])) b0__law_begins [] ⟨149, 4, 150, 17⟩
def s2__law_begins : MS := .asg (.nm 2 "many" ⟨151, 4, 151, 8⟩) (.prim (lenO) 0 ⟨151, 11, 151, 20⟩ ⟨151, 11, 151, 14⟩ ⟨151, 11, 151, 20⟩ [.var 0 "form" ⟨151, 15, 151, 19⟩]) false ⟨151, 4, 151, 20⟩
def s3__law_begins : MS := .asg (.nm 2 "many" ⟨153, 8, 153, 12⟩) (.const (.ci 2) 0 ⟨153, 15, 153, 16⟩) false ⟨153, 8, 153, 16⟩
def t0__law_begins : ME := .tAnd (.tru (.prim (ltO) 0 ⟨154, 14, 154, 30⟩ ⟨154, 14, 154, 30⟩ ⟨154, 14, 154, 30⟩ [.var 2 "many" ⟨154, 14, 154, 18⟩, .prim (lenO) 0 ⟨154, 21, 154, 30⟩ ⟨154, 21, 154, 24⟩ ⟨154, 21, 154, 30⟩ [.var 0 "form" ⟨154, 25, 154, 29⟩]])) [.tru (.prim (inO) 0 ⟨154, 35, 154, 58⟩ ⟨154, 35, 154, 58⟩ ⟨154, 35, 154, 58⟩ [.prim (ixO) 0 ⟨154, 35, 154, 49⟩ ⟨154, 35, 154, 49⟩ ⟨154, 35, 154, 49⟩ [.var 0 "form" ⟨154, 35, 154, 39⟩, .prim (.sub) 0 ⟨154, 40, 154, 48⟩ ⟨154, 40, 154, 48⟩ ⟨154, 40, 154, 48⟩ [.var 2 "many" ⟨154, 40, 154, 44⟩, .const (.ci 1) 0 ⟨154, 47, 154, 48⟩]], .var 1 "empty" ⟨154, 53, 154, 58⟩])] ⟨154, 14, 154, 58⟩
def s4__law_begins : MS := .asg (.nm 2 "many" ⟨155, 12, 155, 16⟩) (.prim (plusO) 0 ⟨155, 19, 155, 27⟩ ⟨155, 19, 155, 27⟩ ⟨155, 19, 155, 27⟩ [.var 2 "many" ⟨155, 19, 155, 23⟩, .const (.ci 1) 0 ⟨155, 26, 155, 27⟩]) false ⟨155, 12, 155, 27⟩
def b1__law_begins : List MS := s4__law_begins :: []
def s5__law_begins : MS := .whileS t0__law_begins b1__law_begins ⟨154, 8, 155, 27⟩
def b2__law_begins : List MS := s5__law_begins :: []
def b3__law_begins : List MS := s3__law_begins :: b2__law_begins
def s6__law_begins : MS := .ite (.tru (.prim (.eq) 0 ⟨152, 7, 152, 23⟩ ⟨152, 7, 152, 23⟩ ⟨152, 7, 152, 23⟩ [.prim (ixO) 0 ⟨152, 7, 152, 14⟩ ⟨152, 7, 152, 14⟩ ⟨152, 7, 152, 14⟩ [.var 0 "form" ⟨152, 7, 152, 11⟩, .const (.ci 0) 0 ⟨152, 12, 152, 13⟩], .const (.cs "row") 0 ⟨152, 18, 152, 23⟩])) b3__law_begins [] ⟨152, 4, 155, 27⟩
def s7__law_begins : MS := .ret (.pop (opSortSet ⟨156, 18, 156, 35⟩ ⟨156, 18, 156, 21⟩) ⟨156, 11, 156, 36⟩ ⟨156, 11, 156, 17⟩ ⟨156, 11, 156, 36⟩ (.slc (slO true true) ⟨156, 22, 156, 34⟩ ⟨156, 27, 156, 33⟩ (.var 0 "form" ⟨156, 22, 156, 26⟩) [.const (.ci 1) 0 ⟨156, 27, 156, 28⟩, .var 2 "many" ⟨156, 29, 156, 33⟩]) []) ⟨156, 4, 156, 36⟩
def b4__law_begins : List MS := s7__law_begins :: []
def b5__law_begins : List MS := s6__law_begins :: b4__law_begins
def b6__law_begins : List MS := s2__law_begins :: b5__law_begins
def b7__law_begins : List MS := s1__law_begins :: b6__law_begins
def d__law_begins : Def := ⟨2, 3, [], b7__law_begins⟩
abbrev s__law_has : Stmt := top 33
def N__law_has : List Str := ["book", "name", "one", "form"]
def G__law_has : Nms := ⟨[], [], [], []⟩
def e0__law_has : ME := .var 2 "one" ⟨167, 20, 167, 23⟩
def i0__law_has : List ME := []
def g0__law_has : Tgt := .tp [.nm 2 "one" ⟨167, 28, 167, 31⟩, .nm 3 "form" ⟨167, 33, 167, 37⟩] 0 ⟨167, 28, 167, 37⟩
def c0__law_has : ME := .lc e0__law_has g0__law_has .list [.var 0 "book" ⟨167, 41, 167, 45⟩] ⟨167, 41, 167, 45⟩ ⟨167, 41, 167, 45⟩ i0__law_has { kind := .function, names := [(".0", .local), ("one", .local), ("form", .local)], isGenerator := false, isCoroutine := false, more := [] } [("one", 2), ("form", 3)] ⟨167, 19, 167, 46⟩
def s0__law_has : MS := .ret (.prim (inO) 0 ⟨167, 11, 167, 46⟩ ⟨167, 11, 167, 46⟩ ⟨167, 11, 167, 46⟩ [.var 1 "name" ⟨167, 11, 167, 15⟩, c0__law_has]) ⟨167, 4, 167, 46⟩
def b0__law_has : List MS := s0__law_has :: []
def d__law_has : Def := ⟨2, 4, [], b0__law_has⟩
abbrev s_may_be_empty : Stmt := top 16
def N_may_be_empty : List Str := ["form", "empty", "part"]
def G_may_be_empty : Nms := ⟨["parts_of"], [], ["all", "any"], []⟩
def e0_may_be_empty : ME := .prim (inO) 0 ⟨34, 20, 34, 33⟩ ⟨34, 20, 34, 33⟩ ⟨34, 20, 34, 33⟩ [.var 2 "part" ⟨34, 20, 34, 24⟩, .var 1 "empty" ⟨34, 28, 34, 33⟩]
def i0_may_be_empty : List ME := []
def g0_may_be_empty : Tgt := .nm 2 "part" ⟨34, 38, 34, 42⟩
def c0_may_be_empty : ME := .lc e0_may_be_empty g0_may_be_empty .list [.call 0 "parts_of" ⟨34, 46, 34, 60⟩ ⟨34, 46, 34, 54⟩ [.var 0 "form" ⟨34, 55, 34, 59⟩]] ⟨34, 46, 34, 60⟩ ⟨34, 46, 34, 60⟩ i0_may_be_empty { kind := .function, names := [(".0", .local), ("part", .local), ("empty", .free)], isGenerator := false, isCoroutine := false, more := [] } [("part", 2)] ⟨34, 19, 34, 61⟩
def s0_may_be_empty : MS := .ret (.prim (.all) 0 ⟨34, 15, 34, 62⟩ ⟨34, 15, 34, 18⟩ ⟨34, 15, 34, 62⟩ [c0_may_be_empty]) ⟨34, 8, 34, 62⟩
def b0_may_be_empty : List MS := s0_may_be_empty :: []
def s1_may_be_empty : MS := .ite (.tru (.prim (.eq) 0 ⟨33, 7, 33, 23⟩ ⟨33, 7, 33, 23⟩ ⟨33, 7, 33, 23⟩ [.prim (ixO) 0 ⟨33, 7, 33, 14⟩ ⟨33, 7, 33, 14⟩ ⟨33, 7, 33, 14⟩ [.var 0 "form" ⟨33, 7, 33, 11⟩, .const (.ci 0) 0 ⟨33, 12, 33, 13⟩], .const (.cs "row") 0 ⟨33, 18, 33, 23⟩])) b0_may_be_empty [] ⟨33, 4, 34, 62⟩
def e1_may_be_empty : ME := .prim (inO) 0 ⟨36, 20, 36, 33⟩ ⟨36, 20, 36, 33⟩ ⟨36, 20, 36, 33⟩ [.var 2 "part" ⟨36, 20, 36, 24⟩, .var 1 "empty" ⟨36, 28, 36, 33⟩]
def i1_may_be_empty : List ME := []
def g1_may_be_empty : Tgt := .nm 2 "part" ⟨36, 38, 36, 42⟩
def c1_may_be_empty : ME := .lc e1_may_be_empty g1_may_be_empty .list [.call 0 "parts_of" ⟨36, 46, 36, 60⟩ ⟨36, 46, 36, 54⟩ [.var 0 "form" ⟨36, 55, 36, 59⟩]] ⟨36, 46, 36, 60⟩ ⟨36, 46, 36, 60⟩ i1_may_be_empty { kind := .function, names := [(".0", .local), ("part", .local), ("empty", .free)], isGenerator := false, isCoroutine := false, more := [] } [("part", 2)] ⟨36, 19, 36, 61⟩
def s2_may_be_empty : MS := .ret (.prim (.any) 0 ⟨36, 15, 36, 62⟩ ⟨36, 15, 36, 18⟩ ⟨36, 15, 36, 62⟩ [c1_may_be_empty]) ⟨36, 8, 36, 62⟩
def b1_may_be_empty : List MS := s2_may_be_empty :: []
def s3_may_be_empty : MS := .ite (.tru (.prim (.eq) 0 ⟨35, 7, 35, 25⟩ ⟨35, 7, 35, 25⟩ ⟨35, 7, 35, 25⟩ [.prim (ixO) 0 ⟨35, 7, 35, 14⟩ ⟨35, 7, 35, 14⟩ ⟨35, 7, 35, 14⟩ [.var 0 "form" ⟨35, 7, 35, 11⟩, .const (.ci 0) 0 ⟨35, 12, 35, 13⟩], .const (.cs "first") 0 ⟨35, 18, 35, 25⟩])) b1_may_be_empty [] ⟨35, 4, 36, 62⟩
def s4_may_be_empty : MS := .ret (.prim (ninO) 0 ⟨37, 11, 37, 42⟩ ⟨37, 11, 37, 42⟩ ⟨37, 11, 37, 42⟩ [.prim (ixO) 0 ⟨37, 11, 37, 18⟩ ⟨37, 11, 37, 18⟩ ⟨37, 11, 37, 18⟩ [.var 0 "form" ⟨37, 11, 37, 15⟩, .const (.ci 0) 0 ⟨37, 16, 37, 17⟩], .prim (.tup) 0 ⟨37, 26, 37, 42⟩ ⟨37, 26, 37, 42⟩ ⟨37, 26, 37, 42⟩ [.const (.cs "any") 0 ⟨37, 27, 37, 32⟩, .const (.cs "signs") 0 ⟨37, 34, 37, 41⟩]]) ⟨37, 4, 37, 42⟩
def b2_may_be_empty : List MS := s4_may_be_empty :: []
def b3_may_be_empty : List MS := s3_may_be_empty :: b2_may_be_empty
def b4_may_be_empty : List MS := s1_may_be_empty :: b3_may_be_empty
def d_may_be_empty : Def := ⟨2, 3, [1], b4_may_be_empty⟩
abbrev s_first_parts : Stmt := top 18
def N_first_parts : List Str := ["form", "empty", "found", "part"]
def G_first_parts : Nms := ⟨["parts_of"], [], [], []⟩
def s0_first_parts : MS := .ret (.call 0 "parts_of" ⟨49, 15, 49, 29⟩ ⟨49, 15, 49, 23⟩ [.var 0 "form" ⟨49, 24, 49, 28⟩]) ⟨49, 8, 49, 29⟩
def b0_first_parts : List MS := s0_first_parts :: []
def s1_first_parts : MS := .ite (.tru (.prim (.ne) 0 ⟨48, 7, 48, 23⟩ ⟨48, 7, 48, 23⟩ ⟨48, 7, 48, 23⟩ [.prim (ixO) 0 ⟨48, 7, 48, 14⟩ ⟨48, 7, 48, 14⟩ ⟨48, 7, 48, 14⟩ [.var 0 "form" ⟨48, 7, 48, 11⟩, .const (.ci 0) 0 ⟨48, 12, 48, 13⟩], .const (.cs "row") 0 ⟨48, 18, 48, 23⟩])) b0_first_parts [] ⟨48, 4, 49, 29⟩
def s2_first_parts : MS := .asg (.nm 2 "found" ⟨50, 4, 50, 9⟩) (.prim (.lst) 0 ⟨50, 12, 50, 14⟩ ⟨50, 12, 50, 14⟩ ⟨50, 12, 50, 14⟩ []) false ⟨50, 4, 50, 14⟩
def g0_first_parts : Tgt := .nm 3 "part" ⟨51, 8, 51, 12⟩
def s3_first_parts : MS := .app .append 2 "found" ⟨52, 8, 52, 13⟩ [.var 3 "part" ⟨52, 21, 52, 25⟩] false ⟨52, 8, 52, 20⟩ ⟨52, 8, 52, 26⟩ ⟨52, 8, 52, 26⟩
def s4_first_parts : MS := .ret (.mv 2 "found" ⟨54, 19, 54, 24⟩) ⟨54, 12, 54, 24⟩
def b1_first_parts : List MS := s4_first_parts :: []
def s5_first_parts : MS := .ite (.tru (.prim (ninO) 0 ⟨53, 11, 53, 28⟩ ⟨53, 11, 53, 28⟩ ⟨53, 11, 53, 28⟩ [.var 3 "part" ⟨53, 11, 53, 15⟩, .var 1 "empty" ⟨53, 23, 53, 28⟩])) b1_first_parts [] ⟨53, 8, 54, 24⟩
def b2_first_parts : List MS := s5_first_parts :: []
def b3_first_parts : List MS := s3_first_parts :: b2_first_parts
def s6_first_parts : MS := .forS g0_first_parts .list [.call 0 "parts_of" ⟨51, 16, 51, 30⟩ ⟨51, 16, 51, 24⟩ [.var 0 "form" ⟨51, 25, 51, 29⟩]] ⟨51, 16, 51, 30⟩ ⟨51, 16, 51, 30⟩ b3_first_parts ⟨51, 4, 54, 24⟩
def s7_first_parts : MS := .ret (.mv 2 "found" ⟨55, 11, 55, 16⟩) ⟨55, 4, 55, 16⟩
def b4_first_parts : List MS := s7_first_parts :: []
def b5_first_parts : List MS := s6_first_parts :: b4_first_parts
def b6_first_parts : List MS := s2_first_parts :: b5_first_parts
def b7_first_parts : List MS := s1_first_parts :: b6_first_parts
def d_first_parts : Def := ⟨2, 4, [1], b7_first_parts⟩
abbrev s__law_name : Stmt := top 24
def N__law_name : List Str := ["bag", "last", "letters", "way", "letter", "at", "k"]
def G__law_name : Nms := ⟨["_law_draw"], [], ["len", "range"], []⟩
def s0__law_name : MS := .asg (.nm 2 "letters" ⟨79, 4, 79, 11⟩) (.const (.cs "abcdefghijklmnopqrstuvwxyz") 0 ⟨79, 14, 79, 42⟩) false ⟨79, 4, 79, 42⟩
def s1__law_name : MS := .asg (.nm 3 "way" ⟨80, 4, 80, 7⟩) (.call 0 "_law_draw" ⟨80, 10, 80, 27⟩ ⟨80, 10, 80, 19⟩ [.lend 0 "bag" ⟨80, 20, 80, 23⟩, .const (.ci 6) 0 ⟨80, 25, 80, 26⟩]) false ⟨80, 4, 80, 27⟩
def s2__law_name : MS := .asg (.nm 4 "letter" ⟨81, 4, 81, 10⟩) (.ixv 2 "letters" ⟨81, 13, 81, 20⟩ (.call 0 "_law_draw" ⟨81, 21, 81, 39⟩ ⟨81, 21, 81, 30⟩ [.lend 0 "bag" ⟨81, 31, 81, 34⟩, .const (.ci 26) 0 ⟨81, 36, 81, 38⟩]) ⟨81, 13, 81, 40⟩) false ⟨81, 4, 81, 40⟩
def s3__law_name : MS := .ret (.prim (plusO) 0 ⟨83, 15, 83, 28⟩ ⟨83, 15, 83, 28⟩ ⟨83, 15, 83, 28⟩ [.var 1 "last" ⟨83, 15, 83, 19⟩, .var 4 "letter" ⟨83, 22, 83, 28⟩]) ⟨83, 8, 83, 28⟩
def b0__law_name : List MS := s3__law_name :: []
def s4__law_name : MS := .ite (.tAnd (.tru (.prim (.eq) 0 ⟨82, 7, 82, 15⟩ ⟨82, 7, 82, 15⟩ ⟨82, 7, 82, 15⟩ [.var 3 "way" ⟨82, 7, 82, 10⟩, .const (.ci 0) 0 ⟨82, 14, 82, 15⟩])) [.tru (.chain .lt .lt (.const (.ci 0) 0 ⟨82, 20, 82, 21⟩) (.prim (lenO) 0 ⟨82, 24, 82, 33⟩ ⟨82, 24, 82, 27⟩ ⟨82, 24, 82, 33⟩ [.var 1 "last" ⟨82, 28, 82, 32⟩]) (.const (.ci 8) 0 ⟨82, 36, 82, 37⟩) ⟨82, 20, 82, 37⟩)] ⟨82, 7, 82, 37⟩) b0__law_name [] ⟨82, 4, 83, 28⟩
def s5__law_name : MS := .ret (.slc (slO true false) ⟨85, 15, 85, 23⟩ ⟨85, 20, 85, 22⟩ (.var 1 "last" ⟨85, 15, 85, 19⟩) [.const (.ci 1) 0 ⟨85, 20, 85, 21⟩]) ⟨85, 8, 85, 23⟩
def b1__law_name : List MS := s5__law_name :: []
def s6__law_name : MS := .ite (.tAnd (.tru (.prim (.eq) 0 ⟨84, 7, 84, 15⟩ ⟨84, 7, 84, 15⟩ ⟨84, 7, 84, 15⟩ [.var 3 "way" ⟨84, 7, 84, 10⟩, .const (.ci 1) 0 ⟨84, 14, 84, 15⟩])) [.tru (.prim (.gt) 0 ⟨84, 20, 84, 33⟩ ⟨84, 20, 84, 33⟩ ⟨84, 20, 84, 33⟩ [.prim (lenO) 0 ⟨84, 20, 84, 29⟩ ⟨84, 20, 84, 23⟩ ⟨84, 20, 84, 29⟩ [.var 1 "last" ⟨84, 24, 84, 28⟩], .const (.ci 1) 0 ⟨84, 32, 84, 33⟩])] ⟨84, 7, 84, 33⟩) b1__law_name [] ⟨84, 4, 85, 23⟩
def s7__law_name : MS := .asg (.nm 5 "at" ⟨87, 8, 87, 10⟩) (.call 0 "_law_draw" ⟨87, 13, 87, 38⟩ ⟨87, 13, 87, 22⟩ [.lend 0 "bag" ⟨87, 23, 87, 26⟩, .prim (lenO) 0 ⟨87, 28, 87, 37⟩ ⟨87, 28, 87, 31⟩ ⟨87, 28, 87, 37⟩ [.var 1 "last" ⟨87, 32, 87, 36⟩]]) false ⟨87, 8, 87, 38⟩
def s8__law_name : MS := .ret (.prim (plusO) 0 ⟨88, 15, 88, 49⟩ ⟨88, 15, 88, 49⟩ ⟨88, 15, 88, 49⟩ [.prim (plusO) 0 ⟨88, 15, 88, 33⟩ ⟨88, 15, 88, 33⟩ ⟨88, 15, 88, 33⟩ [.slc (slO false true) ⟨88, 15, 88, 24⟩ ⟨88, 20, 88, 23⟩ (.var 1 "last" ⟨88, 15, 88, 19⟩) [.var 5 "at" ⟨88, 21, 88, 23⟩], .var 4 "letter" ⟨88, 27, 88, 33⟩], .slc (slO true false) ⟨88, 36, 88, 49⟩ ⟨88, 41, 88, 48⟩ (.var 1 "last" ⟨88, 36, 88, 40⟩) [.prim (plusO) 0 ⟨88, 41, 88, 47⟩ ⟨88, 41, 88, 47⟩ ⟨88, 41, 88, 47⟩ [.var 5 "at" ⟨88, 41, 88, 43⟩, .const (.ci 1) 0 ⟨88, 46, 88, 47⟩]]]) ⟨88, 8, 88, 49⟩
def b2__law_name : List MS := s8__law_name :: []
def b3__law_name : List MS := s7__law_name :: b2__law_name
def s9__law_name : MS := .ite (.tAnd (.tru (.prim (.eq) 0 ⟨86, 7, 86, 15⟩ ⟨86, 7, 86, 15⟩ ⟨86, 7, 86, 15⟩ [.var 3 "way" ⟨86, 7, 86, 10⟩, .const (.ci 2) 0 ⟨86, 14, 86, 15⟩])) [.tru (.prim (.ne) 0 ⟨86, 20, 86, 30⟩ ⟨86, 20, 86, 30⟩ ⟨86, 20, 86, 30⟩ [.var 1 "last" ⟨86, 20, 86, 24⟩, .const (.cs "") 0 ⟨86, 28, 86, 30⟩])] ⟨86, 7, 86, 30⟩) b3__law_name [] ⟨86, 4, 88, 49⟩
def e0__law_name : ME := .ixv 2 "letters" ⟨89, 29, 89, 36⟩ (.call 0 "_law_draw" ⟨89, 37, 89, 55⟩ ⟨89, 37, 89, 46⟩ [.lend 0 "bag" ⟨89, 47, 89, 50⟩, .const (.ci 26) 0 ⟨89, 52, 89, 54⟩]) ⟨89, 29, 89, 56⟩
def i0__law_name : List ME := []
def g0__law_name : Tgt := .nm 6 "k" ⟨89, 61, 89, 62⟩
def c0__law_name : ME := .lc e0__law_name g0__law_name .range1 [.call 0 "_law_draw" ⟨89, 72, 89, 89⟩ ⟨89, 72, 89, 81⟩ [.lend 0 "bag" ⟨89, 82, 89, 85⟩, .const (.ci 8) 0 ⟨89, 87, 89, 88⟩]] ⟨89, 66, 89, 71⟩ ⟨89, 66, 89, 90⟩ i0__law_name { kind := .function, names := [(".0", .local), ("k", .local), ("_law_draw", .globalImplicit), ("bag", .free), ("letters", .free)], isGenerator := false, isCoroutine := false, more := [] } [("k", 6)] ⟨89, 28, 89, 91⟩
def s10__law_name : MS := .ret (.prim (plusO) 0 ⟨89, 11, 89, 92⟩ ⟨89, 11, 89, 92⟩ ⟨89, 11, 89, 92⟩ [.var 4 "letter" ⟨89, 11, 89, 17⟩, .pop opJoin ⟨89, 20, 89, 92⟩ ⟨89, 20, 89, 27⟩ ⟨89, 20, 89, 92⟩ (.const (.cs "") 0 ⟨89, 20, 89, 22⟩) [c0__law_name]]) ⟨89, 4, 89, 92⟩
def b4__law_name : List MS := s10__law_name :: []
def b5__law_name : List MS := s9__law_name :: b4__law_name
def b6__law_name : List MS := s6__law_name :: b5__law_name
def b7__law_name : List MS := s4__law_name :: b6__law_name
def b8__law_name : List MS := s2__law_name :: b7__law_name
def b9__law_name : List MS := s1__law_name :: b8__law_name
def b10__law_name : List MS := s0__law_name :: b9__law_name
def d__law_name : Def := ⟨2, 7, [0], b10__law_name⟩
abbrev s__law_signs : Stmt := top 26
def N__law_signs : List Str := ["bag", "some", "many", "k"]
def G__law_signs : Nms := ⟨["_law_draw"], [], ["sorted", "set", "range"], []⟩
def s0__law_signs : MS := .asg (.nm 1 "some" ⟨98, 4, 98, 8⟩) (.const (.cs " !\"#$&'()*+,-./0123456789:;<=>?\x40ABCDEFGHIJKLMNOPQRSTUVWXYZ[\\]^_`abcdefghijklmnopqrstuvwxyz{|}~") 0 ⟨98, 11, 98, 109⟩) false ⟨98, 4, 98, 109⟩
def s1__law_signs : MS := .asg (.nm 2 "many" ⟨99, 4, 99, 8⟩) (.prim (plusO) 0 ⟨99, 11, 99, 62⟩ ⟨99, 11, 99, 62⟩ ⟨99, 11, 99, 62⟩ [.const (.ci 1) 0 ⟨99, 11, 99, 12⟩, .call 0 "_law_draw" ⟨99, 15, 99, 62⟩ ⟨99, 15, 99, 24⟩ [.lend 0 "bag" ⟨99, 25, 99, 28⟩, .prim (ixO) 0 ⟨99, 30, 99, 61⟩ ⟨99, 30, 99, 61⟩ ⟨99, 30, 99, 61⟩ [.prim (.lst) 0 ⟨99, 30, 99, 37⟩ ⟨99, 30, 99, 37⟩ ⟨99, 30, 99, 37⟩ [.const (.ci 6) 0 ⟨99, 31, 99, 32⟩, .const (.ci 40) 0 ⟨99, 34, 99, 36⟩], .prim (.fdiv) 0 ⟨99, 38, 99, 60⟩ ⟨99, 38, 99, 60⟩ ⟨99, 38, 99, 60⟩ [.call 0 "_law_draw" ⟨99, 38, 99, 55⟩ ⟨99, 38, 99, 47⟩ [.lend 0 "bag" ⟨99, 48, 99, 51⟩, .const (.ci 8) 0 ⟨99, 53, 99, 54⟩], .const (.ci 7) 0 ⟨99, 59, 99, 60⟩]]]]) false ⟨99, 4, 99, 62⟩
def e0__law_signs : ME := .ixv 1 "some" ⟨100, 31, 100, 35⟩ (.call 0 "_law_draw" ⟨100, 36, 100, 54⟩ ⟨100, 36, 100, 45⟩ [.lend 0 "bag" ⟨100, 46, 100, 49⟩, .const (.ci 94) 0 ⟨100, 51, 100, 53⟩]) ⟨100, 31, 100, 55⟩
def i0__law_signs : List ME := []
def g0__law_signs : Tgt := .nm 3 "k" ⟨100, 60, 100, 61⟩
def c0__law_signs : ME := .lc e0__law_signs g0__law_signs .range1 [.var 2 "many" ⟨100, 71, 100, 75⟩] ⟨100, 65, 100, 70⟩ ⟨100, 65, 100, 76⟩ i0__law_signs { kind := .function, names := [(".0", .local), ("k", .local), ("_law_draw", .globalImplicit), ("bag", .free), ("some", .free)], isGenerator := false, isCoroutine := false, more := [] } [("k", 3)] ⟨100, 30, 100, 77⟩
def s2__law_signs : MS := .ret (.pop opJoin ⟨100, 11, 100, 80⟩ ⟨100, 11, 100, 18⟩ ⟨100, 11, 100, 80⟩ (.const (.cs "") 0 ⟨100, 11, 100, 13⟩) [.pop (opSortSet ⟨100, 26, 100, 78⟩ ⟨100, 26, 100, 29⟩) ⟨100, 19, 100, 79⟩ ⟨100, 19, 100, 25⟩ ⟨100, 19, 100, 79⟩ (c0__law_signs) []]) ⟨100, 4, 100, 80⟩
def b0__law_signs : List MS := s2__law_signs :: []
def b1__law_signs : List MS := s1__law_signs :: b0__law_signs
def b2__law_signs : List MS := s0__law_signs :: b1__law_signs
def d__law_signs : Def := ⟨1, 4, [0], b2__law_signs⟩
abbrev s__law_lacking : Stmt := top 34
def N__law_lacking : List Str := ["book", "found", "name", "form", "part"]
def G__law_lacking : Nms := ⟨["_law_has"], [], ["sorted", "set"], []⟩
def s0__law_lacking : MS := .asg (.nm 1 "found" ⟨169, 4, 169, 9⟩) (.prim (.lst) 0 ⟨169, 12, 169, 14⟩ ⟨169, 12, 169, 14⟩ ⟨169, 12, 169, 14⟩ []) false ⟨169, 4, 169, 14⟩
def g0__law_lacking : Tgt := .tp [.nm 2 "name" ⟨170, 8, 170, 12⟩, .nm 3 "form" ⟨170, 14, 170, 18⟩] 0 ⟨170, 8, 170, 18⟩
def e0__law_lacking : ME := .var 4 "part" ⟨171, 22, 171, 26⟩
def i0__law_lacking : List ME := [.tAnd (.tru (.prim (.ne) 0 ⟨171, 51, 171, 69⟩ ⟨171, 51, 171, 69⟩ ⟨171, 51, 171, 69⟩ [.prim (ixO) 0 ⟨171, 51, 171, 58⟩ ⟨171, 51, 171, 58⟩ ⟨171, 51, 171, 58⟩ [.var 3 "form" ⟨171, 51, 171, 55⟩, .const (.ci 0) 0 ⟨171, 56, 171, 57⟩], .const (.cs "signs") 0 ⟨171, 62, 171, 69⟩])) [.tNot (.tru (.call 0 "_law_has" ⟨171, 79, 171, 99⟩ ⟨171, 79, 171, 87⟩ [.var 0 "book" ⟨171, 88, 171, 92⟩, .var 4 "part" ⟨171, 94, 171, 98⟩])) ⟨171, 75, 171, 99⟩] ⟨171, 51, 171, 100⟩]
def g1__law_lacking : Tgt := .nm 4 "part" ⟨171, 31, 171, 35⟩
def c0__law_lacking : ME := .lc e0__law_lacking g1__law_lacking .tuple [.slc (slO true false) ⟨171, 39, 171, 47⟩ ⟨171, 44, 171, 46⟩ (.var 3 "form" ⟨171, 39, 171, 43⟩) [.const (.ci 1) 0 ⟨171, 44, 171, 45⟩]] ⟨171, 39, 171, 47⟩ ⟨171, 39, 171, 47⟩ i0__law_lacking { kind := .function, names := [(".0", .local), ("part", .local), ("_law_has", .globalImplicit), ("book", .free), ("form", .free)], isGenerator := false, isCoroutine := false, more := [] } [("part", 4)] ⟨171, 21, 171, 101⟩
def s1__law_lacking : MS := .expr (.mut opExtend 1 "found" ⟨171, 8, 171, 13⟩ [c0__law_lacking] ⟨171, 8, 171, 20⟩ ⟨171, 8, 171, 102⟩) ⟨171, 8, 171, 102⟩
def b0__law_lacking : List MS := s1__law_lacking :: []
def s2__law_lacking : MS := .forS g0__law_lacking .list [.var 0 "book" ⟨170, 22, 170, 26⟩] ⟨170, 22, 170, 26⟩ ⟨170, 22, 170, 26⟩ b0__law_lacking ⟨170, 4, 171, 102⟩
def s3__law_lacking : MS := .ret (.pop (opSortSet ⟨172, 18, 172, 28⟩ ⟨172, 18, 172, 21⟩) ⟨172, 11, 172, 29⟩ ⟨172, 11, 172, 17⟩ ⟨172, 11, 172, 29⟩ (.var 1 "found" ⟨172, 22, 172, 27⟩) []) ⟨172, 4, 172, 29⟩
def b1__law_lacking : List MS := s3__law_lacking :: []
def b2__law_lacking : List MS := s2__law_lacking :: b1__law_lacking
def b3__law_lacking : List MS := s0__law_lacking :: b2__law_lacking
def d__law_lacking : Def := ⟨1, 5, [], b3__law_lacking⟩
abbrev s_emptiness : Stmt := top 17
def N_emptiness : List Str := ["book", "found", "many", "name", "form"]
def G_emptiness : Nms := ⟨["may_be_empty"], [], ["len"], []⟩
def s0_emptiness : MS := .asg (.nm 1 "found" ⟨39, 4, 39, 9⟩) (.prim (.dnK) 0 ⟨39, 12, 39, 14⟩ ⟨39, 12, 39, 14⟩ ⟨39, 12, 39, 14⟩ []) false ⟨39, 4, 39, 14⟩
def s1_emptiness : MS := .asg (.nm 2 "many" ⟨40, 4, 40, 8⟩) (.prim (.neg) 0 ⟨40, 11, 40, 13⟩ ⟨40, 11, 40, 13⟩ ⟨40, 11, 40, 13⟩ [.const (.ci 1) 0 ⟨40, 12, 40, 13⟩]) false ⟨40, 4, 40, 13⟩
def t0_emptiness : ME := .tru (.prim (ltO) 0 ⟨41, 10, 41, 27⟩ ⟨41, 10, 41, 27⟩ ⟨41, 10, 41, 27⟩ [.var 2 "many" ⟨41, 10, 41, 14⟩, .prim (lenO) 0 ⟨41, 17, 41, 27⟩ ⟨41, 17, 41, 20⟩ ⟨41, 17, 41, 27⟩ [.var 1 "found" ⟨41, 21, 41, 26⟩]])
def s2_emptiness : MS := .asg (.nm 2 "many" ⟨42, 8, 42, 12⟩) (.prim (lenO) 0 ⟨42, 15, 42, 25⟩ ⟨42, 15, 42, 18⟩ ⟨42, 15, 42, 25⟩ [.var 1 "found" ⟨42, 19, 42, 24⟩]) false ⟨42, 8, 42, 25⟩
def g0_emptiness : Tgt := .tp [.nm 3 "name" ⟨43, 12, 43, 16⟩, .nm 4 "form" ⟨43, 18, 43, 22⟩] 0 ⟨43, 12, 43, 22⟩
def s3_emptiness : MS := .stD 1 "found" ⟨45, 16, 45, 21⟩ (.var 3 "name" ⟨45, 22, 45, 26⟩) (.const (.cb true) 0 ⟨45, 30, 45, 34⟩) false ⟨45, 16, 45, 27⟩ ⟨45, 16, 45, 34⟩
def b0_emptiness : List MS := s3_emptiness :: []
def s4_emptiness : MS := .ite (.tru (.call 0 "may_be_empty" ⟨44, 15, 44, 40⟩ ⟨44, 15, 44, 27⟩ [.var 4 "form" ⟨44, 28, 44, 32⟩, .lend 1 "found" ⟨44, 34, 44, 39⟩])) b0_emptiness [] ⟨44, 12, 45, 34⟩
def b1_emptiness : List MS := s4_emptiness :: []
def s5_emptiness : MS := .forS g0_emptiness .list [.var 0 "book" ⟨43, 26, 43, 30⟩] ⟨43, 26, 43, 30⟩ ⟨43, 26, 43, 30⟩ b1_emptiness ⟨43, 8, 45, 34⟩
def b2_emptiness : List MS := s5_emptiness :: []
def b3_emptiness : List MS := s2_emptiness :: b2_emptiness
def s6_emptiness : MS := .whileS t0_emptiness b3_emptiness ⟨41, 4, 45, 34⟩
def s7_emptiness : MS := .ret (.mv 1 "found" ⟨46, 11, 46, 16⟩) ⟨46, 4, 46, 16⟩
def b4_emptiness : List MS := s7_emptiness :: []
def b5_emptiness : List MS := s6_emptiness :: b4_emptiness
def b6_emptiness : List MS := s1_emptiness :: b5_emptiness
def b7_emptiness : List MS := s0_emptiness :: b6_emptiness
def d_emptiness : Def := ⟨1, 5, [], b7_emptiness⟩
abbrev s__law_names : Stmt := top 25
def N__law_names : List Str := ["bag", "many", "found", "name", "k"]
def G__law_names : Nms := ⟨["_law_name"], [], ["range", "list"], []⟩
def s0__law_names : MS := .asg (.nm 2 "found" ⟨91, 4, 91, 9⟩) (.prim (.dnK) 0 ⟨91, 12, 91, 14⟩ ⟨91, 12, 91, 14⟩ ⟨91, 12, 91, 14⟩ []) false ⟨91, 4, 91, 14⟩
def s1__law_names : MS := .asg (.nm 3 "name" ⟨92, 4, 92, 8⟩) (.const (.cs "") 0 ⟨92, 11, 92, 13⟩) false ⟨92, 4, 92, 13⟩
def g0__law_names : Tgt := .nm 4 "k" ⟨93, 8, 93, 9⟩
def s2__law_names : MS := .asg (.nm 3 "name" ⟨94, 8, 94, 12⟩) (.call 0 "_law_name" ⟨94, 15, 94, 35⟩ ⟨94, 15, 94, 24⟩ [.lend 0 "bag" ⟨94, 25, 94, 28⟩, .var 3 "name" ⟨94, 30, 94, 34⟩]) false ⟨94, 8, 94, 35⟩
def s3__law_names : MS := .stD 2 "found" ⟨95, 8, 95, 13⟩ (.var 3 "name" ⟨95, 14, 95, 18⟩) (.const (.cb true) 0 ⟨95, 22, 95, 26⟩) false ⟨95, 8, 95, 19⟩ ⟨95, 8, 95, 26⟩
def b0__law_names : List MS := s3__law_names :: []
def b1__law_names : List MS := s2__law_names :: b0__law_names
def s4__law_names : MS := .forS g0__law_names .range1 [.var 1 "many" ⟨93, 19, 93, 23⟩] ⟨93, 13, 93, 18⟩ ⟨93, 13, 93, 24⟩ b1__law_names ⟨93, 4, 95, 26⟩
def s5__law_names : MS := .ret (.prim (listO) 0 ⟨96, 11, 96, 22⟩ ⟨96, 11, 96, 15⟩ ⟨96, 11, 96, 22⟩ [.var 2 "found" ⟨96, 16, 96, 21⟩]) ⟨96, 4, 96, 22⟩
def b2__law_names : List MS := s5__law_names :: []
def b3__law_names : List MS := s4__law_names :: b2__law_names
def b4__law_names : List MS := s1__law_names :: b3__law_names
def b5__law_names : List MS := s0__law_names :: b4__law_names
def d__law_names : Def := ⟨2, 5, [0], b5__law_names⟩
abbrev s__law_form : Stmt := top 27
def N__law_form : List Str := ["bag", "names", "words", "word", "many", "k"]
def G__law_form : Nms := ⟨["_law_draw", "_law_signs"], [], ["tuple", "range", "len"], []⟩
def s0__law_form : MS := .asg (.nm 2 "words" ⟨102, 4, 102, 9⟩) (.prim (.lst) 0 ⟨102, 12, 102, 93⟩ ⟨102, 12, 102, 93⟩ ⟨102, 12, 102, 93⟩ [.const (.cs "none") 0 ⟨102, 13, 102, 19⟩, .const (.cs "any") 0 ⟨102, 21, 102, 26⟩, .const (.cs "signs") 0 ⟨102, 28, 102, 35⟩, .const (.cs "row") 0 ⟨102, 37, 102, 42⟩, .const (.cs "row") 0 ⟨102, 44, 102, 49⟩, .const (.cs "first") 0 ⟨102, 51, 102, 58⟩, .const (.cs "first") 0 ⟨102, 60, 102, 67⟩, .const (.cs "again") 0 ⟨102, 69, 102, 76⟩, .const (.cs "ahead") 0 ⟨102, 78, 102, 85⟩, .const (.cs "not") 0 ⟨102, 87, 102, 92⟩]) false ⟨102, 4, 102, 93⟩
def s1__law_form : MS := .asg (.nm 3 "word" ⟨103, 4, 103, 8⟩) (.ixv 2 "words" ⟨103, 11, 103, 16⟩ (.call 0 "_law_draw" ⟨103, 17, 103, 35⟩ ⟨103, 17, 103, 26⟩ [.lend 0 "bag" ⟨103, 27, 103, 30⟩, .const (.ci 10) 0 ⟨103, 32, 103, 34⟩]) ⟨103, 11, 103, 36⟩) false ⟨103, 4, 103, 36⟩
def s2__law_form : MS := .ret (.prim (.tup) 0 ⟨105, 15, 105, 22⟩ ⟨105, 15, 105, 22⟩ ⟨105, 15, 105, 22⟩ [.var 3 "word" ⟨105, 16, 105, 20⟩]) ⟨105, 8, 105, 22⟩
def b0__law_form : List MS := s2__law_form :: []
def s3__law_form : MS := .ite (.tOr (.tru (.prim (.eq) 0 ⟨104, 7, 104, 21⟩ ⟨104, 7, 104, 21⟩ ⟨104, 7, 104, 21⟩ [.var 3 "word" ⟨104, 7, 104, 11⟩, .const (.cs "none") 0 ⟨104, 15, 104, 21⟩])) [.tru (.prim (.eq) 0 ⟨104, 25, 104, 38⟩ ⟨104, 25, 104, 38⟩ ⟨104, 25, 104, 38⟩ [.var 3 "word" ⟨104, 25, 104, 29⟩, .const (.cs "any") 0 ⟨104, 33, 104, 38⟩])] ⟨104, 7, 104, 38⟩) b0__law_form [] ⟨104, 4, 105, 22⟩
def s4__law_form : MS := .ret (.prim (.tup) 0 ⟨107, 15, 107, 38⟩ ⟨107, 15, 107, 38⟩ ⟨107, 15, 107, 38⟩ [.var 3 "word" ⟨107, 16, 107, 20⟩, .call 1 "_law_signs" ⟨107, 22, 107, 37⟩ ⟨107, 22, 107, 32⟩ [.lend 0 "bag" ⟨107, 33, 107, 36⟩]]) ⟨107, 8, 107, 38⟩
def b1__law_form : List MS := s4__law_form :: []
def s5__law_form : MS := .ite (.tru (.prim (.eq) 0 ⟨106, 7, 106, 22⟩ ⟨106, 7, 106, 22⟩ ⟨106, 7, 106, 22⟩ [.var 3 "word" ⟨106, 7, 106, 11⟩, .const (.cs "signs") 0 ⟨106, 15, 106, 22⟩])) b1__law_form [] ⟨106, 4, 107, 38⟩
def s6__law_form : MS := .asg (.nm 4 "many" ⟨108, 4, 108, 8⟩) (.const (.ci 1) 0 ⟨108, 11, 108, 12⟩) false ⟨108, 4, 108, 12⟩
def s7__law_form : MS := .asg (.nm 4 "many" ⟨110, 8, 110, 12⟩) (.prim (plusO) 0 ⟨110, 15, 110, 60⟩ ⟨110, 15, 110, 60⟩ ⟨110, 15, 110, 60⟩ [.const (.ci 1) 0 ⟨110, 15, 110, 16⟩, .call 0 "_law_draw" ⟨110, 19, 110, 60⟩ ⟨110, 19, 110, 28⟩ [.lend 0 "bag" ⟨110, 29, 110, 32⟩, .prim (ixO) 0 ⟨110, 34, 110, 59⟩ ⟨110, 34, 110, 59⟩ ⟨110, 34, 110, 59⟩ [.prim (.lst) 0 ⟨110, 34, 110, 40⟩ ⟨110, 34, 110, 40⟩ ⟨110, 34, 110, 40⟩ [.const (.ci 3) 0 ⟨110, 35, 110, 36⟩, .const (.ci 8) 0 ⟨110, 38, 110, 39⟩], .call 0 "_law_draw" ⟨110, 41, 110, 58⟩ ⟨110, 41, 110, 50⟩ [.lend 0 "bag" ⟨110, 51, 110, 54⟩, .const (.ci 2) 0 ⟨110, 56, 110, 57⟩]]]]) false ⟨110, 8, 110, 60⟩
def b2__law_form : List MS := s7__law_form :: []
def s8__law_form : MS := .ite (.tOr (.tru (.prim (.eq) 0 ⟨109, 7, 109, 20⟩ ⟨109, 7, 109, 20⟩ ⟨109, 7, 109, 20⟩ [.var 3 "word" ⟨109, 7, 109, 11⟩, .const (.cs "row") 0 ⟨109, 15, 109, 20⟩])) [.tru (.prim (.eq) 0 ⟨109, 24, 109, 39⟩ ⟨109, 24, 109, 39⟩ ⟨109, 24, 109, 39⟩ [.var 3 "word" ⟨109, 24, 109, 28⟩, .const (.cs "first") 0 ⟨109, 32, 109, 39⟩])] ⟨109, 7, 109, 39⟩) b2__law_form [] ⟨109, 4, 110, 60⟩
def e0__law_form : ME := .ixv 1 "names" ⟨111, 27, 111, 32⟩ (.call 0 "_law_draw" ⟨111, 33, 111, 59⟩ ⟨111, 33, 111, 42⟩ [.lend 0 "bag" ⟨111, 43, 111, 46⟩, .prim (lenO) 0 ⟨111, 48, 111, 58⟩ ⟨111, 48, 111, 51⟩ ⟨111, 48, 111, 58⟩ [.var 1 "names" ⟨111, 52, 111, 57⟩]]) ⟨111, 27, 111, 60⟩
def i0__law_form : List ME := []
def g0__law_form : Tgt := .nm 5 "k" ⟨111, 65, 111, 66⟩
def c0__law_form : ME := .lc e0__law_form g0__law_form .range1 [.var 4 "many" ⟨111, 76, 111, 80⟩] ⟨111, 70, 111, 75⟩ ⟨111, 70, 111, 81⟩ i0__law_form { kind := .function, names := [(".0", .local), ("k", .local), ("_law_draw", .globalImplicit), ("len", .globalImplicit), ("bag", .free), ("names", .free)], isGenerator := false, isCoroutine := false, more := [] } [("k", 5)] ⟨111, 26, 111, 82⟩
def s9__law_form : MS := .ret (.prim (.tupOf) 0 ⟨111, 11, 111, 83⟩ ⟨111, 11, 111, 16⟩ ⟨111, 11, 111, 83⟩ [.prim (plusO) 0 ⟨111, 17, 111, 82⟩ ⟨111, 17, 111, 82⟩ ⟨111, 17, 111, 82⟩ [.prim (.lst) 0 ⟨111, 17, 111, 23⟩ ⟨111, 17, 111, 23⟩ ⟨111, 17, 111, 23⟩ [.var 3 "word" ⟨111, 18, 111, 22⟩], c0__law_form]]) ⟨111, 4, 111, 83⟩
def b3__law_form : List MS := s9__law_form :: []
def b4__law_form : List MS := s8__law_form :: b3__law_form
def b5__law_form : List MS := s6__law_form :: b4__law_form
def b6__law_form : List MS := s5__law_form :: b5__law_form
def b7__law_form : List MS := s3__law_form :: b6__law_form
def b8__law_form : List MS := s1__law_form :: b7__law_form
def b9__law_form : List MS := s0__law_form :: b8__law_form
def d__law_form : Def := ⟨2, 6, [0], b9__law_form⟩
abbrev s_begins : Stmt := top 19
def N_begins : List Str := ["book", "name", "empty", "one", "form"]
def G_begins : Nms := ⟨["emptiness", "first_parts"], [], ["sorted", "set"], ["NoRule"]⟩
def s0_begins : MS := .asg (.nm 2 "empty" ⟨57, 4, 57, 9⟩) (.call 0 "emptiness" ⟨57, 12, 57, 27⟩ ⟨57, 12, 57, 21⟩ [.var 0 "book" ⟨57, 22, 57, 26⟩]) false ⟨57, 4, 57, 27⟩
def g0_begins : Tgt := .tp [.nm 3 "one" ⟨58, 8, 58, 11⟩, .nm 4 "form" ⟨58, 13, 58, 17⟩] 0 ⟨58, 8, 58, 17⟩
def s1_begins : MS := .ret (.pop (opSortSet ⟨60, 26, 60, 55⟩ ⟨60, 26, 60, 29⟩) ⟨60, 19, 60, 56⟩ ⟨60, 19, 60, 25⟩ ⟨60, 19, 60, 56⟩ (.call 1 "first_parts" ⟨60, 30, 60, 54⟩ ⟨60, 30, 60, 41⟩ [.var 4 "form" ⟨60, 42, 60, 46⟩, .lend 2 "empty" ⟨60, 48, 60, 53⟩]) []) ⟨60, 12, 60, 56⟩
def b0_begins : List MS := s1_begins :: []
def s2_begins : MS := .ite (.tru (.prim (.eq) 0 ⟨59, 11, 59, 22⟩ ⟨59, 11, 59, 22⟩ ⟨59, 11, 59, 22⟩ [.var 3 "one" ⟨59, 11, 59, 14⟩, .var 1 "name" ⟨59, 18, 59, 22⟩])) b0_begins [] ⟨59, 8, 60, 56⟩
def b1_begins : List MS := s2_begins :: []
def s3_begins : MS := .forS g0_begins .list [.var 0 "book" ⟨58, 21, 58, 25⟩] ⟨58, 21, 58, 25⟩ ⟨58, 21, 58, 25⟩ b1_begins ⟨58, 4, 60, 56⟩
def s4_begins : MS := .raise 0 "NoRule" "no such rule" 0 ⟨61, 10, 61, 16⟩ ⟨61, 17, 61, 31⟩ ⟨61, 10, 61, 32⟩ ⟨61, 4, 61, 32⟩
def b2_begins : List MS := s4_begins :: []
def b3_begins : List MS := s3_begins :: b2_begins
def b4_begins : List MS := s0_begins :: b3_begins
def d_begins : Def := ⟨2, 5, [], b4_begins⟩
abbrev s__law_book : Stmt := top 28
def N__law_book : List Str := ["bag", "later", "most", "many", "names", "found", "k"]
def G__law_book : Nms := ⟨["_law_draw", "_law_names", "_law_form"], [], ["min", "len", "range", "sorted"], []⟩
def s0__law_book : MS := .asg (.nm 1 "later" ⟨113, 4, 113, 9⟩) (.call 0 "_law_draw" ⟨113, 12, 113, 29⟩ ⟨113, 12, 113, 21⟩ [.lend 0 "bag" ⟨113, 22, 113, 25⟩, .const (.ci 2) 0 ⟨113, 27, 113, 28⟩]) false ⟨113, 4, 113, 29⟩
def s1__law_book : MS := .asg (.nm 2 "most" ⟨114, 4, 114, 8⟩) (.prim (ixO) 0 ⟨114, 11, 114, 42⟩ ⟨114, 11, 114, 42⟩ ⟨114, 11, 114, 42⟩ [.prim (.lst) 0 ⟨114, 11, 114, 18⟩ ⟨114, 11, 114, 18⟩ ⟨114, 11, 114, 18⟩ [.const (.ci 9) 0 ⟨114, 12, 114, 13⟩, .const (.ci 31) 0 ⟨114, 15, 114, 17⟩], .prim (.fdiv) 0 ⟨114, 19, 114, 41⟩ ⟨114, 19, 114, 41⟩ ⟨114, 19, 114, 41⟩ [.call 0 "_law_draw" ⟨114, 19, 114, 36⟩ ⟨114, 19, 114, 28⟩ [.lend 0 "bag" ⟨114, 29, 114, 32⟩, .const (.ci 8) 0 ⟨114, 34, 114, 35⟩], .const (.ci 7) 0 ⟨114, 40, 114, 41⟩]]) false ⟨114, 4, 114, 42⟩
def s2__law_book : MS := .asg (.nm 3 "many" ⟨115, 4, 115, 8⟩) (.call 0 "_law_draw" ⟨115, 11, 115, 31⟩ ⟨115, 11, 115, 20⟩ [.lend 0 "bag" ⟨115, 21, 115, 24⟩, .var 2 "most" ⟨115, 26, 115, 30⟩]) false ⟨115, 4, 115, 31⟩
def s3__law_book : MS := .asg (.nm 4 "names" ⟨116, 4, 116, 9⟩) (.call 1 "_law_names" ⟨116, 12, 116, 67⟩ ⟨116, 12, 116, 22⟩ [.lend 0 "bag" ⟨116, 23, 116, 26⟩, .prim (plusO) 0 ⟨116, 28, 116, 66⟩ ⟨116, 28, 116, 66⟩ ⟨116, 28, 116, 66⟩ [.var 3 "many" ⟨116, 28, 116, 32⟩, .prim (ixO) 0 ⟨116, 35, 116, 66⟩ ⟨116, 35, 116, 66⟩ ⟨116, 35, 116, 66⟩ [.prim (.lst) 0 ⟨116, 35, 116, 42⟩ ⟨116, 35, 116, 42⟩ ⟨116, 35, 116, 42⟩ [.const (.ci 2) 0 ⟨116, 36, 116, 37⟩, .const (.ci 10) 0 ⟨116, 39, 116, 41⟩], .prim (.fdiv) 0 ⟨116, 43, 116, 65⟩ ⟨116, 43, 116, 65⟩ ⟨116, 43, 116, 65⟩ [.call 0 "_law_draw" ⟨116, 43, 116, 60⟩ ⟨116, 43, 116, 52⟩ [.lend 0 "bag" ⟨116, 53, 116, 56⟩, .const (.ci 4) 0 ⟨116, 58, 116, 59⟩], .const (.ci 3) 0 ⟨116, 64, 116, 65⟩]]]]) true ⟨116, 4, 116, 67⟩
def s4__law_book : MS := .asg (.nm 3 "many" ⟨117, 4, 117, 8⟩) (.prim (.min2) 0 ⟨117, 11, 117, 32⟩ ⟨117, 11, 117, 14⟩ ⟨117, 11, 117, 32⟩ [.var 3 "many" ⟨117, 15, 117, 19⟩, .prim (lenO) 0 ⟨117, 21, 117, 31⟩ ⟨117, 21, 117, 24⟩ ⟨117, 21, 117, 31⟩ [.var 4 "names" ⟨117, 25, 117, 30⟩]]) false ⟨117, 4, 117, 32⟩
def s5__law_book : MS := .asg (.nm 5 "found" ⟨118, 4, 118, 9⟩) (.prim (.lst) 0 ⟨118, 12, 118, 14⟩ ⟨118, 12, 118, 14⟩ ⟨118, 12, 118, 14⟩ []) false ⟨118, 4, 118, 14⟩
def g0__law_book : Tgt := .nm 6 "k" ⟨119, 8, 119, 9⟩
def s6__law_book : MS := .app .append 5 "found" ⟨120, 8, 120, 13⟩ [.prim (.tup) 0 ⟨120, 21, 120, 81⟩ ⟨120, 21, 120, 81⟩ ⟨120, 21, 120, 81⟩ [.prim (ixO) 0 ⟨120, 22, 120, 30⟩ ⟨120, 22, 120, 30⟩ ⟨120, 22, 120, 30⟩ [.var 4 "names" ⟨120, 22, 120, 27⟩, .var 6 "k" ⟨120, 28, 120, 29⟩], .call 2 "_law_form" ⟨120, 32, 120, 80⟩ ⟨120, 32, 120, 41⟩ [.lend 0 "bag" ⟨120, 42, 120, 45⟩, .orV (.slc (slO true false) ⟨120, 47, 120, 70⟩ ⟨120, 53, 120, 69⟩ (.var 4 "names" ⟨120, 47, 120, 52⟩) [.prim (.mul) 0 ⟨120, 53, 120, 68⟩ ⟨120, 53, 120, 68⟩ ⟨120, 53, 120, 68⟩ [.prim (plusO) 0 ⟨120, 54, 120, 59⟩ ⟨120, 54, 120, 59⟩ ⟨120, 54, 120, 59⟩ [.var 6 "k" ⟨120, 54, 120, 55⟩, .const (.ci 1) 0 ⟨120, 58, 120, 59⟩], .var 1 "later" ⟨120, 63, 120, 68⟩]]) (.var 4 "names" ⟨120, 74, 120, 79⟩) ⟨120, 47, 120, 79⟩]]] false ⟨120, 8, 120, 20⟩ ⟨120, 8, 120, 82⟩ ⟨120, 8, 120, 82⟩
def b0__law_book : List MS := s6__law_book :: []
def s7__law_book : MS := .forS g0__law_book .range1 [.var 3 "many" ⟨119, 19, 119, 23⟩] ⟨119, 13, 119, 18⟩ ⟨119, 13, 119, 24⟩ b0__law_book ⟨119, 4, 120, 82⟩
def s8__law_book : MS := .ret (.pop opSorted ⟨121, 11, 121, 24⟩ ⟨121, 11, 121, 17⟩ ⟨121, 11, 121, 24⟩ (.var 5 "found" ⟨121, 18, 121, 23⟩) []) ⟨121, 4, 121, 24⟩
def b1__law_book : List MS := s8__law_book :: []
def b2__law_book : List MS := s7__law_book :: b1__law_book
def b3__law_book : List MS := s5__law_book :: b2__law_book
def b4__law_book : List MS := s4__law_book :: b3__law_book
def b5__law_book : List MS := s3__law_book :: b4__law_book
def b6__law_book : List MS := s2__law_book :: b5__law_book
def b7__law_book : List MS := s1__law_book :: b6__law_book
def b8__law_book : List MS := s0__law_book :: b7__law_book
def d__law_book : Def := ⟨1, 7, [0], b8__law_book⟩
abbrev s__law_chain : Stmt := top 29
def N__law_chain : List Str := ["bag", "names", "last", "back", "found", "k", "word", "further", "j"]
def G__law_chain : Nms := ⟨["_law_names", "_law_draw"], [], ["len", "range", "tuple", "sorted"], []⟩
def s0__law_chain : MS := .asg (.nm 1 "names" ⟨123, 4, 123, 9⟩) (.call 0 "_law_names" ⟨123, 12, 123, 51⟩ ⟨123, 12, 123, 22⟩ [.lend 0 "bag" ⟨123, 23, 123, 26⟩, .prim (plusO) 0 ⟨123, 28, 123, 50⟩ ⟨123, 28, 123, 50⟩ ⟨123, 28, 123, 50⟩ [.const (.ci 2) 0 ⟨123, 28, 123, 29⟩, .call 1 "_law_draw" ⟨123, 32, 123, 50⟩ ⟨123, 32, 123, 41⟩ [.lend 0 "bag" ⟨123, 42, 123, 45⟩, .const (.ci 29) 0 ⟨123, 47, 123, 49⟩]]]) true ⟨123, 4, 123, 51⟩
def s1__law_chain : MS := .asg (.nm 2 "last" ⟨124, 4, 124, 8⟩) (.prim (ixO) 0 ⟨124, 11, 124, 108⟩ ⟨124, 11, 124, 108⟩ ⟨124, 11, 124, 108⟩ [.prim (.lst) 0 ⟨124, 11, 124, 89⟩ ⟨124, 11, 124, 89⟩ ⟨124, 11, 124, 89⟩ [.prim (.tup) 0 ⟨124, 12, 124, 21⟩ ⟨124, 12, 124, 21⟩ ⟨124, 12, 124, 21⟩ [.const (.cs "none") 0 ⟨124, 13, 124, 19⟩], .prim (.tup) 0 ⟨124, 23, 124, 31⟩ ⟨124, 23, 124, 31⟩ ⟨124, 23, 124, 31⟩ [.const (.cs "any") 0 ⟨124, 24, 124, 29⟩], .prim (.tup) 0 ⟨124, 33, 124, 48⟩ ⟨124, 33, 124, 48⟩ ⟨124, 33, 124, 48⟩ [.const (.cs "signs") 0 ⟨124, 34, 124, 41⟩, .const (.cs "ab") 0 ⟨124, 43, 124, 47⟩], .prim (.tup) 0 ⟨124, 50, 124, 69⟩ ⟨124, 50, 124, 69⟩ ⟨124, 50, 124, 69⟩ [.const (.cs "first") 0 ⟨124, 51, 124, 58⟩, .prim (ixO) 0 ⟨124, 60, 124, 68⟩ ⟨124, 60, 124, 68⟩ ⟨124, 60, 124, 68⟩ [.var 1 "names" ⟨124, 60, 124, 65⟩, .const (.ci 0) 0 ⟨124, 66, 124, 67⟩]], .prim (.tup) 0 ⟨124, 71, 124, 88⟩ ⟨124, 71, 124, 88⟩ ⟨124, 71, 124, 88⟩ [.const (.cs "not") 0 ⟨124, 72, 124, 77⟩, .prim (ixO) 0 ⟨124, 79, 124, 87⟩ ⟨124, 79, 124, 87⟩ ⟨124, 79, 124, 87⟩ [.var 1 "names" ⟨124, 79, 124, 84⟩, .const (.ci 0) 0 ⟨124, 85, 124, 86⟩]]], .call 1 "_law_draw" ⟨124, 90, 124, 107⟩ ⟨124, 90, 124, 99⟩ [.lend 0 "bag" ⟨124, 100, 124, 103⟩, .const (.ci 5) 0 ⟨124, 105, 124, 106⟩]]) false ⟨124, 4, 124, 108⟩
def s2__law_chain : MS := .asg (.nm 3 "back" ⟨125, 4, 125, 8⟩) (.ixv 1 "names" ⟨125, 11, 125, 16⟩ (.call 1 "_law_draw" ⟨125, 17, 125, 43⟩ ⟨125, 17, 125, 26⟩ [.lend 0 "bag" ⟨125, 27, 125, 30⟩, .prim (lenO) 0 ⟨125, 32, 125, 42⟩ ⟨125, 32, 125, 35⟩ ⟨125, 32, 125, 42⟩ [.var 1 "names" ⟨125, 36, 125, 41⟩]]) ⟨125, 11, 125, 44⟩) false ⟨125, 4, 125, 44⟩
def s3__law_chain : MS := .asg (.nm 2 "last" ⟨127, 8, 127, 12⟩) (.prim (.tup) 0 ⟨127, 15, 127, 28⟩ ⟨127, 15, 127, 28⟩ ⟨127, 15, 127, 28⟩ [.const (.cs "row") 0 ⟨127, 16, 127, 21⟩, .var 3 "back" ⟨127, 23, 127, 27⟩]) false ⟨127, 8, 127, 28⟩
def b0__law_chain : List MS := s3__law_chain :: []
def s4__law_chain : MS := .ite (.tru (.prim (.eq) 0 ⟨126, 7, 126, 29⟩ ⟨126, 7, 126, 29⟩ ⟨126, 7, 126, 29⟩ [.call 1 "_law_draw" ⟨126, 7, 126, 24⟩ ⟨126, 7, 126, 16⟩ [.lend 0 "bag" ⟨126, 17, 126, 20⟩, .const (.ci 3) 0 ⟨126, 22, 126, 23⟩], .const (.ci 2) 0 ⟨126, 28, 126, 29⟩])) b0__law_chain [] ⟨126, 4, 127, 28⟩
def s5__law_chain : MS := .asg (.nm 4 "found" ⟨128, 4, 128, 9⟩) (.prim (.lst) 0 ⟨128, 12, 128, 31⟩ ⟨128, 12, 128, 31⟩ ⟨128, 12, 128, 31⟩ [.prim (.tup) 0 ⟨128, 13, 128, 30⟩ ⟨128, 13, 128, 30⟩ ⟨128, 13, 128, 30⟩ [.prim (ixO) 0 ⟨128, 14, 128, 23⟩ ⟨128, 14, 128, 23⟩ ⟨128, 14, 128, 23⟩ [.var 1 "names" ⟨128, 14, 128, 19⟩, .prim (.neg) 0 ⟨128, 20, 128, 22⟩ ⟨128, 20, 128, 22⟩ ⟨128, 20, 128, 22⟩ [.const (.ci 1) 0 ⟨128, 21, 128, 22⟩]], .var 2 "last" ⟨128, 25, 128, 29⟩]]) false ⟨128, 4, 128, 31⟩
def g0__law_chain : Tgt := .nm 5 "k" ⟨129, 8, 129, 9⟩
def s6__law_chain : MS := .asg (.nm 6 "word" ⟨130, 8, 130, 12⟩) (.prim (ixO) 0 ⟨130, 15, 130, 82⟩ ⟨130, 15, 130, 82⟩ ⟨130, 15, 130, 82⟩ [.prim (.lst) 0 ⟨130, 15, 130, 63⟩ ⟨130, 15, 130, 63⟩ ⟨130, 15, 130, 63⟩ [.const (.cs "row") 0 ⟨130, 16, 130, 21⟩, .const (.cs "row") 0 ⟨130, 23, 130, 28⟩, .const (.cs "first") 0 ⟨130, 30, 130, 37⟩, .const (.cs "again") 0 ⟨130, 39, 130, 46⟩, .const (.cs "ahead") 0 ⟨130, 48, 130, 55⟩, .const (.cs "not") 0 ⟨130, 57, 130, 62⟩], .call 1 "_law_draw" ⟨130, 64, 130, 81⟩ ⟨130, 64, 130, 73⟩ [.lend 0 "bag" ⟨130, 74, 130, 77⟩, .const (.ci 6) 0 ⟨130, 79, 130, 80⟩]]) false ⟨130, 8, 130, 82⟩
def s7__law_chain : MS := .asg (.nm 7 "further" ⟨131, 8, 131, 15⟩) (.slc (slO true true) ⟨131, 18, 131, 36⟩ ⟨131, 24, 131, 35⟩ (.var 1 "names" ⟨131, 18, 131, 23⟩) [.prim (plusO) 0 ⟨131, 24, 131, 29⟩ ⟨131, 24, 131, 29⟩ ⟨131, 24, 131, 29⟩ [.var 5 "k" ⟨131, 24, 131, 25⟩, .const (.ci 1) 0 ⟨131, 28, 131, 29⟩], .prim (plusO) 0 ⟨131, 30, 131, 35⟩ ⟨131, 30, 131, 35⟩ ⟨131, 30, 131, 35⟩ [.var 5 "k" ⟨131, 30, 131, 31⟩, .const (.ci 2) 0 ⟨131, 34, 131, 35⟩]]) true ⟨131, 8, 131, 36⟩
def e0__law_chain : ME := .ixv 1 "names" ⟨133, 33, 133, 38⟩ (.call 1 "_law_draw" ⟨133, 39, 133, 65⟩ ⟨133, 39, 133, 48⟩ [.lend 0 "bag" ⟨133, 49, 133, 52⟩, .prim (lenO) 0 ⟨133, 54, 133, 64⟩ ⟨133, 54, 133, 57⟩ ⟨133, 54, 133, 64⟩ [.var 1 "names" ⟨133, 58, 133, 63⟩]]) ⟨133, 33, 133, 66⟩
def i0__law_chain : List ME := []
def g1__law_chain : Tgt := .nm 8 "j" ⟨133, 71, 133, 72⟩
def c0__law_chain : ME := .lc e0__law_chain g1__law_chain .range1 [.call 1 "_law_draw" ⟨133, 82, 133, 99⟩ ⟨133, 82, 133, 91⟩ [.lend 0 "bag" ⟨133, 92, 133, 95⟩, .const (.ci 3) 0 ⟨133, 97, 133, 98⟩]] ⟨133, 76, 133, 81⟩ ⟨133, 76, 133, 100⟩ i0__law_chain { kind := .function, names := [(".0", .local), ("j", .local), ("_law_draw", .globalImplicit), ("len", .globalImplicit), ("bag", .free), ("names", .free)], isGenerator := false, isCoroutine := false, more := [] } [("j", 8)] ⟨133, 32, 133, 101⟩
def s8__law_chain : MS := .asg (.nm 7 "further" ⟨133, 12, 133, 19⟩) (.prim (plusO) 0 ⟨133, 22, 133, 101⟩ ⟨133, 22, 133, 101⟩ ⟨133, 22, 133, 101⟩ [.var 7 "further" ⟨133, 22, 133, 29⟩, c0__law_chain]) true ⟨133, 12, 133, 101⟩
def b1__law_chain : List MS := s8__law_chain :: []
def s9__law_chain : MS := .ite (.tOr (.tru (.prim (.eq) 0 ⟨132, 11, 132, 24⟩ ⟨132, 11, 132, 24⟩ ⟨132, 11, 132, 24⟩ [.var 6 "word" ⟨132, 11, 132, 15⟩, .const (.cs "row") 0 ⟨132, 19, 132, 24⟩])) [.tru (.prim (.eq) 0 ⟨132, 28, 132, 43⟩ ⟨132, 28, 132, 43⟩ ⟨132, 28, 132, 43⟩ [.var 6 "word" ⟨132, 28, 132, 32⟩, .const (.cs "first") 0 ⟨132, 36, 132, 43⟩])] ⟨132, 11, 132, 43⟩) b1__law_chain [] ⟨132, 8, 133, 101⟩
def s10__law_chain : MS := .app .append 4 "found" ⟨134, 8, 134, 13⟩ [.prim (.tup) 0 ⟨134, 21, 134, 56⟩ ⟨134, 21, 134, 56⟩ ⟨134, 21, 134, 56⟩ [.prim (ixO) 0 ⟨134, 22, 134, 30⟩ ⟨134, 22, 134, 30⟩ ⟨134, 22, 134, 30⟩ [.var 1 "names" ⟨134, 22, 134, 27⟩, .var 5 "k" ⟨134, 28, 134, 29⟩], .prim (.tupOf) 0 ⟨134, 32, 134, 55⟩ ⟨134, 32, 134, 37⟩ ⟨134, 32, 134, 55⟩ [.prim (plusO) 0 ⟨134, 38, 134, 54⟩ ⟨134, 38, 134, 54⟩ ⟨134, 38, 134, 54⟩ [.prim (.lst) 0 ⟨134, 38, 134, 44⟩ ⟨134, 38, 134, 44⟩ ⟨134, 38, 134, 44⟩ [.var 6 "word" ⟨134, 39, 134, 43⟩], .var 7 "further" ⟨134, 47, 134, 54⟩]]]] false ⟨134, 8, 134, 20⟩ ⟨134, 8, 134, 57⟩ ⟨134, 8, 134, 57⟩
def b2__law_chain : List MS := s10__law_chain :: []
def b3__law_chain : List MS := s9__law_chain :: b2__law_chain
def b4__law_chain : List MS := s7__law_chain :: b3__law_chain
def b5__law_chain : List MS := s6__law_chain :: b4__law_chain
def s11__law_chain : MS := .forS g0__law_chain .range1 [.prim (.sub) 0 ⟨129, 19, 129, 33⟩ ⟨129, 19, 129, 33⟩ ⟨129, 19, 129, 33⟩ [.prim (lenO) 0 ⟨129, 19, 129, 29⟩ ⟨129, 19, 129, 22⟩ ⟨129, 19, 129, 29⟩ [.var 1 "names" ⟨129, 23, 129, 28⟩], .const (.ci 1) 0 ⟨129, 32, 129, 33⟩]] ⟨129, 13, 129, 18⟩ ⟨129, 13, 129, 34⟩ b5__law_chain ⟨129, 4, 134, 57⟩
def s12__law_chain : MS := .ret (.pop opSorted ⟨135, 11, 135, 24⟩ ⟨135, 11, 135, 17⟩ ⟨135, 11, 135, 24⟩ (.var 4 "found" ⟨135, 18, 135, 23⟩) []) ⟨135, 4, 135, 24⟩
def b6__law_chain : List MS := s12__law_chain :: []
def b7__law_chain : List MS := s11__law_chain :: b6__law_chain
def b8__law_chain : List MS := s5__law_chain :: b7__law_chain
def b9__law_chain : List MS := s4__law_chain :: b8__law_chain
def b10__law_chain : List MS := s2__law_chain :: b9__law_chain
def b11__law_chain : List MS := s1__law_chain :: b10__law_chain
def b12__law_chain : List MS := s0__law_chain :: b11__law_chain
def d__law_chain : Def := ⟨1, 9, [0], b12__law_chain⟩
abbrev s__law_refused : Stmt := top 32
def z__law_refused : List Pos := [⟨158, 4, 158, 10⟩, ⟨158, 13, 158, 17⟩, ⟨158, 4, 158, 17⟩, ⟨160, 8, 160, 26⟩, ⟨160, 8, 160, 14⟩, ⟨160, 15, 160, 19⟩, ⟨160, 21, 160, 25⟩, ⟨160, 8, 160, 26⟩, ⟨161, 11, 161, 20⟩, ⟨162, 8, 162, 14⟩, ⟨162, 17, 162, 18⟩, ⟨162, 8, 162, 18⟩, ⟨161, 4, 162, 18⟩, ⟨159, 4, 162, 18⟩, ⟨163, 7, 163, 17⟩, ⟨163, 18, 163, 24⟩, ⟨163, 26, 163, 106⟩, ⟨163, 7, 163, 107⟩, ⟨164, 15, 164, 20⟩, ⟨164, 8, 164, 20⟩, ⟨163, 4, 164, 20⟩, ⟨165, 11, 165, 21⟩, ⟨165, 22, 165, 28⟩, ⟨165, 30, 165, 36⟩, ⟨165, 11, 165, 37⟩, ⟨165, 42, 165, 52⟩, ⟨165, 53, 165, 59⟩, ⟨165, 61, 165, 71⟩, ⟨165, 42, 165, 72⟩, ⟨165, 11, 165, 72⟩, ⟨165, 4, 165, 72⟩]
def l__law_refused : List (Str × Pos) := [("Loops", ⟨163, 27, 163, 32⟩), ("NoBook", ⟨163, 34, 163, 40⟩), ("NoDeed", ⟨163, 42, 163, 48⟩), ("NoForm", ⟨163, 50, 163, 56⟩), ("NoName", ⟨163, 58, 163, 64⟩), ("NoPlace", ⟨163, 66, 163, 73⟩), ("NoRow", ⟨163, 75, 163, 80⟩), ("NoRows", ⟨163, 82, 163, 88⟩), ("NoText", ⟨163, 90, 163, 96⟩), ("TooMany", ⟨163, 98, 163, 105⟩)]
abbrev s_law : Stmt := top 35
def N_law : List Str := ["script", "k", "bag", "none", "book", "handed", "empty", "name", "form", "found", "asked", "one"]
def G_law : Nms := ⟨["_law_bag", "_law_cell_at", "_law_name", "_law_draw", "_law_chain", "_law_book", "_law_empty", "begins", "_law_begins", "_law_lacking", "_law_has", "_law_refused"], [], ["range", "max", "min", "len", "list", "isinstance", "all"], []⟩
def g0_law : Tgt := .nm 1 "k" ⟨174, 8, 174, 9⟩
def s0_law : MS := .asg (.nm 2 "bag" ⟨175, 8, 175, 11⟩) (.call 0 "_law_bag" ⟨175, 14, 175, 50⟩ ⟨175, 14, 175, 22⟩ [.call 1 "_law_cell_at" ⟨175, 23, 175, 46⟩ ⟨175, 23, 175, 35⟩ [.var 0 "script" ⟨175, 36, 175, 42⟩, .var 1 "k" ⟨175, 44, 175, 45⟩], .var 1 "k" ⟨175, 48, 175, 49⟩]) false ⟨175, 8, 175, 50⟩
def s1_law : MS := .asg (.nm 3 "none" ⟨176, 8, 176, 12⟩) (.call 2 "_law_name" ⟨176, 15, 176, 33⟩ ⟨176, 15, 176, 24⟩ [.lend 2 "bag" ⟨176, 25, 176, 28⟩, .const (.cs "") 0 ⟨176, 30, 176, 32⟩]) false ⟨176, 8, 176, 33⟩
def s2_law : MS := .asg (.nm 4 "book" ⟨178, 12, 178, 16⟩) (.call 4 "_law_chain" ⟨178, 19, 178, 34⟩ ⟨178, 19, 178, 29⟩ [.lend 2 "bag" ⟨178, 30, 178, 33⟩]) true ⟨178, 12, 178, 34⟩
def b0_law : List MS := s2_law :: []
def s3_law : MS := .asg (.nm 4 "book" ⟨180, 12, 180, 16⟩) (.call 5 "_law_book" ⟨180, 19, 180, 33⟩ ⟨180, 19, 180, 28⟩ [.lend 2 "bag" ⟨180, 29, 180, 32⟩]) true ⟨180, 12, 180, 33⟩
def b1_law : List MS := s3_law :: []
def s4_law : MS := .ite (.tru (.prim (.eq) 0 ⟨177, 11, 177, 33⟩ ⟨177, 11, 177, 33⟩ ⟨177, 11, 177, 33⟩ [.call 3 "_law_draw" ⟨177, 11, 177, 28⟩ ⟨177, 11, 177, 20⟩ [.lend 2 "bag" ⟨177, 21, 177, 24⟩, .const (.ci 4) 0 ⟨177, 26, 177, 27⟩], .const (.ci 3) 0 ⟨177, 32, 177, 33⟩])) b0_law b1_law ⟨177, 8, 180, 33⟩
def s5_law : MS := .asg (.nm 5 "handed" ⟨181, 8, 181, 14⟩) (.prim (listO) 0 ⟨181, 17, 181, 27⟩ ⟨181, 17, 181, 21⟩ ⟨181, 17, 181, 27⟩ [.var 4 "book" ⟨181, 22, 181, 26⟩]) true ⟨181, 8, 181, 27⟩
def s6_law : MS := .asg (.nm 6 "empty" ⟨182, 8, 182, 13⟩) (.call 6 "_law_empty" ⟨182, 16, 182, 32⟩ ⟨182, 16, 182, 26⟩ [.var 4 "book" ⟨182, 27, 182, 31⟩]) true ⟨182, 8, 182, 32⟩
def g1_law : Tgt := .tp [.nm 7 "name" ⟨183, 12, 183, 16⟩, .nm 8 "form" ⟨183, 18, 183, 22⟩] 0 ⟨183, 12, 183, 22⟩
def s7_law : MS := .asg (.nm 9 "found" ⟨184, 12, 184, 17⟩) (.call 7 "begins" ⟨184, 20, 184, 40⟩ ⟨184, 20, 184, 26⟩ [.var 5 "handed" ⟨184, 27, 184, 33⟩, .var 7 "name" ⟨184, 35, 184, 39⟩]) false ⟨184, 12, 184, 40⟩
def s8_law : MS := .ret (.const (.cb false) 0 ⟨186, 23, 186, 28⟩) ⟨186, 16, 186, 28⟩
def b2_law : List MS := s8_law :: []
def s9_law : MS := .ite (.tOr (.tNot (.tru (.prim (.isi "list") 0 ⟨185, 19, 185, 42⟩ ⟨185, 19, 185, 29⟩ ⟨185, 37, 185, 41⟩ [.var 9 "found" ⟨185, 30, 185, 35⟩])) ⟨185, 15, 185, 42⟩) [.tBor (.tru (.prim (.ne) 0 ⟨185, 46, 185, 79⟩ ⟨185, 46, 185, 79⟩ ⟨185, 46, 185, 79⟩ [.var 9 "found" ⟨185, 46, 185, 51⟩, .call 8 "_law_begins" ⟨185, 55, 185, 79⟩ ⟨185, 55, 185, 66⟩ [.var 8 "form" ⟨185, 67, 185, 71⟩, .var 6 "empty" ⟨185, 73, 185, 78⟩]]))] ⟨185, 15, 185, 79⟩) b2_law [] ⟨185, 12, 186, 28⟩
def s10_law : MS := .app .append 9 "found" ⟨187, 12, 187, 17⟩ [.const (.cs "zq") 0 ⟨187, 25, 187, 29⟩] false ⟨187, 12, 187, 24⟩ ⟨187, 12, 187, 30⟩ ⟨187, 12, 187, 30⟩
def s11_law : MS := .ret (.const (.cb false) 0 ⟨189, 23, 189, 28⟩) ⟨189, 16, 189, 28⟩
def b3_law : List MS := s11_law :: []
def s12_law : MS := .ite (.tru (.prim (.ne) 0 ⟨188, 15, 188, 63⟩ ⟨188, 15, 188, 63⟩ ⟨188, 15, 188, 63⟩ [.call 7 "begins" ⟨188, 15, 188, 35⟩ ⟨188, 15, 188, 21⟩ [.var 5 "handed" ⟨188, 22, 188, 28⟩, .var 7 "name" ⟨188, 30, 188, 34⟩], .call 8 "_law_begins" ⟨188, 39, 188, 63⟩ ⟨188, 39, 188, 50⟩ [.var 8 "form" ⟨188, 51, 188, 55⟩, .var 6 "empty" ⟨188, 57, 188, 62⟩]])) b3_law [] ⟨188, 12, 189, 28⟩
def b4_law : List MS := s12_law :: []
def b5_law : List MS := s10_law :: b4_law
def b6_law : List MS := s9_law :: b5_law
def b7_law : List MS := s7_law :: b6_law
def s13_law : MS := .forS g1_law .list [.var 4 "book" ⟨183, 26, 183, 30⟩] ⟨183, 26, 183, 30⟩ ⟨183, 26, 183, 30⟩ b7_law ⟨183, 8, 189, 28⟩
def e0_law : ME := .var 11 "one" ⟨190, 17, 190, 20⟩
def i0_law : List ME := [.tNot (.tru (.call 10 "_law_has" ⟨190, 67, 190, 86⟩ ⟨190, 67, 190, 75⟩ [.var 4 "book" ⟨190, 76, 190, 80⟩, .var 11 "one" ⟨190, 82, 190, 85⟩])) ⟨190, 63, 190, 86⟩]
def g2_law : Tgt := .nm 11 "one" ⟨190, 25, 190, 28⟩
def c0_law : ME := .lc e0_law g2_law .list [.prim (plusO) 0 ⟨190, 32, 190, 59⟩ ⟨190, 32, 190, 59⟩ ⟨190, 32, 190, 59⟩ [.call 9 "_law_lacking" ⟨190, 32, 190, 50⟩ ⟨190, 32, 190, 44⟩ [.var 4 "book" ⟨190, 45, 190, 49⟩], .prim (.lst) 0 ⟨190, 53, 190, 59⟩ ⟨190, 53, 190, 59⟩ ⟨190, 53, 190, 59⟩ [.var 3 "none" ⟨190, 54, 190, 58⟩]]] ⟨190, 32, 190, 59⟩ ⟨190, 32, 190, 59⟩ i0_law { kind := .function, names := [(".0", .local), ("one", .local), ("_law_has", .globalImplicit), ("book", .free)], isGenerator := false, isCoroutine := false, more := [] } [("one", 11)] ⟨190, 16, 190, 87⟩
def s14_law : MS := .asg (.nm 10 "asked" ⟨190, 8, 190, 13⟩) (c0_law) true ⟨190, 8, 190, 87⟩
def e1_law : ME := .call 11 "_law_refused" ⟨191, 20, 191, 45⟩ ⟨191, 20, 191, 32⟩ [.var 5 "handed" ⟨191, 33, 191, 39⟩, .var 11 "one" ⟨191, 41, 191, 44⟩]
def i1_law : List ME := []
def g3_law : Tgt := .nm 11 "one" ⟨191, 50, 191, 53⟩
def c1_law : ME := .lc e1_law g3_law .list [.var 10 "asked" ⟨191, 57, 191, 62⟩] ⟨191, 57, 191, 62⟩ ⟨191, 57, 191, 62⟩ i1_law { kind := .function, names := [(".0", .local), ("one", .local), ("_law_refused", .globalImplicit), ("handed", .free)], isGenerator := false, isCoroutine := false, more := [] } [("one", 11)] ⟨191, 19, 191, 63⟩
def s15_law : MS := .ret (.const (.cb false) 0 ⟨192, 19, 192, 24⟩) ⟨192, 12, 192, 24⟩
def b8_law : List MS := s15_law :: []
def s16_law : MS := .ite (.tNot (.tru (.prim (.all) 0 ⟨191, 15, 191, 64⟩ ⟨191, 15, 191, 18⟩ ⟨191, 15, 191, 64⟩ [c1_law])) ⟨191, 11, 191, 64⟩) b8_law [] ⟨191, 8, 192, 24⟩
def s17_law : MS := .ret (.const (.cb false) 0 ⟨194, 19, 194, 24⟩) ⟨194, 12, 194, 24⟩
def b9_law : List MS := s17_law :: []
def s18_law : MS := .ite (.tru (.prim (.ne) 0 ⟨193, 11, 193, 25⟩ ⟨193, 11, 193, 25⟩ ⟨193, 11, 193, 25⟩ [.var 5 "handed" ⟨193, 11, 193, 17⟩, .var 4 "book" ⟨193, 21, 193, 25⟩])) b9_law [] ⟨193, 8, 194, 24⟩
def b10_law : List MS := s18_law :: []
def b11_law : List MS := s16_law :: b10_law
def b12_law : List MS := s14_law :: b11_law
def b13_law : List MS := s13_law :: b12_law
def b14_law : List MS := s6_law :: b13_law
def b15_law : List MS := s5_law :: b14_law
def b16_law : List MS := s4_law :: b15_law
def b17_law : List MS := s1_law :: b16_law
def b18_law : List MS := s0_law :: b17_law
def s19_law : MS := .forS g0_law .range1 [.prim (.max2) 0 ⟨174, 19, 174, 47⟩ ⟨174, 19, 174, 22⟩ ⟨174, 19, 174, 47⟩ [.const (.ci 1) 0 ⟨174, 23, 174, 24⟩, .prim (.min2) 0 ⟨174, 26, 174, 46⟩ ⟨174, 26, 174, 29⟩ ⟨174, 26, 174, 46⟩ [.const (.ci 10) 0 ⟨174, 30, 174, 32⟩, .prim (lenO) 0 ⟨174, 34, 174, 45⟩ ⟨174, 34, 174, 37⟩ ⟨174, 34, 174, 45⟩ [.var 0 "script" ⟨174, 38, 174, 44⟩]]]] ⟨174, 13, 174, 18⟩ ⟨174, 13, 174, 48⟩ b18_law ⟨174, 4, 194, 24⟩
def s20_law : MS := .ret (.const (.cb true) 0 ⟨195, 11, 195, 15⟩) ⟨195, 4, 195, 15⟩
def b19_law : List MS := s20_law :: []
def b20_law : List MS := s19_law :: b19_law
def d_law : Def := ⟨1, 12, [], b20_law⟩
theorem D_parts_of : DefOk G_parts_of N_parts_of ["form"] s_parts_of d_parts_of := ⟨⟨rfl, rfl, rfl, by decide +kernel, rfl, by decide +kernel, by decide +kernel⟩, by kernel_rfl, by decide +kernel, rfl, rfl⟩
theorem D__law_cell_at : DefOk G__law_cell_at N__law_cell_at ["script", "k"] s__law_cell_at d__law_cell_at := ⟨⟨rfl, rfl, rfl, by decide +kernel, rfl, by decide +kernel, by decide +kernel⟩, by kernel_rfl, by decide +kernel, rfl, rfl⟩
theorem D__law_bag : DefOk G__law_bag N__law_bag ["cell", "place"] s__law_bag d__law_bag := ⟨⟨rfl, rfl, rfl, by decide +kernel, rfl, by decide +kernel, by decide +kernel⟩, by kernel_rfl, by decide +kernel, rfl, rfl⟩
theorem D__law_draw : DefOk G__law_draw N__law_draw ["bag", "many"] s__law_draw d__law_draw := ⟨⟨rfl, rfl, rfl, by decide +kernel, rfl, by decide +kernel, by decide +kernel⟩, by kernel_rfl, by decide +kernel, rfl, rfl⟩
theorem D__law_empty : DefOk G__law_empty N__law_empty ["book"] s__law_empty d__law_empty := ⟨⟨rfl, rfl, rfl, by decide +kernel, rfl, by decide +kernel, by decide +kernel⟩, by kernel_rfl, by decide +kernel, rfl, rfl⟩
theorem D__law_begins : DefOk G__law_begins N__law_begins ["form", "empty"] s__law_begins d__law_begins := ⟨⟨rfl, rfl, rfl, by decide +kernel, rfl, by decide +kernel, by decide +kernel⟩, by kernel_rfl, by decide +kernel, rfl, rfl⟩
theorem D__law_has : DefOk G__law_has N__law_has ["book", "name"] s__law_has d__law_has := ⟨⟨rfl, rfl, rfl, by decide +kernel, rfl, by decide +kernel, by decide +kernel⟩, by kernel_rfl, by decide +kernel, rfl, rfl⟩
theorem D_may_be_empty : DefOk G_may_be_empty N_may_be_empty ["form", "empty"] s_may_be_empty d_may_be_empty := ⟨⟨rfl, rfl, rfl, by decide +kernel, rfl, by decide +kernel, by decide +kernel⟩, by kernel_rfl, by decide +kernel, rfl, rfl⟩
theorem D_first_parts : DefOk G_first_parts N_first_parts ["form", "empty"] s_first_parts d_first_parts := ⟨⟨rfl, rfl, rfl, by decide +kernel, rfl, by decide +kernel, by decide +kernel⟩, by kernel_rfl, by decide +kernel, rfl, rfl⟩
theorem D__law_name : DefOk G__law_name N__law_name ["bag", "last"] s__law_name d__law_name := ⟨⟨rfl, rfl, rfl, by decide +kernel, rfl, by decide +kernel, by decide +kernel⟩, by kernel_rfl, by decide +kernel, rfl, rfl⟩
theorem D__law_signs : DefOk G__law_signs N__law_signs ["bag"] s__law_signs d__law_signs := ⟨⟨rfl, rfl, rfl, by decide +kernel, rfl, by decide +kernel, by decide +kernel⟩, by kernel_rfl, by decide +kernel, rfl, rfl⟩
theorem D__law_lacking : DefOk G__law_lacking N__law_lacking ["book"] s__law_lacking d__law_lacking := ⟨⟨rfl, rfl, rfl, by decide +kernel, rfl, by decide +kernel, by decide +kernel⟩, by kernel_rfl, by decide +kernel, rfl, rfl⟩
theorem D_emptiness : DefOk G_emptiness N_emptiness ["book"] s_emptiness d_emptiness := ⟨⟨rfl, rfl, rfl, by decide +kernel, rfl, by decide +kernel, by decide +kernel⟩, by kernel_rfl, by decide +kernel, rfl, rfl⟩
theorem D__law_names : DefOk G__law_names N__law_names ["bag", "many"] s__law_names d__law_names := ⟨⟨rfl, rfl, rfl, by decide +kernel, rfl, by decide +kernel, by decide +kernel⟩, by kernel_rfl, by decide +kernel, rfl, rfl⟩
theorem D__law_form : DefOk G__law_form N__law_form ["bag", "names"] s__law_form d__law_form := ⟨⟨rfl, rfl, rfl, by decide +kernel, rfl, by decide +kernel, by decide +kernel⟩, by kernel_rfl, by decide +kernel, rfl, rfl⟩
theorem D_begins : DefOk G_begins N_begins ["book", "name"] s_begins d_begins := ⟨⟨rfl, rfl, rfl, by decide +kernel, rfl, by decide +kernel, by decide +kernel⟩, by kernel_rfl, by decide +kernel, rfl, rfl⟩
theorem D__law_book : DefOk G__law_book N__law_book ["bag"] s__law_book d__law_book := ⟨⟨rfl, rfl, rfl, by decide +kernel, rfl, by decide +kernel, by decide +kernel⟩, by kernel_rfl, by decide +kernel, rfl, rfl⟩
theorem D__law_chain : DefOk G__law_chain N__law_chain ["bag"] s__law_chain d__law_chain := ⟨⟨rfl, rfl, rfl, by decide +kernel, rfl, by decide +kernel, by decide +kernel⟩, by kernel_rfl, by decide +kernel, rfl, rfl⟩
theorem C__law_refused : defBody s__law_refused = refBody "begins" "NoRule" l__law_refused z__law_refused := by kernel_rfl
theorem F__law_refused : FnScope refN ["book", "name"] (defScope s__law_refused) := ⟨rfl, rfl, rfl, by decide +kernel, rfl, by decide +kernel, by decide +kernel⟩
theorem S__law_refused : refSc "begins" "NoRule" l__law_refused z__law_refused (defScope s__law_refused) = true := by decide +kernel
theorem D_law : DefOk G_law N_law ["script"] s_law d_law := ⟨⟨rfl, rfl, rfl, by decide +kernel, rfl, by decide +kernel, by decide +kernel⟩, by kernel_rfl, by decide +kernel, rfl, rfl⟩
def T_parts_of : Tbl := ⟨[], [], 1000000⟩
def T__law_cell_at : Tbl := ⟨[], [], 1000000⟩
def T__law_bag : Tbl := ⟨[], [], 1000000⟩
def T__law_draw : Tbl := ⟨[], [], 1000000⟩
def T__law_empty : Tbl := ⟨[], [], 1000000⟩
def T__law_begins : Tbl := ⟨[], [], 1000000⟩
def T__law_has : Tbl := ⟨[], [], 1000000⟩
def T_may_be_empty : Tbl := ⟨[d_parts_of.run T_parts_of], [], 1000000⟩
theorem tf0_may_be_empty : T_may_be_empty.fns[0]? = some (d_parts_of.run T_parts_of) := rfl
def T_first_parts : Tbl := ⟨[d_parts_of.run T_parts_of], [], 1000000⟩
theorem tf0_first_parts : T_first_parts.fns[0]? = some (d_parts_of.run T_parts_of) := rfl
def T__law_name : Tbl := ⟨[d__law_draw.run T__law_draw], [], 1000000⟩
theorem tf0__law_name : T__law_name.fns[0]? = some (d__law_draw.run T__law_draw) := rfl
def T__law_signs : Tbl := ⟨[d__law_draw.run T__law_draw], [], 1000000⟩
theorem tf0__law_signs : T__law_signs.fns[0]? = some (d__law_draw.run T__law_draw) := rfl
def T__law_lacking : Tbl := ⟨[d__law_has.run T__law_has], [], 1000000⟩
theorem tf0__law_lacking : T__law_lacking.fns[0]? = some (d__law_has.run T__law_has) := rfl
def T_emptiness : Tbl := ⟨[d_may_be_empty.run T_may_be_empty], [], 1000000⟩
theorem tf0_emptiness : T_emptiness.fns[0]? = some (d_may_be_empty.run T_may_be_empty) := rfl
def T__law_names : Tbl := ⟨[d__law_name.run T__law_name], [], 1000000⟩
theorem tf0__law_names : T__law_names.fns[0]? = some (d__law_name.run T__law_name) := rfl
def T__law_form : Tbl := ⟨[d__law_draw.run T__law_draw, d__law_signs.run T__law_signs], [], 1000000⟩
theorem tf0__law_form : T__law_form.fns[0]? = some (d__law_draw.run T__law_draw) := rfl
theorem tf1__law_form : T__law_form.fns[1]? = some (d__law_signs.run T__law_signs) := rfl
def T_begins : Tbl := ⟨[d_emptiness.run T_emptiness, d_first_parts.run T_first_parts], [], 1000000⟩
theorem tf0_begins : T_begins.fns[0]? = some (d_emptiness.run T_emptiness) := rfl
theorem tf1_begins : T_begins.fns[1]? = some (d_first_parts.run T_first_parts) := rfl
def T__law_book : Tbl := ⟨[d__law_draw.run T__law_draw, d__law_names.run T__law_names, d__law_form.run T__law_form], [], 1000000⟩
theorem tf0__law_book : T__law_book.fns[0]? = some (d__law_draw.run T__law_draw) := rfl
theorem tf1__law_book : T__law_book.fns[1]? = some (d__law_names.run T__law_names) := rfl
theorem tf2__law_book : T__law_book.fns[2]? = some (d__law_form.run T__law_form) := rfl
def T__law_chain : Tbl := ⟨[d__law_names.run T__law_names, d__law_draw.run T__law_draw], [], 1000000⟩
theorem tf0__law_chain : T__law_chain.fns[0]? = some (d__law_names.run T__law_names) := rfl
theorem tf1__law_chain : T__law_chain.fns[1]? = some (d__law_draw.run T__law_draw) := rfl
def T_law : Tbl := ⟨[d__law_bag.run T__law_bag, d__law_cell_at.run T__law_cell_at, d__law_name.run T__law_name, d__law_draw.run T__law_draw, d__law_chain.run T__law_chain, d__law_book.run T__law_book, d__law_empty.run T__law_empty, d_begins.run T_begins, d__law_begins.run T__law_begins, d__law_lacking.run T__law_lacking, d__law_has.run T__law_has, refF (d_begins.run T_begins)], [], 1000000⟩
theorem tf0_law : T_law.fns[0]? = some (d__law_bag.run T__law_bag) := rfl
theorem tf1_law : T_law.fns[1]? = some (d__law_cell_at.run T__law_cell_at) := rfl
theorem tf2_law : T_law.fns[2]? = some (d__law_name.run T__law_name) := rfl
theorem tf3_law : T_law.fns[3]? = some (d__law_draw.run T__law_draw) := rfl
theorem tf4_law : T_law.fns[4]? = some (d__law_chain.run T__law_chain) := rfl
theorem tf5_law : T_law.fns[5]? = some (d__law_book.run T__law_book) := rfl
theorem tf6_law : T_law.fns[6]? = some (d__law_empty.run T__law_empty) := rfl
theorem tf7_law : T_law.fns[7]? = some (d_begins.run T_begins) := rfl
theorem tf8_law : T_law.fns[8]? = some (d__law_begins.run T__law_begins) := rfl
theorem tf9_law : T_law.fns[9]? = some (d__law_lacking.run T__law_lacking) := rfl
theorem tf10_law : T_law.fns[10]? = some (d__law_has.run T__law_has) := rfl
theorem tf11_law : T_law.fns[11]? = some (refF (d_begins.run T_begins)) := rfl
end Law

set_option Elab.async false
set_option maxRecDepth 100000
set_option maxHeartbeats 0
set_option linter.all false
namespace Law
open PySem L2 Mn
/-! draws -/
def bagV (a b c : Int) : Val := .lst true [.int a, .int b, .int c]
def Bag (w : Val) (n : Nat) : Prop := ∃ a b c : Int, w = bagV a b c ∧ 0 ≤ b ∧ b < 2 ^ 200 ∧ 0 ≤ c ∧ c ≤ n
theorem log2_lt {z : Int} {k m : Nat} (h : z.natAbs < 2 ^ k) (hm : k ≤ m) (h0 : 0 < m := by decide) : z.natAbs.log2 < m := by
  by_cases e : z.natAbs = 0
  · rw [e]; simpa using h0
  · exact Nat.lt_of_lt_of_le ((Nat.log2_lt e).2 h) hm
theorem ixb0 {a b c : Int} {o u v : Bool} : ixO.sem [(.lst o [.int a, .int b, .int c], u), (.int 0, v)] = some (.int a, false) := rfl
theorem ixb1 {a b c : Int} {o u v : Bool} : ixO.sem [(.lst o [.int a, .int b, .int c], u), (.int 1, v)] = some (.int b, false) := rfl
theorem ixb2 {a b c : Int} {o u v : Bool} : ixO.sem [(.lst o [.int a, .int b, .int c], u), (.int 2, v)] = some (.int c, false) := rfl
theorem stb0 {a b c x : Int} : stLv (.lst true [.int a, .int b, .int c]) (.int 0) (.int x) = some (.lst true [.int x, .int b, .int c]) := rfl
theorem stb2 {a b c x : Int} : stLv (.lst true [.int a, .int b, .int c]) (.int 2) (.int x) = some (.lst true [.int a, .int b, .int x]) := rfl
theorem draw_ok {w : Val} {n : Nat} {m : Int} (hb : Bag w n) (hn : n ≤ 1000000 := by omega) (hm : 0 < m := by omega) (hm2 : m ≤ 100000 := by omega) :
    ∃ (r : Int) (w' : Val), 0 ≤ r ∧ r < m ∧ Bag w' (n + 1) ∧ d__law_draw.run T__law_draw [w, .int m] = .ok (.int r) [some w', none] := by
  obtain ⟨a, b, c, rfl, hb, hb2, hc, hc2⟩ := hb
  have hml : m.natAbs.log2 < 9000 := by
    have : m.natAbs < 2 ^ 20 := by omega
    have h2 := (Nat.log2_lt (n := m.natAbs) (k := 20) (by omega)).2 this
    omega
  by_cases h : 1 < a
  · refine ⟨a % m, bagV (a / m) b c, Int.emod_nonneg _ (by omega), Int.emod_lt_of_pos _ hm, ⟨_, _, _, rfl, hb, hb2, hc, by omega⟩, ?_⟩
    simp [small_line, q_nil, exL, exS, evE, evL, evI, evT, evTAnd, evTOr, evAnd, evOr, evIfs, evArgs, lendIx, lendOut, lendBack, forGo, R.bind_ok, R.bind_exc, R.bind_stuck, q_addI, q_addS, q_addL, q_addT, q_sub, q_mul, q_fdiv, q_mod, q_pow, q_neg, q_ltI, q_ltS, q_lt', q_le, q_gt, q_ge, q_eqI, q_neI, q_eqS, q_neS, q_eqB, q_neB, q_isN, q_notN, q_isi, q_lst, q_tup, q_dnK, q_dnT, q_ixL, q_ixT, q_ixC, q_ixS, r_ixL, r_ixT, r_ixS, q_lenL, q_lenT, q_lenC, q_lenD, q_lenS, q_listL, q_listT, q_listD, q_tupOf, q_max, q_min, q_intB, q_intI, q_all, q_any, q_slL, q_slT, q_slS, q_inS1, q_ninS1, CV.val, Val.truth, Tgt.bind, Tgt.bindL, storable, fz?, Def.outs, Val.noOwn, noOwnL, pureL, ME.pure, IK.items, IK.stays, List.range_succ, List.replicate, MOp.sem, isLst, parts?, Def.run, s0__law_draw, s1__law_draw, s2__law_draw, b0__law_draw, b1__law_draw, b2__law_draw, s3__law_draw, s4__law_draw, s5__law_draw, s6__law_draw, s7__law_draw, b3__law_draw, b4__law_draw, b5__law_draw, b6__law_draw, b7__law_draw, d__law_draw, bagV, h, hm, hml, ixb0, ixb1, ixb2, stb0, stb2]
  · have l1 : (c + 1).natAbs.log2 < 1000 := log2_lt (m := 1000) (k := 400) (by omega) (by decide)
    have l2 : (b + 7368787 * (c + 1)).natAbs.log2 < 1000000 := log2_lt (m := 1000000) (k := 400) (by omega) (by decide)
    have l3 : ((b + 7368787 * (c + 1)) ^ 3 % 170141183460469231731687303715884105727 + 15485863 * (c + 1)).natAbs.log2 < 1000000 := log2_lt (m := 1000000) (k := 400) (by
      have := Int.emod_lt_of_pos ((b + 7368787 * (c + 1)) ^ 3) (b := 170141183460469231731687303715884105727) (by decide)
      have := Int.emod_nonneg ((b + 7368787 * (c + 1)) ^ 3) (b := 170141183460469231731687303715884105727) (by decide)
      generalize (b + 7368787 * (c + 1)) ^ 3 % 170141183460469231731687303715884105727 = z at *
      omega) (by decide)
    have l4 : Nat.log2 7368787 + (c + 1).natAbs.log2 < 1000000 := by
      have : Nat.log2 7368787 = 22 := by decide +kernel
      omega
    have l5 : Nat.log2 15485863 + (c + 1).natAbs.log2 < 1000000 := by
      have : Nat.log2 15485863 = 23 := by decide +kernel
      omega
    refine ⟨((((b + 7368787 * (c + 1)) ^ 3 % 170141183460469231731687303715884105727 + 15485863 * (c + 1)) ^ 3 % 162259276829213363391578010288127) / 1024) % m, bagV a b (c + 1), Int.emod_nonneg _ (by omega), Int.emod_lt_of_pos _ hm, ⟨_, _, _, rfl, hb, hb2, by omega, by omega⟩, ?_⟩
    have l6 : Nat.log2 1024 < 9000 := by decide +kernel
    simp [small_line, q_nil, exL, exS, evE, evL, evI, evT, evTAnd, evTOr, evAnd, evOr, evIfs, evArgs, lendIx, lendOut, lendBack, forGo, R.bind_ok, R.bind_exc, R.bind_stuck, q_addI, q_addS, q_addL, q_addT, q_sub, q_mul, q_fdiv, q_mod, q_pow, q_neg, q_ltI, q_ltS, q_lt', q_le, q_gt, q_ge, q_eqI, q_neI, q_eqS, q_neS, q_eqB, q_neB, q_isN, q_notN, q_isi, q_lst, q_tup, q_dnK, q_dnT, q_ixL, q_ixT, q_ixC, q_ixS, r_ixL, r_ixT, r_ixS, q_lenL, q_lenT, q_lenC, q_lenD, q_lenS, q_listL, q_listT, q_listD, q_tupOf, q_max, q_min, q_intB, q_intI, q_all, q_any, q_slL, q_slT, q_slS, q_inS1, q_ninS1, CV.val, Val.truth, Tgt.bind, Tgt.bindL, storable, fz?, Def.outs, Val.noOwn, noOwnL, pureL, ME.pure, IK.items, IK.stays, List.range_succ, List.replicate, MOp.sem, isLst, parts?, Def.run, s0__law_draw, s1__law_draw, s2__law_draw, b0__law_draw, b1__law_draw, b2__law_draw, s3__law_draw, s4__law_draw, s5__law_draw, s6__law_draw, s7__law_draw, b3__law_draw, b4__law_draw, b5__law_draw, b6__law_draw, b7__law_draw, d__law_draw, bagV, h, hm, hml, l1, l2, l3, l4, l5, l6, ixb0, ixb1, ixb2, stb0, stb2]
end Law

set_option Elab.async false
set_option maxRecDepth 100000
set_option maxHeartbeats 0
set_option linter.all false
namespace Law
open PySem L2 Mn
def L26 : Str := "abcdefghijklmnopqrstuvwxyz"
theorem L26e : Str.ofString "abcdefghijklmnopqrstuvwxyz" = L26 := rfl
theorem L26_len : L26.length = 26 := by decide +kernel
theorem L26_tl : L26.cps.toList.length = 26 := by decide +kernel
theorem L26_all : ∀ c ∈ tx L26, 97 ≤ c ∧ c ≤ 122 := by decide +kernel
theorem L26_mem {c : Nat} : c ∈ tx L26 ↔ 97 ≤ c ∧ c ≤ 122 := by
  refine ⟨L26_all c, fun h => ?_⟩
  have : ∀ c < 123, 97 ≤ c → c ∈ tx L26 := by decide +kernel
  exact this c (by omega) h.1
theorem L26_low {i : Nat} (h : i < L26.cps.toList.length) : 97 ≤ L26.cps.toList[i] ∧ L26.cps.toList[i] ≤ 122 := L26_all _ (tx_mem h)
def Low (z : Str) : Prop := ∀ c ∈ tx z, 97 ≤ c ∧ c ≤ 122
def IsName (z : Str) : Prop := 1 ≤ z.length ∧ z.length ≤ 8 ∧ Low z
theorem Low.ok {z : Str} (h : Low z) : PyData.strOk z = true := tx_ok.mpr fun c hc => by have := h c hc; omega
theorem IsName.ok {z : Str} (h : IsName z) : PyData.strOk z = true := h.2.2.ok
theorem Low.app {a b : Str} (ha : Low a) (hb : Low b) : Low (a ++ b) := fun c hc => by
  rw [tx_app] at hc
  exact (List.mem_append.mp hc).elim (ha c) (hb c)
theorem Low.cut {a : Str} {lo hi : Option Int} (ha : Low a) : Low (cutS a lo hi) := fun c hc => by
  rw [tx_cut] at hc
  exact ha c (mem_cutL hc)
theorem Low.one {c : Nat} (h : 97 ≤ c ∧ c ≤ 122) : Low ⟨#[c]⟩ := fun d hd => by
  rw [tx_one] at hd
  rw [List.mem_singleton.mp hd]; exact h
theorem Low.nil : Low (Str.ofString "") := fun c hc => by rw [tx_nil] at hc; cases hc
theorem Low.join {ys : List Str} (h : ∀ y ∈ ys, Low y) : Low (Txt.join (Str.ofString "") ys) := fun c hc => by
  rw [tx_join] at hc
  obtain ⟨l, hl, hc⟩ := List.mem_flatten.mp hc
  obtain ⟨y, hy, rfl⟩ := List.mem_map.mp hl
  exact h y hy c hc
theorem ok_nil : PyData.strOk (Str.ofString "") = true := by decide +kernel
/-- letters drawn in a comprehension -/
theorem letters_ok {w : Val} {n : Nat} (hb : Bag w n) (hn : n ≤ 900000) {x1 x3 x4 x5 : Option Val} :
    ∃ (zs : List Str) (w' : Val), evE T__law_name c0__law_name [some w, x1, some (.str L26), x3, x4, x5, none] = .ok (.lst true (zs.map Val.str), true, [some w', x1, some (.str L26), x3, x4, x5, none]) ∧ (∀ z ∈ zs, z.length = 1 ∧ Low z) ∧ zs.length ≤ 7 ∧ Bag w' (n + 10) := by
  obtain ⟨r, w1, p1, p2, p3, e1⟩ := draw_ok (m := 8) hb
  obtain ⟨ys, envF, q1, q2, q3, q4⟩ := lcGo_inv (vs := [6]) (bt := g0__law_name.bind) (c := evIfs T__law_name i0__law_name) (f := evE T__law_name e0__law_name) 8
    (fun i env => ∃ w', env = [some w', x1, some (.str L26), x3, x4, x5, none] ∧ Bag w' (n + 1 + i)) (fun y => ∃ z : Str, y = .str z ∧ z.length = 1 ∧ Low z)
    (items := rangeV 0 r.toNat) (i := 0) (env := [some w1, x1, some (.str L26), x3, x4, x5, none]) (by rw [rangeV_len]; omega) (by
      rintro i x env hi hx ⟨w', rfl, h1⟩
      obtain ⟨r2, w2, s1, s2, s3, e2⟩ := draw_ok (m := 26) h1
      have hj : r2.toNat < L26.cps.toList.length := by rw [L26_tl]; omega
      refine ⟨_, _, .str ⟨#[L26.cps.toList[r2.toNat]]⟩, true, [some w2, x1, some (.str L26), x3, x4, x5, some x], rfl, rfl, ?_, rfl, ⟨_, rfl, rfl, .one (L26_low hj)⟩, w2, rfl, s3⟩
      have l1 : L26.length ≤ sizeLine := by decide +kernel
      have l2 : r2 < (L26.cps.toList.length : Int) := by rw [L26_tl]; omega
      simp [small_line, q_nil, exL, exS, evE, evL, evI, evT, evTAnd, evTOr, evAnd, evOr, evIfs, evArgs, lendIx, lendOut, lendBack, forGo, R.bind_ok, R.bind_exc, R.bind_stuck, q_addI, q_addS, q_addL, q_addT, q_sub, q_mul, q_fdiv, q_mod, q_pow, q_neg, q_ltI, q_ltS, q_lt', q_le, q_gt, q_ge, q_eqI, q_neI, q_eqS, q_neS, q_eqB, q_neB, q_isN, q_notN, q_isi, q_lst, q_tup, q_dnK, q_dnT, q_ixL, q_ixT, q_ixC, q_ixS, r_ixL, r_ixT, r_ixS, q_lenL, q_lenT, q_lenC, q_lenD, q_lenS, q_listL, q_listT, q_listD, q_tupOf, q_max, q_min, q_intB, q_intI, q_all, q_any, q_slL, q_slT, q_slS, q_inS1, q_ninS1, CV.val, Val.truth, Tgt.bind, Tgt.bindL, storable, fz?, Def.outs, Val.noOwn, noOwnL, pureL, ME.pure, IK.items, IK.stays, List.range_succ, List.replicate, MOp.sem, isLst, parts?, e0__law_name, tf0__law_name, g0__law_name, wipeE, e2, r_ixS l1 s1 l2]) ⟨w1, rfl, p3⟩
  obtain ⟨w', rfl, h1⟩ := q4
  rw [rangeV_len] at h1 q3
  obtain ⟨zs, rfl, hz⟩ : ∃ zs : List Str, ys = zs.map Val.str ∧ ∀ z ∈ zs, z.length = 1 ∧ Low z := strs_of q2
  rw [List.length_map] at q3
  refine ⟨zs, w', ?_, hz, by omega, by obtain ⟨a, b, c, rfl, h2, h3, h4, h5⟩ := h1; exact ⟨a, b, c, rfl, h2, h3, h4, by omega⟩⟩
  have hs : small62 r = true := by simp [small62]; omega
  have hl : zs.length ≤ sizeLine := by have := big_line; omega
  simp [small_line, q_nil, exL, exS, evE, evL, evI, evT, evTAnd, evTOr, evAnd, evOr, evIfs, evArgs, lendIx, lendOut, lendBack, forGo, R.bind_ok, R.bind_exc, R.bind_stuck, q_addI, q_addS, q_addL, q_addT, q_sub, q_mul, q_fdiv, q_mod, q_pow, q_neg, q_ltI, q_ltS, q_lt', q_le, q_gt, q_ge, q_eqI, q_neI, q_eqS, q_neS, q_eqB, q_neB, q_isN, q_notN, q_isi, q_lst, q_tup, q_dnK, q_dnT, q_ixL, q_ixT, q_ixC, q_ixS, r_ixL, r_ixT, r_ixS, q_lenL, q_lenT, q_lenC, q_lenD, q_lenS, q_listL, q_listT, q_listD, q_tupOf, q_max, q_min, q_intB, q_intI, q_all, q_any, q_slL, q_slT, q_slS, q_inS1, q_ninS1, CV.val, Val.truth, Tgt.bind, Tgt.bindL, storable, fz?, Def.outs, Val.noOwn, noOwnL, pureL, ME.pure, IK.items, IK.stays, List.range_succ, List.replicate, MOp.sem, isLst, parts?, c0__law_name, tf0__law_name, e1, hs, wipeOk, wipeE, q1, hl]
theorem sum_one : ∀ {zs : List Str}, (∀ z ∈ zs, z.length = 1) → (zs.map (·.length)).sum = zs.length
  | [], _ => rfl
  | z :: r, h => by
    have := sum_one (zs := r) fun y hy => h y (List.mem_cons_of_mem _ hy)
    rw [List.map_cons, List.sum_cons, this, h z List.mem_cons_self, List.length_cons]; omega
theorem len_join1 {zs : List Str} (h : ∀ z ∈ zs, z.length = 1) : (Txt.join (Str.ofString "") zs).length = zs.length := by
  rw [← tx_len, tx_join, List.length_flatten, List.map_map]
  have : (List.length ∘ tx : Str → Nat) = fun z => z.length := funext tx_len
  rw [this]
  exact sum_one h
theorem Bag.mono {w : Val} {n m : Nat} (h : Bag w n) (k : n ≤ m := by omega) : Bag w m := by
  obtain ⟨a, b, c, rfl, h2, h3, h4, h5⟩ := h
  exact ⟨a, b, c, rfl, h2, h3, h4, by omega⟩
theorem name_ok {w : Val} {n : Nat} {last : Str} (hb : Bag w n) (hn : n ≤ 800000) (hl : last.length ≤ 8) (ho : Low last) :
    ∃ (z : Str) (w' : Val), IsName z ∧ Bag w' (n + 20) ∧ d__law_name.run T__law_name [w, .str last] = .ok (.str z) [some w', none] := by
  have hsz := big_line
  obtain ⟨r1, w1, p1, p2, p3, e1⟩ := draw_ok (m := 6) hb
  obtain ⟨r2, w2, q1, q2, q3, e2⟩ := draw_ok (m := 26) p3
  have hj : r2.toNat < L26.cps.toList.length := by rw [L26_tl]; omega
  have l1 : L26.length ≤ sizeLine := by decide +kernel
  have l2 : r2 < (L26.cps.toList.length : Int) := by rw [L26_tl]; omega
  have hix := fun u v => r_ixS (u := u) (v := v) l1 q1 l2
  have hlow := L26_low hj
  generalize L26.cps.toList[r2.toNat] = ch at *
  have hll : last.length ≤ sizeLine := by omega
  have hone : Str.length (⟨#[ch]⟩ : Str) = 1 := rfl
  by_cases c0 : r1 = 0 ∧ 0 < last.length ∧ last.length < 8
  · obtain ⟨rfl, c1, c2⟩ := c0
    have lx : last.length + (⟨#[ch]⟩ : Str).length ≤ sizeLine := by omega
    have i2 : (last.length : Int) < 8 := by omega
    refine ⟨last ++ ⟨#[ch]⟩, w2, ⟨by rw [str_len_app]; omega, by rw [str_len_app]; omega, ho.app (.one hlow)⟩, q3.mono, ?_⟩
    rw [Def.run]
    simp [small_line, q_nil, exL, exS, evE, evL, evI, evT, evTAnd, evTOr, evAnd, evOr, evIfs, evArgs, lendIx, lendOut, lendBack, forGo, R.bind_ok, R.bind_exc, R.bind_stuck, q_addI, q_addS, q_addL, q_addT, q_sub, q_mul, q_fdiv, q_mod, q_pow, q_neg, q_ltI, q_ltS, q_lt', q_le, q_gt, q_ge, q_eqI, q_neI, q_eqS, q_neS, q_eqB, q_neB, q_isN, q_notN, q_isi, q_lst, q_tup, q_dnK, q_dnT, q_ixL, q_ixT, q_ixC, q_ixS, r_ixL, r_ixT, r_ixS, q_lenL, q_lenT, q_lenC, q_lenD, q_lenS, q_listL, q_listT, q_listD, q_tupOf, q_max, q_min, q_intB, q_intI, q_all, q_any, q_slL, q_slT, q_slS, q_inS1, q_ninS1, CV.val, Val.truth, Tgt.bind, Tgt.bindL, storable, fz?, Def.outs, Val.noOwn, noOwnL, pureL, ME.pure, IK.items, IK.stays, List.range_succ, List.replicate, MOp.sem, isLst, parts?, s0__law_name, s1__law_name, s2__law_name, s3__law_name, b0__law_name, s4__law_name, s5__law_name, b1__law_name, s6__law_name, s7__law_name, s8__law_name, b2__law_name, b3__law_name, s9__law_name, s10__law_name, b4__law_name, b5__law_name, b6__law_name, b7__law_name, b8__law_name, b9__law_name, b10__law_name, d__law_name, tf0__law_name, e1, e2, L26e, hix, hll, c1, i2, lx]
  by_cases c1 : r1 = 1 ∧ 1 < last.length
  · obtain ⟨rfl, c1⟩ := c1
    have lz : (cutS last (some 1) none).length = last.length - 1 := by rw [← tx_len, tx_drop (by decide), List.length_drop, tx_len]; rfl
    have i1 : (1 : Int) < last.length := by omega
    refine ⟨cutS last (some 1) none, w2, ⟨by omega, by omega, ho.cut⟩, q3.mono, ?_⟩
    rw [Def.run]
    simp [small_line, q_nil, exL, exS, evE, evL, evI, evT, evTAnd, evTOr, evAnd, evOr, evIfs, evArgs, lendIx, lendOut, lendBack, forGo, R.bind_ok, R.bind_exc, R.bind_stuck, q_addI, q_addS, q_addL, q_addT, q_sub, q_mul, q_fdiv, q_mod, q_pow, q_neg, q_ltI, q_ltS, q_lt', q_le, q_gt, q_ge, q_eqI, q_neI, q_eqS, q_neS, q_eqB, q_neB, q_isN, q_notN, q_isi, q_lst, q_tup, q_dnK, q_dnT, q_ixL, q_ixT, q_ixC, q_ixS, r_ixL, r_ixT, r_ixS, q_lenL, q_lenT, q_lenC, q_lenD, q_lenS, q_listL, q_listT, q_listD, q_tupOf, q_max, q_min, q_intB, q_intI, q_all, q_any, q_slL, q_slT, q_slS, q_inS1, q_ninS1, CV.val, Val.truth, Tgt.bind, Tgt.bindL, storable, fz?, Def.outs, Val.noOwn, noOwnL, pureL, ME.pure, IK.items, IK.stays, List.range_succ, List.replicate, MOp.sem, isLst, parts?, s0__law_name, s1__law_name, s2__law_name, s3__law_name, b0__law_name, s4__law_name, s5__law_name, b1__law_name, s6__law_name, s7__law_name, s8__law_name, b2__law_name, b3__law_name, s9__law_name, s10__law_name, b4__law_name, b5__law_name, b6__law_name, b7__law_name, b8__law_name, b9__law_name, b10__law_name, d__law_name, tf0__law_name, e1, e2, L26e, hix, hll, i1, q_slS]
  by_cases c2 : r1 = 2 ∧ last ≠ Str.ofString ""
  · obtain ⟨rfl, c2⟩ := c2
    have hpos : 0 < last.length := Nat.pos_of_ne_zero fun h => c2 (eq_nil.mpr h)
    obtain ⟨r3, w3, s1, s2, s3, e3⟩ := draw_ok (m := last.length) q3
    have z1 : (cutS last none (some r3)).length = r3.toNat := by rw [← tx_len, tx_take s1, List.length_take, tx_len]; omega
    have z2 : (cutS last (some (r3 + 1)) none).length = last.length - (r3 + 1).toNat := by rw [← tx_len, tx_drop (by omega), List.length_drop, tx_len]
    have z3 : (cutS last none (some r3) ++ ⟨#[ch]⟩).length = r3.toNat + 1 := by rw [str_len_app]; omega
    have z4 : (cutS last none (some r3) ++ ⟨#[ch]⟩ ++ cutS last (some (r3 + 1)) none).length = last.length := by rw [str_len_app]; omega
    have lx : (cutS last none (some r3)).length + (⟨#[ch]⟩ : Str).length ≤ sizeLine := by omega
    have ly : (cutS last none (some r3) ++ ⟨#[ch]⟩).length + (cutS last (some (r3 + 1)) none).length ≤ sizeLine := by omega
    refine ⟨cutS last none (some r3) ++ ⟨#[ch]⟩ ++ cutS last (some (r3 + 1)) none, w3, ⟨by omega, by omega, (ho.cut.app (.one hlow)).app ho.cut⟩, s3.mono, ?_⟩
    rw [Def.run]
    simp [small_line, q_nil, exL, exS, evE, evL, evI, evT, evTAnd, evTOr, evAnd, evOr, evIfs, evArgs, lendIx, lendOut, lendBack, forGo, R.bind_ok, R.bind_exc, R.bind_stuck, q_addI, q_addS, q_addL, q_addT, q_sub, q_mul, q_fdiv, q_mod, q_pow, q_neg, q_ltI, q_ltS, q_lt', q_le, q_gt, q_ge, q_eqI, q_neI, q_eqS, q_neS, q_eqB, q_neB, q_isN, q_notN, q_isi, q_lst, q_tup, q_dnK, q_dnT, q_ixL, q_ixT, q_ixC, q_ixS, r_ixL, r_ixT, r_ixS, q_lenL, q_lenT, q_lenC, q_lenD, q_lenS, q_listL, q_listT, q_listD, q_tupOf, q_max, q_min, q_intB, q_intI, q_all, q_any, q_slL, q_slT, q_slS, q_inS1, q_ninS1, CV.val, Val.truth, Tgt.bind, Tgt.bindL, storable, fz?, Def.outs, Val.noOwn, noOwnL, pureL, ME.pure, IK.items, IK.stays, List.range_succ, List.replicate, MOp.sem, isLst, parts?, s0__law_name, s1__law_name, s2__law_name, s3__law_name, b0__law_name, s4__law_name, s5__law_name, b1__law_name, s6__law_name, s7__law_name, s8__law_name, b2__law_name, b3__law_name, s9__law_name, s10__law_name, b4__law_name, b5__law_name, b6__law_name, b7__law_name, b8__law_name, b9__law_name, b10__law_name, d__law_name, tf0__law_name, e1, e2, e3, L26e, hix, hll, c2, lx, ly, ok_nil, ho.ok]
  · obtain ⟨zs, w3, k1, k2, k3, k4⟩ := letters_ok q3 (by omega) (x1 := some (.str last)) (x3 := some (.int r1)) (x4 := some (.str ⟨#[ch]⟩)) (x5 := none)
    have hz1 := len_join1 fun z hz => (k2 z hz).1
    have lj : (zs.map (·.length)).sum + zs.length * (Str.ofString "").length ≤ 16777216 := by rw [nil_len, sum_one fun z hz => (k2 z hz).1]; omega
    have lx : (⟨#[ch]⟩ : Str).length + (Txt.join (Str.ofString "") zs).length ≤ sizeLine := by omega
    refine ⟨⟨#[ch]⟩ ++ Txt.join (Str.ofString "") zs, w3, ⟨by rw [str_len_app]; omega, by rw [str_len_app]; omega, (Low.one hlow).app (.join fun z hz => (k2 z hz).2)⟩, k4.mono, ?_⟩
    have d0 : ¬ (r1 = 0 ∧ (0 : Int) < last.length ∧ (last.length : Int) < 8) := by omega
    have d1 : ¬ (r1 = 1 ∧ (1 : Int) < last.length) := by omega
    rw [Def.run]
    by_cases a0 : r1 = 0
    · subst a0
      by_cases h0 : 0 < last.length
      · have h : ¬ ((last.length : Int) < 8) := by omega
        simp [small_line, q_nil, exL, exS, evE, evL, evI, evT, evTAnd, evTOr, evAnd, evOr, evIfs, evArgs, lendIx, lendOut, lendBack, forGo, R.bind_ok, R.bind_exc, R.bind_stuck, q_addI, q_addS, q_addL, q_addT, q_sub, q_mul, q_fdiv, q_mod, q_pow, q_neg, q_ltI, q_ltS, q_lt', q_le, q_gt, q_ge, q_eqI, q_neI, q_eqS, q_neS, q_eqB, q_neB, q_isN, q_notN, q_isi, q_lst, q_tup, q_dnK, q_dnT, q_ixL, q_ixT, q_ixC, q_ixS, r_ixL, r_ixT, r_ixS, q_lenL, q_lenT, q_lenC, q_lenD, q_lenS, q_listL, q_listT, q_listD, q_tupOf, q_max, q_min, q_intB, q_intI, q_all, q_any, q_slL, q_slT, q_slS, q_inS1, q_ninS1, CV.val, Val.truth, Tgt.bind, Tgt.bindL, storable, fz?, Def.outs, Val.noOwn, noOwnL, pureL, ME.pure, IK.items, IK.stays, List.range_succ, List.replicate, MOp.sem, isLst, parts?, s0__law_name, s1__law_name, s2__law_name, s3__law_name, b0__law_name, s4__law_name, s5__law_name, b1__law_name, s6__law_name, s7__law_name, s8__law_name, b2__law_name, b3__law_name, s9__law_name, s10__law_name, b4__law_name, b5__law_name, b6__law_name, b7__law_name, b8__law_name, b9__law_name, b10__law_name, d__law_name, tf0__law_name, e1, e2, k1, L26e, hix, hll, h0, h, lx, p_join lj, p_rcS (o := opJoin) rfl]
      · simp [small_line, q_nil, exL, exS, evE, evL, evI, evT, evTAnd, evTOr, evAnd, evOr, evIfs, evArgs, lendIx, lendOut, lendBack, forGo, R.bind_ok, R.bind_exc, R.bind_stuck, q_addI, q_addS, q_addL, q_addT, q_sub, q_mul, q_fdiv, q_mod, q_pow, q_neg, q_ltI, q_ltS, q_lt', q_le, q_gt, q_ge, q_eqI, q_neI, q_eqS, q_neS, q_eqB, q_neB, q_isN, q_notN, q_isi, q_lst, q_tup, q_dnK, q_dnT, q_ixL, q_ixT, q_ixC, q_ixS, r_ixL, r_ixT, r_ixS, q_lenL, q_lenT, q_lenC, q_lenD, q_lenS, q_listL, q_listT, q_listD, q_tupOf, q_max, q_min, q_intB, q_intI, q_all, q_any, q_slL, q_slT, q_slS, q_inS1, q_ninS1, CV.val, Val.truth, Tgt.bind, Tgt.bindL, storable, fz?, Def.outs, Val.noOwn, noOwnL, pureL, ME.pure, IK.items, IK.stays, List.range_succ, List.replicate, MOp.sem, isLst, parts?, s0__law_name, s1__law_name, s2__law_name, s3__law_name, b0__law_name, s4__law_name, s5__law_name, b1__law_name, s6__law_name, s7__law_name, s8__law_name, b2__law_name, b3__law_name, s9__law_name, s10__law_name, b4__law_name, b5__law_name, b6__law_name, b7__law_name, b8__law_name, b9__law_name, b10__law_name, d__law_name, tf0__law_name, e1, e2, k1, L26e, hix, hll, h0, lx, p_join lj, p_rcS (o := opJoin) rfl]
    by_cases a1 : r1 = 1
    · subst a1
      have : ¬ ((1 : Int) < last.length) := by omega
      simp [small_line, q_nil, exL, exS, evE, evL, evI, evT, evTAnd, evTOr, evAnd, evOr, evIfs, evArgs, lendIx, lendOut, lendBack, forGo, R.bind_ok, R.bind_exc, R.bind_stuck, q_addI, q_addS, q_addL, q_addT, q_sub, q_mul, q_fdiv, q_mod, q_pow, q_neg, q_ltI, q_ltS, q_lt', q_le, q_gt, q_ge, q_eqI, q_neI, q_eqS, q_neS, q_eqB, q_neB, q_isN, q_notN, q_isi, q_lst, q_tup, q_dnK, q_dnT, q_ixL, q_ixT, q_ixC, q_ixS, r_ixL, r_ixT, r_ixS, q_lenL, q_lenT, q_lenC, q_lenD, q_lenS, q_listL, q_listT, q_listD, q_tupOf, q_max, q_min, q_intB, q_intI, q_all, q_any, q_slL, q_slT, q_slS, q_inS1, q_ninS1, CV.val, Val.truth, Tgt.bind, Tgt.bindL, storable, fz?, Def.outs, Val.noOwn, noOwnL, pureL, ME.pure, IK.items, IK.stays, List.range_succ, List.replicate, MOp.sem, isLst, parts?, s0__law_name, s1__law_name, s2__law_name, s3__law_name, b0__law_name, s4__law_name, s5__law_name, b1__law_name, s6__law_name, s7__law_name, s8__law_name, b2__law_name, b3__law_name, s9__law_name, s10__law_name, b4__law_name, b5__law_name, b6__law_name, b7__law_name, b8__law_name, b9__law_name, b10__law_name, d__law_name, tf0__law_name, e1, e2, k1, L26e, hix, hll, this, lx, p_join lj, p_rcS (o := opJoin) rfl]
    by_cases a2 : r1 = 2
    · subst a2
      have : last = Str.ofString "" := by
        rcases Classical.em (last = Str.ofString "") with h | h
        · exact h
        · exact absurd ⟨rfl, h⟩ c2
      subst this
      simp [small_line, q_nil, exL, exS, evE, evL, evI, evT, evTAnd, evTOr, evAnd, evOr, evIfs, evArgs, lendIx, lendOut, lendBack, forGo, R.bind_ok, R.bind_exc, R.bind_stuck, q_addI, q_addS, q_addL, q_addT, q_sub, q_mul, q_fdiv, q_mod, q_pow, q_neg, q_ltI, q_ltS, q_lt', q_le, q_gt, q_ge, q_eqI, q_neI, q_eqS, q_neS, q_eqB, q_neB, q_isN, q_notN, q_isi, q_lst, q_tup, q_dnK, q_dnT, q_ixL, q_ixT, q_ixC, q_ixS, r_ixL, r_ixT, r_ixS, q_lenL, q_lenT, q_lenC, q_lenD, q_lenS, q_listL, q_listT, q_listD, q_tupOf, q_max, q_min, q_intB, q_intI, q_all, q_any, q_slL, q_slT, q_slS, q_inS1, q_ninS1, CV.val, Val.truth, Tgt.bind, Tgt.bindL, storable, fz?, Def.outs, Val.noOwn, noOwnL, pureL, ME.pure, IK.items, IK.stays, List.range_succ, List.replicate, MOp.sem, isLst, parts?, s0__law_name, s1__law_name, s2__law_name, s3__law_name, b0__law_name, s4__law_name, s5__law_name, b1__law_name, s6__law_name, s7__law_name, s8__law_name, b2__law_name, b3__law_name, s9__law_name, s10__law_name, b4__law_name, b5__law_name, b6__law_name, b7__law_name, b8__law_name, b9__law_name, b10__law_name, d__law_name, tf0__law_name, e1, e2, k1, L26e, hix, hll, lx, p_join lj, p_rcS (o := opJoin) rfl, ok_nil, nil_len]
    · simp [small_line, q_nil, exL, exS, evE, evL, evI, evT, evTAnd, evTOr, evAnd, evOr, evIfs, evArgs, lendIx, lendOut, lendBack, forGo, R.bind_ok, R.bind_exc, R.bind_stuck, q_addI, q_addS, q_addL, q_addT, q_sub, q_mul, q_fdiv, q_mod, q_pow, q_neg, q_ltI, q_ltS, q_lt', q_le, q_gt, q_ge, q_eqI, q_neI, q_eqS, q_neS, q_eqB, q_neB, q_isN, q_notN, q_isi, q_lst, q_tup, q_dnK, q_dnT, q_ixL, q_ixT, q_ixC, q_ixS, r_ixL, r_ixT, r_ixS, q_lenL, q_lenT, q_lenC, q_lenD, q_lenS, q_listL, q_listT, q_listD, q_tupOf, q_max, q_min, q_intB, q_intI, q_all, q_any, q_slL, q_slT, q_slS, q_inS1, q_ninS1, CV.val, Val.truth, Tgt.bind, Tgt.bindL, storable, fz?, Def.outs, Val.noOwn, noOwnL, pureL, ME.pure, IK.items, IK.stays, List.range_succ, List.replicate, MOp.sem, isLst, parts?, s0__law_name, s1__law_name, s2__law_name, s3__law_name, b0__law_name, s4__law_name, s5__law_name, b1__law_name, s6__law_name, s7__law_name, s8__law_name, b2__law_name, b3__law_name, s9__law_name, s10__law_name, b4__law_name, b5__law_name, b6__law_name, b7__law_name, b8__law_name, b9__law_name, b10__law_name, d__law_name, tf0__law_name, e1, e2, k1, L26e, hix, hll, lx, p_join lj, p_rcS (o := opJoin) rfl, a0, a1, a2]
end Law

set_option Elab.async false
set_option maxRecDepth 100000
set_option maxHeartbeats 0
set_option linter.all false
namespace Law
open PySem L2 Mn
/-! names, signs, forms -/
theorem small62_of {j : Int} (h0 : 0 ≤ j := by omega) (h1 : j ≤ 1000000 := by omega) : small62 j = true := by simp [small62]; omega
theorem names_loop {w : Val} {n : Nat} {many : Int} (hb : Bag w n) (hn : n ≤ 400000) (h0 : 0 ≤ many) (h1 : many ≤ 1000) {x4 : Option Val} :
    ∃ (zs : List Str) (w' : Val) (nm : Str) (y4 : Option Val), exS T__law_names s4__law_names [some w, some (.int many), some (.dK true (dset [])), some (.str (Str.ofString "")), x4] = .ok (none, [some w', some (.int many), some (.dK true (dset zs)), some (.str nm), y4]) ∧
      zs.Nodup ∧ (∀ z ∈ zs, IsName z) ∧ zs.length ≤ many.toNat ∧ (0 < many → zs ≠ []) ∧ Bag w' (n + 20000) := by
  have hsz := big_line
  obtain ⟨envF, q1, zs, w', nm, y4, rfl, hb', hl, hlo, hnd, hz, hlen, hne⟩ := forGo_inv (bt := g0__law_names.bind) (b := exL T__law_names b1__law_names) many.toNat
    (fun i env => ∃ (zs : List Str) (w' : Val) (nm : Str) (y4 : Option Val), env = [some w', some (.int many), some (.dK true (dset zs)), some (.str nm), y4] ∧ Bag w' (n + 20 * i) ∧ nm.length ≤ 8 ∧ Low nm ∧ zs.Nodup ∧ (∀ z ∈ zs, IsName z) ∧ zs.length ≤ i ∧ (0 < i → zs ≠ []))
    (items := rangeV 0 many.toNat) (i := 0) (env := [some w, some (.int many), some (.dK true (dset [])), some (.str (Str.ofString "")), x4]) (by rw [rangeV_len]; omega) (by
      rintro i x env hi hx ⟨zs, w1, nm, y4, rfl, hb1, hl, hlo, hnd, hz, hlen, hne⟩
      obtain ⟨z, w2, hz2, hb2, e1⟩ := name_ok hb1 (by omega) hl hlo
      have hst := st_dset (zs := zs) (z := z) (by omega)
      refine ⟨_, [some w2, some (.int many), some (.dK true (dset (if z ∈ zs then zs else zs ++ [z]))), some (.str z), some x], rfl, ?_, _, w2, z, some x, rfl, hb2.mono, hz2.2.1, hz2.2.2, ?_, ?_, ?_, ?_⟩
      · simp [small_line, q_nil, exL, exS, evE, evL, evI, evT, evTAnd, evTOr, evAnd, evOr, evIfs, evArgs, lendIx, lendOut, lendBack, forGo, R.bind_ok, R.bind_exc, R.bind_stuck, q_addI, q_addS, q_addL, q_addT, q_sub, q_mul, q_fdiv, q_mod, q_pow, q_neg, q_ltI, q_ltS, q_lt', q_le, q_gt, q_ge, q_eqI, q_neI, q_eqS, q_neS, q_eqB, q_neB, q_isN, q_notN, q_isi, q_lst, q_tup, q_dnK, q_dnT, q_ixL, q_ixT, q_ixC, q_ixS, r_ixL, r_ixT, r_ixS, q_lenL, q_lenT, q_lenC, q_lenD, q_lenS, q_listL, q_listT, q_listD, q_tupOf, q_max, q_min, q_intB, q_intI, q_all, q_any, q_slL, q_slT, q_slS, q_inS1, q_ninS1, CV.val, Val.truth, Tgt.bind, Tgt.bindL, storable, fz?, Def.outs, Val.noOwn, noOwnL, pureL, ME.pure, IK.items, IK.stays, List.range_succ, List.replicate, MOp.sem, isLst, parts?, b1__law_names, b0__law_names, s2__law_names, s3__law_names, tf0__law_names, e1, hst]
      · split
        · exact hnd
        · exact List.nodup_append.mpr ⟨hnd, by simp, by rintro a ha b hb rfl; rw [List.mem_singleton.mp hb] at ha; exact absurd ha (by assumption)⟩
      · intro y hy
        split at hy
        · exact hz y hy
        · rcases List.mem_append.mp hy with h | h
          · exact hz y h
          · rw [List.mem_singleton.mp h]; exact hz2
      · split
        · omega
        · simp; omega
      · intro _
        split
        · rename_i h; exact fun e => by rw [e] at h; cases h
        · simp) ⟨[], w, _, x4, rfl, hb.mono, by rw [nil_len]; omega, .nil, List.nodup_nil, nofun, Nat.le_refl _, fun h => absurd h (by omega)⟩
  rw [rangeV_len] at hb' hlen hne
  refine ⟨zs, w', nm, y4, ?_, hnd, hz, by omega, fun h => hne (by omega), hb'.mono⟩
  have hs : small62 many = true := small62_of
  simp [small_line, q_nil, exL, exS, evE, evL, evI, evT, evTAnd, evTOr, evAnd, evOr, evIfs, evArgs, lendIx, lendOut, lendBack, forGo, R.bind_ok, R.bind_exc, R.bind_stuck, q_addI, q_addS, q_addL, q_addT, q_sub, q_mul, q_fdiv, q_mod, q_pow, q_neg, q_ltI, q_ltS, q_lt', q_le, q_gt, q_ge, q_eqI, q_neI, q_eqS, q_neS, q_eqB, q_neB, q_isN, q_notN, q_isi, q_lst, q_tup, q_dnK, q_dnT, q_ixL, q_ixT, q_ixC, q_ixS, r_ixL, r_ixT, r_ixS, q_lenL, q_lenT, q_lenC, q_lenD, q_lenS, q_listL, q_listT, q_listD, q_tupOf, q_max, q_min, q_intB, q_intI, q_all, q_any, q_slL, q_slT, q_slS, q_inS1, q_ninS1, CV.val, Val.truth, Tgt.bind, Tgt.bindL, storable, fz?, Def.outs, Val.noOwn, noOwnL, pureL, ME.pure, IK.items, IK.stays, List.range_succ, List.replicate, MOp.sem, isLst, parts?, s4__law_names, hs, q1, -forGo]
theorem names_ok {w : Val} {n : Nat} {many : Int} (hb : Bag w n) (hn : n ≤ 400000) (h0 : 0 < many) (h1 : many ≤ 1000) :
    ∃ (zs : List Str) (w' : Val), zs.Nodup ∧ (∀ z ∈ zs, IsName z) ∧ zs.length ≤ many.toNat ∧ zs ≠ [] ∧ Bag w' (n + 20000) ∧ d__law_names.run T__law_names [w, .int many] = .ok (.lst true (zs.map Val.str)) [some w', none] := by
  obtain ⟨zs, w', nm, y4, e1, h2, h3, h4, h5, h6⟩ := names_loop hb hn (by omega) h1 (x4 := none)
  have e0 : dset [] = [] := rfl
  rw [e0] at e1
  refine ⟨zs, w', h2, h3, h4, h5 h0, h6, ?_⟩
  rw [Def.run]
  simp [small_line, q_nil, exL, exS, evE, evL, evI, evT, evTAnd, evTOr, evAnd, evOr, evIfs, evArgs, lendIx, lendOut, lendBack, forGo, R.bind_ok, R.bind_exc, R.bind_stuck, q_addI, q_addS, q_addL, q_addT, q_sub, q_mul, q_fdiv, q_mod, q_pow, q_neg, q_ltI, q_ltS, q_lt', q_le, q_gt, q_ge, q_eqI, q_neI, q_eqS, q_neS, q_eqB, q_neB, q_isN, q_notN, q_isi, q_lst, q_tup, q_dnK, q_dnT, q_ixL, q_ixT, q_ixC, q_ixS, r_ixL, r_ixT, r_ixS, q_lenL, q_lenT, q_lenC, q_lenD, q_lenS, q_listL, q_listT, q_listD, q_tupOf, q_max, q_min, q_intB, q_intI, q_all, q_any, q_slL, q_slT, q_slS, q_inS1, q_ninS1, CV.val, Val.truth, Tgt.bind, Tgt.bindL, storable, fz?, Def.outs, Val.noOwn, noOwnL, pureL, ME.pure, IK.items, IK.stays, List.range_succ, List.replicate, MOp.sem, isLst, parts?, b5__law_names, b4__law_names, b3__law_names, b2__law_names, d__law_names, s0__law_names, s1__law_names, s5__law_names, e1, dset_keys, -forGo]
def S94 : Str := Str.ofString " !\"#$&'()*+,-./0123456789:;<=>?\x40ABCDEFGHIJKLMNOPQRSTUVWXYZ[\\]^_`abcdefghijklmnopqrstuvwxyz{|}~"
theorem S94e : Str.ofString " !\"#$&'()*+,-./0123456789:;<=>?\x40ABCDEFGHIJKLMNOPQRSTUVWXYZ[\\]^_`abcdefghijklmnopqrstuvwxyz{|}~" = S94 := rfl
theorem S94_len : S94.length = 94 := by decide +kernel
theorem S94_tl : S94.cps.toList.length = 94 := by decide +kernel
/-- a sign that texts may have -/
def SignC (c : Nat) : Prop := 32 ≤ c ∧ c ≤ 126 ∧ c ≠ 37
theorem S94_all : ∀ c ∈ tx S94, 32 ≤ c ∧ c ≤ 126 ∧ c ≠ 37 := by decide +kernel
theorem S94_mem {c : Nat} : c ∈ tx S94 ↔ SignC c := by
  refine ⟨S94_all c, fun h => ?_⟩
  have : ∀ c < 127, 32 ≤ c ∧ c ≠ 37 → c ∈ tx S94 := by decide +kernel
  exact this c (by have := h.2.1; omega) ⟨h.1, h.2.2⟩
def Txs (z : Str) : Prop := ∀ c ∈ tx z, SignC c
def IsSigns (z : Str) : Prop := 1 ≤ z.length ∧ z.length ≤ 40 ∧ Txs z ∧ (tx z).Pairwise (· < ·)
theorem Txs.ok {z : Str} (h : Txs z) : PyData.strOk z = true := tx_ok.mpr fun c hc => by have := h c hc; unfold SignC at this; omega
theorem signs_comp {w : Val} {n : Nat} {many : Int} (hb : Bag w n) (hn : n ≤ 900000) (h0 : 0 ≤ many) (h1 : many ≤ 40) :
    ∃ (zs : List Str) (w' : Val), evE T__law_signs c0__law_signs [some w, some (.str S94), some (.int many), none] = .ok (.lst true (zs.map Val.str), true, [some w', some (.str S94), some (.int many), none]) ∧ (∀ z ∈ zs, z.length = 1 ∧ Txs z) ∧ zs.length = many.toNat ∧ Bag w' (n + 40) := by
  obtain ⟨ys, envF, q1, q2, q3, q4⟩ := lcGo_inv (vs := [3]) (bt := g0__law_signs.bind) (c := evIfs T__law_signs i0__law_signs) (f := evE T__law_signs e0__law_signs) 40
    (fun i env => ∃ w', env = [some w', some (.str S94), some (.int many), none] ∧ Bag w' (n + i)) (fun y => ∃ z : Str, y = .str z ∧ z.length = 1 ∧ Txs z)
    (items := rangeV 0 many.toNat) (i := 0) (env := [some w, some (.str S94), some (.int many), none]) (by rw [rangeV_len]; omega) (by
      rintro i x env hi hx ⟨w', rfl, h1⟩
      obtain ⟨r2, w2, s1, s2, s3, e2⟩ := draw_ok (m := 94) h1
      have hj : r2.toNat < S94.cps.toList.length := by rw [S94_tl]; omega
      refine ⟨_, _, .str ⟨#[S94.cps.toList[r2.toNat]]⟩, true, [some w2, some (.str S94), some (.int many), some x], rfl, rfl, ?_, rfl, ⟨_, rfl, rfl, fun c hc => ?_⟩, w2, rfl, s3⟩
      · have l1 : S94.length ≤ sizeLine := by decide +kernel
        have l2 : r2 < (S94.cps.toList.length : Int) := by rw [S94_tl]; omega
        simp [small_line, q_nil, exL, exS, evE, evL, evI, evT, evTAnd, evTOr, evAnd, evOr, evIfs, evArgs, lendIx, lendOut, lendBack, forGo, R.bind_ok, R.bind_exc, R.bind_stuck, q_addI, q_addS, q_addL, q_addT, q_sub, q_mul, q_fdiv, q_mod, q_pow, q_neg, q_ltI, q_ltS, q_lt', q_le, q_gt, q_ge, q_eqI, q_neI, q_eqS, q_neS, q_eqB, q_neB, q_isN, q_notN, q_isi, q_lst, q_tup, q_dnK, q_dnT, q_ixL, q_ixT, q_ixC, q_ixS, r_ixL, r_ixT, r_ixS, q_lenL, q_lenT, q_lenC, q_lenD, q_lenS, q_listL, q_listT, q_listD, q_tupOf, q_max, q_min, q_intB, q_intI, q_all, q_any, q_slL, q_slT, q_slS, q_inS1, q_ninS1, CV.val, Val.truth, Tgt.bind, Tgt.bindL, storable, fz?, Def.outs, Val.noOwn, noOwnL, pureL, ME.pure, IK.items, IK.stays, List.range_succ, List.replicate, MOp.sem, isLst, parts?, e0__law_signs, tf0__law_signs, g0__law_signs, wipeE, e2, r_ixS l1 s1 l2]
      · rw [tx_one, List.mem_singleton] at hc
        subst hc
        exact S94_mem.mp (tx_mem hj)) ⟨w, rfl, hb⟩
  obtain ⟨w', rfl, h1⟩ := q4
  rw [rangeV_len] at h1 q3
  obtain ⟨zs, rfl, hz⟩ : ∃ zs : List Str, ys = zs.map Val.str ∧ ∀ z ∈ zs, z.length = 1 ∧ Txs z := strs_of q2
  rw [List.length_map] at q3
  refine ⟨zs, w', ?_, hz, q3, h1.mono⟩
  have hs : small62 many = true := small62_of
  have hl : zs.length ≤ sizeLine := by have := big_line; omega
  simp [small_line, q_nil, exL, exS, evE, evL, evI, evT, evTAnd, evTOr, evAnd, evOr, evIfs, evArgs, lendIx, lendOut, lendBack, forGo, R.bind_ok, R.bind_exc, R.bind_stuck, q_addI, q_addS, q_addL, q_addT, q_sub, q_mul, q_fdiv, q_mod, q_pow, q_neg, q_ltI, q_ltS, q_lt', q_le, q_gt, q_ge, q_eqI, q_neI, q_eqS, q_neS, q_eqB, q_neB, q_isN, q_notN, q_isi, q_lst, q_tup, q_dnK, q_dnT, q_ixL, q_ixT, q_ixC, q_ixS, r_ixL, r_ixT, r_ixS, q_lenL, q_lenT, q_lenC, q_lenD, q_lenS, q_listL, q_listT, q_listD, q_tupOf, q_max, q_min, q_intB, q_intI, q_all, q_any, q_slL, q_slT, q_slS, q_inS1, q_ninS1, CV.val, Val.truth, Tgt.bind, Tgt.bindL, storable, fz?, Def.outs, Val.noOwn, noOwnL, pureL, ME.pure, IK.items, IK.stays, List.range_succ, List.replicate, MOp.sem, isLst, parts?, c0__law_signs, tf0__law_signs, hs, wipeOk, wipeE, q1, hl]
theorem one_sign {z : Str} (h : z.length = 1) : ∃ c, tx z = [c] := by
  have := tx_len z
  rw [h] at this
  exact List.length_eq_one_iff.mp this
theorem rising_join : ∀ {ys : List Str}, (∀ z ∈ ys, z.length = 1 ∧ Txs z) → (ys.Pairwise fun a b => tx a < tx b) → Txs (Txt.join (Str.ofString "") ys) ∧ (tx (Txt.join (Str.ofString "") ys)).Pairwise (· < ·) := by
  intro ys h p
  rw [show Txs (Txt.join (Str.ofString "") ys) ↔ ∀ c ∈ (ys.map tx).flatten, SignC c from by unfold Txs; rw [tx_join], tx_join]
  induction ys with
  | nil => exact ⟨nofun, .nil⟩
  | cons y r ih =>
    obtain ⟨h1, h2⟩ := List.pairwise_cons.mp p
    obtain ⟨k1, k2⟩ := ih (fun z hz => h z (by simp [hz])) h2
    obtain ⟨c, hc⟩ := one_sign (h y (by simp)).1
    have hs := (h y (by simp)).2
    rw [List.map_cons, List.flatten_cons, hc]
    refine ⟨fun d hd => ?_, ?_⟩
    · rcases List.mem_append.mp hd with hd | hd
      · exact hs d (by rw [hc]; exact hd)
      · exact k1 d hd
    · refine List.pairwise_append.mpr ⟨by simp, k2, fun a ha b hb => ?_⟩
      rw [List.mem_singleton.mp ha]
      obtain ⟨l, hl, hbl⟩ := List.mem_flatten.mp hb
      obtain ⟨z, hz, rfl⟩ := List.mem_map.mp hl
      obtain ⟨d, hd⟩ := one_sign (h z (by simp [hz])).1
      have := h1 z hz
      rw [hc, hd, lt_one] at this
      rw [hd, List.mem_singleton] at hbl
      omega
theorem signs_ok {w : Val} {n : Nat} (hb : Bag w n) (hn : n ≤ 800000) : ∃ (z : Str) (w' : Val), IsSigns z ∧ Bag w' (n + 50) ∧ d__law_signs.run T__law_signs [w] = .ok (.str z) [some w'] := by
  have hsz := big_line
  obtain ⟨r1, w1, p1, p2, p3, e1⟩ := draw_ok (m := 8) hb
  have l8 : Nat.log2 8 < 9000 := by decide +kernel
  obtain ⟨m, hm, hm1, hm2⟩ : ∃ m : Int, (∀ o u v, ixO.sem [(.lst o [.int 6, .int 40], u), (.int (r1 / 7), v)] = some (.int m, false)) ∧ 6 ≤ m ∧ m ≤ 40 := by
    by_cases h : r1 = 7
    · subst h; exact ⟨40, fun _ _ _ => rfl, by decide, by decide⟩
    · have : r1 / 7 = 0 := by omega
      rw [this]; exact ⟨6, fun _ _ _ => rfl, by decide, by decide⟩
  obtain ⟨r2, w2, s1, s2, s3, e2⟩ := draw_ok (m := m) p3
  obtain ⟨zs, w3, k1, k2, k3, k4⟩ := signs_comp s3 (by omega) (many := 1 + r2) (by omega) (by omega)
  have hl7 : Nat.log2 7 < 9000 := by decide +kernel
  have hu : ∀ z ∈ usort zs, z.length = 1 ∧ Txs z := fun z hz => k2 z (usort_mem.mp hz)
  obtain ⟨j1, j2⟩ := rising_join hu (usort_pw zs)
  have jl := len_join1 fun z hz => (hu z hz).1
  have ul := usort_len zs
  have upos : usort zs ≠ [] := by
    intro e
    obtain ⟨z, hz⟩ : ∃ z, z ∈ zs := List.exists_mem_of_length_pos (by omega)
    have := (usort_mem (L := zs)).mpr hz
    rw [e] at this; cases this
  have upos' := List.length_pos_iff.mpr upos
  have lj : ((usort zs).map (·.length)).sum + (usort zs).length * (Str.ofString "").length ≤ 16777216 := by rw [nil_len, sum_one fun z hz => (hu z hz).1]; omega
  have h4000 : zs.length < 4000 := by omega
  refine ⟨Txt.join (Str.ofString "") (usort zs), w3, ⟨by omega, by omega, j1, j2⟩, k4.mono, ?_⟩
  rw [Def.run]
  simp [small_line, q_nil, exL, exS, evE, evL, evI, evT, evTAnd, evTOr, evAnd, evOr, evIfs, evArgs, lendIx, lendOut, lendBack, forGo, R.bind_ok, R.bind_exc, R.bind_stuck, q_addI, q_addS, q_addL, q_addT, q_sub, q_mul, q_fdiv, q_mod, q_pow, q_neg, q_ltI, q_ltS, q_lt', q_le, q_gt, q_ge, q_eqI, q_neI, q_eqS, q_neS, q_eqB, q_neB, q_isN, q_notN, q_isi, q_lst, q_tup, q_dnK, q_dnT, q_ixL, q_ixT, q_ixC, q_ixS, r_ixL, r_ixT, r_ixS, q_lenL, q_lenT, q_lenC, q_lenD, q_lenS, q_listL, q_listT, q_listD, q_tupOf, q_max, q_min, q_intB, q_intI, q_all, q_any, q_slL, q_slT, q_slS, q_inS1, q_ninS1, CV.val, Val.truth, Tgt.bind, Tgt.bindL, storable, fz?, Def.outs, Val.noOwn, noOwnL, pureL, ME.pure, IK.items, IK.stays, List.range_succ, List.replicate, MOp.sem, isLst, parts?, s0__law_signs, s1__law_signs, s2__law_signs, b0__law_signs, b1__law_signs, b2__law_signs, d__law_signs, tf0__law_signs, e1, e2, S94e, hm, k1, hl7, p_join lj, p_rcS (o := opJoin) rfl, p_sset h4000, p_rcSS]
end Law

set_option Elab.async false
set_option maxRecDepth 100000
set_option maxHeartbeats 0
set_option linter.all false
namespace Law
open PySem L2 Mn
/-! forms: tuples of texts -/
def tupS (l : List Str) : Val := .tup (l.map Val.str)
def kNone : Str := Str.ofString "none"
def kAny : Str := Str.ofString "any"
def kSigns : Str := Str.ofString "signs"
def kRow : Str := Str.ofString "row"
def kFirst : Str := Str.ofString "first"
def kAgain : Str := Str.ofString "again"
def kAhead : Str := Str.ofString "ahead"
def kNot : Str := Str.ofString "not"
theorem e_none : Str.ofString "none" = kNone := rfl
theorem e_any : Str.ofString "any" = kAny := rfl
theorem e_signs : Str.ofString "signs" = kSigns := rfl
theorem e_row : Str.ofString "row" = kRow := rfl
theorem e_first : Str.ofString "first" = kFirst := rfl
theorem e_again : Str.ofString "again" = kAgain := rfl
theorem e_ahead : Str.ofString "ahead" = kAhead := rfl
theorem e_not : Str.ofString "not" = kNot := rfl
def words8 : List Str := [kNone, kAny, kSigns, kRow, kFirst, kAgain, kAhead, kNot]
theorem words_nd : words8.Nodup := by decide +kernel
theorem words_ok : ∀ w ∈ words8, PyData.strOk w = true := by decide +kernel
/-- a form: its word, its parts -/
def IsForm (w : Str) (ps : List Str) : Prop :=
  (w = kNone ∧ ps = []) ∨ (w = kAny ∧ ps = []) ∨ (w = kSigns ∧ ∃ z, ps = [z] ∧ IsSigns z) ∨ ((w = kRow ∨ w = kFirst) ∧ 1 ≤ ps.length ∧ ps.length ≤ 8 ∧ ∀ p ∈ ps, IsName p) ∨ ((w = kAgain ∨ w = kAhead ∨ w = kNot) ∧ ps.length = 1 ∧ ∀ p ∈ ps, IsName p)
theorem IsForm.word {w : Str} {ps : List Str} (h : IsForm w ps) : w ∈ words8 := by
  unfold words8
  rcases h with ⟨rfl, _⟩ | ⟨rfl, _⟩ | ⟨rfl, _⟩ | ⟨rfl | rfl, _⟩ | ⟨rfl | rfl | rfl, _⟩ <;> simp
theorem IsForm.okw {w : Str} {ps : List Str} (h : IsForm w ps) : PyData.strOk w = true := words_ok w h.word
theorem IsForm.okp {w : Str} {ps : List Str} (h : IsForm w ps) : ∀ p ∈ ps, PyData.strOk p = true := by
  rcases h with ⟨_, rfl⟩ | ⟨_, rfl⟩ | ⟨_, z, rfl, hz⟩ | ⟨_, _, _, h⟩ | ⟨_, _, h⟩
  · nofun
  · nofun
  · intro p hp; rw [List.mem_singleton.mp hp]; exact hz.2.2.1.ok
  · exact fun p hp => (h p hp).ok
  · exact fun p hp => (h p hp).ok
theorem IsForm.len {w : Str} {ps : List Str} (h : IsForm w ps) : ps.length ≤ 8 := by
  rcases h with ⟨_, rfl⟩ | ⟨_, rfl⟩ | ⟨_, z, rfl, hz⟩ | ⟨_, _, h, _⟩ | ⟨_, h, _⟩
  · simp
  · simp
  · simp
  · exact h
  · omega
/-- names drawn in a form's comprehension -/
theorem form_comp {w : Val} {n : Nat} {many : Int} {names : List Str} {o : Bool} (hb : Bag w n) (hn : n ≤ 900000) (h0 : 0 ≤ many) (h1 : many ≤ 40) (hne : names ≠ []) (hl : names.length ≤ 1000) {x2 x3 : Option Val} :
    ∃ (zs : List Str) (w' : Val), evE T__law_form c0__law_form [some w, some (.lst o (names.map Val.str)), x2, x3, some (.int many), none] = .ok (.lst true (zs.map Val.str), true, [some w', some (.lst o (names.map Val.str)), x2, x3, some (.int many), none]) ∧ (∀ z ∈ zs, z ∈ names) ∧ zs.length = many.toNat ∧ Bag w' (n + 40) := by
  have hpos := List.length_pos_iff.mpr hne
  obtain ⟨ys, envF, q1, q2, q3, q4⟩ := lcGo_inv (vs := [5]) (bt := g0__law_form.bind) (c := evIfs T__law_form i0__law_form) (f := evE T__law_form e0__law_form) 40
    (fun i env => ∃ w', env = [some w', some (.lst o (names.map Val.str)), x2, x3, some (.int many), none] ∧ Bag w' (n + i)) (fun y => ∃ z : Str, y = .str z ∧ z ∈ names)
    (items := rangeV 0 many.toNat) (i := 0) (env := [some w, some (.lst o (names.map Val.str)), x2, x3, some (.int many), none]) (by rw [rangeV_len]; omega) (by
      rintro i x env hi hx ⟨w', rfl, h1⟩
      obtain ⟨r2, w2, s1, s2, s3, e2⟩ := draw_ok (m := names.length) h1
      have hj : r2.toNat < names.length := by omega
      have l2 : r2 < ((names.map Val.str).length : Int) := by rw [List.length_map]; omega
      refine ⟨_, _, .str names[r2.toNat], false, [some w2, some (.lst o (names.map Val.str)), x2, x3, some (.int many), some x], rfl, rfl, ?_, rfl, ⟨_, rfl, List.getElem_mem hj⟩, w2, rfl, s3⟩
      simp [small_line, q_nil, exL, exS, evE, evL, evI, evT, evTAnd, evTOr, evAnd, evOr, evIfs, evArgs, lendIx, lendOut, lendBack, forGo, R.bind_ok, R.bind_exc, R.bind_stuck, q_addI, q_addS, q_addL, q_addT, q_sub, q_mul, q_fdiv, q_mod, q_pow, q_neg, q_ltI, q_ltS, q_lt', q_le, q_gt, q_ge, q_eqI, q_neI, q_eqS, q_neS, q_eqB, q_neB, q_isN, q_notN, q_isi, q_lst, q_tup, q_dnK, q_dnT, q_ixL, q_ixT, q_ixC, q_ixS, r_ixL, r_ixT, r_ixS, q_lenL, q_lenT, q_lenC, q_lenD, q_lenS, q_listL, q_listT, q_listD, q_tupOf, q_max, q_min, q_intB, q_intI, q_all, q_any, q_slL, q_slT, q_slS, q_inS1, q_ninS1, CV.val, Val.truth, Tgt.bind, Tgt.bindL, storable, fz?, Def.outs, Val.noOwn, noOwnL, pureL, ME.pure, IK.items, IK.stays, List.range_succ, List.replicate, MOp.sem, isLst, parts?, e0__law_form, tf0__law_form, tf1__law_form, g0__law_form, wipeE, e2, r_ixL s1 l2]) ⟨w, rfl, hb⟩
  obtain ⟨w', rfl, h1⟩ := q4
  rw [rangeV_len] at h1 q3
  obtain ⟨zs, rfl, hz⟩ : ∃ zs : List Str, ys = zs.map Val.str ∧ ∀ z ∈ zs, z ∈ names := strs_of q2
  rw [List.length_map] at q3
  refine ⟨zs, w', ?_, hz, q3, h1.mono⟩
  have hs : small62 many = true := small62_of
  have hl : zs.length ≤ sizeLine := by have := big_line; omega
  simp [small_line, q_nil, exL, exS, evE, evL, evI, evT, evTAnd, evTOr, evAnd, evOr, evIfs, evArgs, lendIx, lendOut, lendBack, forGo, R.bind_ok, R.bind_exc, R.bind_stuck, q_addI, q_addS, q_addL, q_addT, q_sub, q_mul, q_fdiv, q_mod, q_pow, q_neg, q_ltI, q_ltS, q_lt', q_le, q_gt, q_ge, q_eqI, q_neI, q_eqS, q_neS, q_eqB, q_neB, q_isN, q_notN, q_isi, q_lst, q_tup, q_dnK, q_dnT, q_ixL, q_ixT, q_ixC, q_ixS, r_ixL, r_ixT, r_ixS, q_lenL, q_lenT, q_lenC, q_lenD, q_lenS, q_listL, q_listT, q_listD, q_tupOf, q_max, q_min, q_intB, q_intI, q_all, q_any, q_slL, q_slT, q_slS, q_inS1, q_ninS1, CV.val, Val.truth, Tgt.bind, Tgt.bindL, storable, fz?, Def.outs, Val.noOwn, noOwnL, pureL, ME.pure, IK.items, IK.stays, List.range_succ, List.replicate, MOp.sem, isLst, parts?, c0__law_form, tf0__law_form, tf1__law_form, hs, wipeOk, wipeE, q1, hl]
def words10 : List Str := [kNone, kAny, kSigns, kRow, kRow, kFirst, kFirst, kAgain, kAhead, kNot]
theorem words10_mem : ∀ w ∈ words10, w ∈ words8 := by decide +kernel
theorem form_ok {w : Val} {n : Nat} {names : List Str} {o : Bool} (hb : Bag w n) (hn : n ≤ 700000) (hne : names ≠ []) (hl : names.length ≤ 1000) (hN : ∀ z ∈ names, IsName z) :
    ∃ (wd : Str) (ps : List Str) (w' : Val), IsForm wd ps ∧ (wd ≠ kSigns → ∀ p ∈ ps, p ∈ names) ∧ Bag w' (n + 200) ∧ d__law_form.run T__law_form [w, .lst o (names.map Val.str)] = .ok (tupS (wd :: ps)) [some w', none] := by
  have hsz := big_line
  obtain ⟨r1, w1, p1, p2, p3, e1⟩ := draw_ok (m := 10) hb
  have hj : r1.toNat < words10.length := by show r1.toNat < 10; omega
  obtain ⟨wd, hwd, hix⟩ : ∃ wd : Str, wd ∈ words10 ∧ ∀ o u v, s_ix [(.lst o (words10.map Val.str), u), (.int r1, v)] = some (.str wd, false) := by
    refine ⟨words10[r1.toNat], List.getElem_mem hj, fun o u v => ?_⟩
    rw [r_ixL p1 (by rw [List.length_map]; show r1 < 10; omega)]
    simp
  have hix' : ∀ o u v, s_ix [(.lst o [.str kNone, .str kAny, .str kSigns, .str kRow, .str kRow, .str kFirst, .str kFirst, .str kAgain, .str kAhead, .str kNot], u), (.int r1, v)] = some (.str wd, false) := hix
  have h8 := words10_mem wd hwd
  have okw := words_ok wd h8
  have o1 : PyData.strOk kNone = true := by decide +kernel
  have o2 : PyData.strOk kAny = true := by decide +kernel
  have o3 : PyData.strOk kSigns = true := by decide +kernel
  have o4 : PyData.strOk kRow = true := by decide +kernel
  have o5 : PyData.strOk kFirst = true := by decide +kernel
  by_cases c1 : wd = kNone
  · subst c1
    refine ⟨kNone, [], w1, .inl ⟨rfl, rfl⟩, (fun _ => nofun), p3.mono, ?_⟩
    rw [Def.run]
    simp [small_line, q_nil, exL, exS, evE, evL, evI, evT, evTAnd, evTOr, evAnd, evOr, evIfs, evArgs, lendIx, lendOut, lendBack, forGo, R.bind_ok, R.bind_exc, R.bind_stuck, q_addI, q_addS, q_addL, q_addT, q_sub, q_mul, q_fdiv, q_mod, q_pow, q_neg, q_ltI, q_ltS, q_lt', q_le, q_gt, q_ge, q_eqI, q_neI, q_eqS, q_neS, q_eqB, q_neB, q_isN, q_notN, q_isi, q_lst, q_tup, q_dnK, q_dnT, q_ixL, q_ixT, q_ixC, q_ixS, r_ixL, r_ixT, r_ixS, q_lenL, q_lenT, q_lenC, q_lenD, q_lenS, q_listL, q_listT, q_listD, q_tupOf, q_max, q_min, q_intB, q_intI, q_all, q_any, q_slL, q_slT, q_slS, q_inS1, q_ninS1, CV.val, Val.truth, Tgt.bind, Tgt.bindL, storable, fz?, Def.outs, Val.noOwn, noOwnL, pureL, ME.pure, IK.items, IK.stays, List.range_succ, List.replicate, MOp.sem, isLst, parts?, s0__law_form, s1__law_form, s2__law_form, b0__law_form, s3__law_form, s4__law_form, b1__law_form, s5__law_form, s6__law_form, s7__law_form, b2__law_form, s8__law_form, s9__law_form, b3__law_form, b4__law_form, b5__law_form, b6__law_form, b7__law_form, b8__law_form, b9__law_form, d__law_form, tf0__law_form, tf1__law_form, e_none, e_any, e_signs, e_row, e_first, e_again, e_ahead, e_not, e1, hix', o1, tupS]
  by_cases c2 : wd = kAny
  · subst c2
    refine ⟨kAny, [], w1, .inr (.inl ⟨rfl, rfl⟩), (fun _ => nofun), p3.mono, ?_⟩
    rw [Def.run]
    simp [small_line, q_nil, exL, exS, evE, evL, evI, evT, evTAnd, evTOr, evAnd, evOr, evIfs, evArgs, lendIx, lendOut, lendBack, forGo, R.bind_ok, R.bind_exc, R.bind_stuck, q_addI, q_addS, q_addL, q_addT, q_sub, q_mul, q_fdiv, q_mod, q_pow, q_neg, q_ltI, q_ltS, q_lt', q_le, q_gt, q_ge, q_eqI, q_neI, q_eqS, q_neS, q_eqB, q_neB, q_isN, q_notN, q_isi, q_lst, q_tup, q_dnK, q_dnT, q_ixL, q_ixT, q_ixC, q_ixS, r_ixL, r_ixT, r_ixS, q_lenL, q_lenT, q_lenC, q_lenD, q_lenS, q_listL, q_listT, q_listD, q_tupOf, q_max, q_min, q_intB, q_intI, q_all, q_any, q_slL, q_slT, q_slS, q_inS1, q_ninS1, CV.val, Val.truth, Tgt.bind, Tgt.bindL, storable, fz?, Def.outs, Val.noOwn, noOwnL, pureL, ME.pure, IK.items, IK.stays, List.range_succ, List.replicate, MOp.sem, isLst, parts?, s0__law_form, s1__law_form, s2__law_form, b0__law_form, s3__law_form, s4__law_form, b1__law_form, s5__law_form, s6__law_form, s7__law_form, b2__law_form, s8__law_form, s9__law_form, b3__law_form, b4__law_form, b5__law_form, b6__law_form, b7__law_form, b8__law_form, b9__law_form, d__law_form, tf0__law_form, tf1__law_form, e_none, e_any, e_signs, e_row, e_first, e_again, e_ahead, e_not, e1, hix', o1, o2, c1, tupS]
  by_cases c3 : wd = kSigns
  · subst c3
    obtain ⟨z, w2, hz, hb2, e2⟩ := signs_ok p3 (by omega)
    refine ⟨kSigns, [z], w2, .inr (.inr (.inl ⟨rfl, z, rfl, hz⟩)), (fun h => absurd rfl h), hb2.mono, ?_⟩
    rw [Def.run]
    simp [small_line, q_nil, exL, exS, evE, evL, evI, evT, evTAnd, evTOr, evAnd, evOr, evIfs, evArgs, lendIx, lendOut, lendBack, forGo, R.bind_ok, R.bind_exc, R.bind_stuck, q_addI, q_addS, q_addL, q_addT, q_sub, q_mul, q_fdiv, q_mod, q_pow, q_neg, q_ltI, q_ltS, q_lt', q_le, q_gt, q_ge, q_eqI, q_neI, q_eqS, q_neS, q_eqB, q_neB, q_isN, q_notN, q_isi, q_lst, q_tup, q_dnK, q_dnT, q_ixL, q_ixT, q_ixC, q_ixS, r_ixL, r_ixT, r_ixS, q_lenL, q_lenT, q_lenC, q_lenD, q_lenS, q_listL, q_listT, q_listD, q_tupOf, q_max, q_min, q_intB, q_intI, q_all, q_any, q_slL, q_slT, q_slS, q_inS1, q_ninS1, CV.val, Val.truth, Tgt.bind, Tgt.bindL, storable, fz?, Def.outs, Val.noOwn, noOwnL, pureL, ME.pure, IK.items, IK.stays, List.range_succ, List.replicate, MOp.sem, isLst, parts?, s0__law_form, s1__law_form, s2__law_form, b0__law_form, s3__law_form, s4__law_form, b1__law_form, s5__law_form, s6__law_form, s7__law_form, b2__law_form, s8__law_form, s9__law_form, b3__law_form, b4__law_form, b5__law_form, b6__law_form, b7__law_form, b8__law_form, b9__law_form, d__law_form, tf0__law_form, tf1__law_form, e_none, e_any, e_signs, e_row, e_first, e_again, e_ahead, e_not, e1, e2, hix', o1, o2, o3, c1, c2, tupS]
  by_cases c4 : wd = kRow ∨ wd = kFirst
  · obtain ⟨r2, w2, q1, q2, q3, e2⟩ := draw_ok (m := 2) p3
    obtain ⟨m, hm, hm1, hm2⟩ : ∃ m : Int, (∀ o u v, ixO.sem [(.lst o [.int 3, .int 8], u), (.int r2, v)] = some (.int m, false)) ∧ 3 ≤ m ∧ m ≤ 8 := by
      by_cases h : r2 = 1
      · subst h; exact ⟨8, fun _ _ _ => rfl, by decide, by decide⟩
      · have : r2 = 0 := by omega
        rw [this]; exact ⟨3, fun _ _ _ => rfl, by decide, by decide⟩
    obtain ⟨r3, w3, t1, t2, t3, e3⟩ := draw_ok (m := m) q3
    obtain ⟨zs, w4, k1, k2, k3, k4⟩ := form_comp (o := o) t3 (by omega) (many := 1 + r3) (by omega) (by omega) hne hl (x2 := some (.lst true (words10.map Val.str))) (x3 := some (.str wd))
    have k1' : evE T__law_form c0__law_form [some w3, some (.lst o (names.map Val.str)), some (.lst true [.str kNone, .str kAny, .str kSigns, .str kRow, .str kRow, .str kFirst, .str kFirst, .str kAgain, .str kAhead, .str kNot]), some (.str wd), some (.int (1 + r3)), none] = _ := k1
    refine ⟨wd, zs, w4, .inr (.inr (.inr (.inl ⟨c4, by omega, by omega, fun p hp => hN p (k2 p hp)⟩))), fun _ => k2, k4.mono, ?_⟩
    have lz : zs.length + 1 ≤ sizeLine := by omega
    have ns := noOwn_strs zs
    rw [Def.run]
    rcases c4 with rfl | rfl
    · simp [small_line, q_nil, exL, exS, evE, evL, evI, evT, evTAnd, evTOr, evAnd, evOr, evIfs, evArgs, lendIx, lendOut, lendBack, forGo, R.bind_ok, R.bind_exc, R.bind_stuck, q_addI, q_addS, q_addL, q_addT, q_sub, q_mul, q_fdiv, q_mod, q_pow, q_neg, q_ltI, q_ltS, q_lt', q_le, q_gt, q_ge, q_eqI, q_neI, q_eqS, q_neS, q_eqB, q_neB, q_isN, q_notN, q_isi, q_lst, q_tup, q_dnK, q_dnT, q_ixL, q_ixT, q_ixC, q_ixS, r_ixL, r_ixT, r_ixS, q_lenL, q_lenT, q_lenC, q_lenD, q_lenS, q_listL, q_listT, q_listD, q_tupOf, q_max, q_min, q_intB, q_intI, q_all, q_any, q_slL, q_slT, q_slS, q_inS1, q_ninS1, CV.val, Val.truth, Tgt.bind, Tgt.bindL, storable, fz?, Def.outs, Val.noOwn, noOwnL, pureL, ME.pure, IK.items, IK.stays, List.range_succ, List.replicate, MOp.sem, isLst, parts?, s0__law_form, s1__law_form, s2__law_form, b0__law_form, s3__law_form, s4__law_form, b1__law_form, s5__law_form, s6__law_form, s7__law_form, b2__law_form, s8__law_form, s9__law_form, b3__law_form, b4__law_form, b5__law_form, b6__law_form, b7__law_form, b8__law_form, b9__law_form, d__law_form, tf0__law_form, tf1__law_form, e_none, e_any, e_signs, e_row, e_first, e_again, e_ahead, e_not, e1, e2, e3, k1', hix', o1, o2, o3, o4, okw, c1, c2, c3, hm, tupS, ns, lz, words10, Nat.add_comm 1]
    · have c5 : ¬ kFirst = kRow := by decide +kernel
      simp [small_line, q_nil, exL, exS, evE, evL, evI, evT, evTAnd, evTOr, evAnd, evOr, evIfs, evArgs, lendIx, lendOut, lendBack, forGo, R.bind_ok, R.bind_exc, R.bind_stuck, q_addI, q_addS, q_addL, q_addT, q_sub, q_mul, q_fdiv, q_mod, q_pow, q_neg, q_ltI, q_ltS, q_lt', q_le, q_gt, q_ge, q_eqI, q_neI, q_eqS, q_neS, q_eqB, q_neB, q_isN, q_notN, q_isi, q_lst, q_tup, q_dnK, q_dnT, q_ixL, q_ixT, q_ixC, q_ixS, r_ixL, r_ixT, r_ixS, q_lenL, q_lenT, q_lenC, q_lenD, q_lenS, q_listL, q_listT, q_listD, q_tupOf, q_max, q_min, q_intB, q_intI, q_all, q_any, q_slL, q_slT, q_slS, q_inS1, q_ninS1, CV.val, Val.truth, Tgt.bind, Tgt.bindL, storable, fz?, Def.outs, Val.noOwn, noOwnL, pureL, ME.pure, IK.items, IK.stays, List.range_succ, List.replicate, MOp.sem, isLst, parts?, s0__law_form, s1__law_form, s2__law_form, b0__law_form, s3__law_form, s4__law_form, b1__law_form, s5__law_form, s6__law_form, s7__law_form, b2__law_form, s8__law_form, s9__law_form, b3__law_form, b4__law_form, b5__law_form, b6__law_form, b7__law_form, b8__law_form, b9__law_form, d__law_form, tf0__law_form, tf1__law_form, e_none, e_any, e_signs, e_row, e_first, e_again, e_ahead, e_not, e1, e2, e3, k1', hix', o1, o2, o3, o4, o5, okw, c1, c2, c3, c5, hm, tupS, ns, lz, words10, Nat.add_comm 1]
  · have c5 : ¬ wd = kRow := fun h => c4 (.inl h)
    have c6 : ¬ wd = kFirst := fun h => c4 (.inr h)
    obtain ⟨zs, w4, k1, k2, k3, k4⟩ := form_comp (o := o) p3 (by omega) (many := 1) (by omega) (by omega) hne hl (x2 := some (.lst true (words10.map Val.str))) (x3 := some (.str wd))
    have k1' : evE T__law_form c0__law_form [some w1, some (.lst o (names.map Val.str)), some (.lst true [.str kNone, .str kAny, .str kSigns, .str kRow, .str kRow, .str kFirst, .str kFirst, .str kAgain, .str kAhead, .str kNot]), some (.str wd), some (.int 1), none] = _ := k1
    have c7 : wd = kAgain ∨ wd = kAhead ∨ wd = kNot := by
      unfold words8 at h8
      simp only [List.mem_cons, List.not_mem_nil, or_false] at h8
      rcases h8 with h | h | h | h | h | h | h | h
      · exact absurd h c1
      · exact absurd h c2
      · exact absurd h c3
      · exact absurd h c5
      · exact absurd h c6
      · exact .inl h
      · exact .inr (.inl h)
      · exact .inr (.inr h)
    refine ⟨wd, zs, w4, .inr (.inr (.inr (.inr ⟨c7, by omega, fun p hp => hN p (k2 p hp)⟩))), fun _ => k2, k4.mono, ?_⟩
    have lz : zs.length + 1 ≤ sizeLine := by omega
    have ns := noOwn_strs zs
    rw [Def.run]
    simp [small_line, q_nil, exL, exS, evE, evL, evI, evT, evTAnd, evTOr, evAnd, evOr, evIfs, evArgs, lendIx, lendOut, lendBack, forGo, R.bind_ok, R.bind_exc, R.bind_stuck, q_addI, q_addS, q_addL, q_addT, q_sub, q_mul, q_fdiv, q_mod, q_pow, q_neg, q_ltI, q_ltS, q_lt', q_le, q_gt, q_ge, q_eqI, q_neI, q_eqS, q_neS, q_eqB, q_neB, q_isN, q_notN, q_isi, q_lst, q_tup, q_dnK, q_dnT, q_ixL, q_ixT, q_ixC, q_ixS, r_ixL, r_ixT, r_ixS, q_lenL, q_lenT, q_lenC, q_lenD, q_lenS, q_listL, q_listT, q_listD, q_tupOf, q_max, q_min, q_intB, q_intI, q_all, q_any, q_slL, q_slT, q_slS, q_inS1, q_ninS1, CV.val, Val.truth, Tgt.bind, Tgt.bindL, storable, fz?, Def.outs, Val.noOwn, noOwnL, pureL, ME.pure, IK.items, IK.stays, List.range_succ, List.replicate, MOp.sem, isLst, parts?, s0__law_form, s1__law_form, s2__law_form, b0__law_form, s3__law_form, s4__law_form, b1__law_form, s5__law_form, s6__law_form, s7__law_form, b2__law_form, s8__law_form, s9__law_form, b3__law_form, b4__law_form, b5__law_form, b6__law_form, b7__law_form, b8__law_form, b9__law_form, d__law_form, tf0__law_form, tf1__law_form, e_none, e_any, e_signs, e_row, e_first, e_again, e_ahead, e_not, e1, k1', hix', o1, o2, o3, o4, o5, okw, c1, c2, c3, c5, c6, tupS, ns, lz, words10, Nat.add_comm 1]
end Law

set_option Elab.async false
set_option maxRecDepth 100000
set_option maxHeartbeats 0
set_option linter.all false
namespace Law
open PySem L2 Mn
theorem cell_ok {ns : List Int} {k : Int} (h : 0 ≤ k) : ∃ c : Int, d__law_cell_at.run T__law_cell_at [.scr ns, .int k] = .ok (.int c) [none, none] := by
  by_cases c : k < ns.length
  · refine ⟨ns[k.toNat]'(by omega), ?_⟩
    rw [Def.run]
    simp [small_line, q_nil, exL, exS, evE, evL, evI, evT, evTAnd, evTOr, evAnd, evOr, evIfs, evArgs, lendIx, lendOut, lendBack, forGo, R.bind_ok, R.bind_exc, R.bind_stuck, q_addI, q_addS, q_addL, q_addT, q_sub, q_mul, q_fdiv, q_mod, q_pow, q_neg, q_ltI, q_ltS, q_lt', q_le, q_gt, q_ge, q_eqI, q_neI, q_eqS, q_neS, q_eqB, q_neB, q_isN, q_notN, q_isi, q_lst, q_tup, q_dnK, q_dnT, q_ixL, q_ixT, q_ixC, q_ixS, r_ixL, r_ixT, r_ixS, q_lenL, q_lenT, q_lenC, q_lenD, q_lenS, q_listL, q_listT, q_listD, q_tupOf, q_max, q_min, q_intB, q_intI, q_all, q_any, q_slL, q_slT, q_slS, q_inS1, q_ninS1, CV.val, Val.truth, Tgt.bind, Tgt.bindL, storable, fz?, Def.outs, Val.noOwn, noOwnL, pureL, ME.pure, IK.items, IK.stays, List.range_succ, List.replicate, MOp.sem, isLst, parts?, s0__law_cell_at, b0__law_cell_at, s1__law_cell_at, s2__law_cell_at, b1__law_cell_at, b2__law_cell_at, d__law_cell_at, c, q_ixC h c]
  · refine ⟨0, ?_⟩
    rw [Def.run]
    simp [small_line, q_nil, exL, exS, evE, evL, evI, evT, evTAnd, evTOr, evAnd, evOr, evIfs, evArgs, lendIx, lendOut, lendBack, forGo, R.bind_ok, R.bind_exc, R.bind_stuck, q_addI, q_addS, q_addL, q_addT, q_sub, q_mul, q_fdiv, q_mod, q_pow, q_neg, q_ltI, q_ltS, q_lt', q_le, q_gt, q_ge, q_eqI, q_neI, q_eqS, q_neS, q_eqB, q_neB, q_isN, q_notN, q_isi, q_lst, q_tup, q_dnK, q_dnT, q_ixL, q_ixT, q_ixC, q_ixS, r_ixL, r_ixT, r_ixS, q_lenL, q_lenT, q_lenC, q_lenD, q_lenS, q_listL, q_listT, q_listD, q_tupOf, q_max, q_min, q_intB, q_intI, q_all, q_any, q_slL, q_slT, q_slS, q_inS1, q_ninS1, CV.val, Val.truth, Tgt.bind, Tgt.bindL, storable, fz?, Def.outs, Val.noOwn, noOwnL, pureL, ME.pure, IK.items, IK.stays, List.range_succ, List.replicate, MOp.sem, isLst, parts?, s0__law_cell_at, b0__law_cell_at, s1__law_cell_at, s2__law_cell_at, b1__law_cell_at, b2__law_cell_at, d__law_cell_at, c]
theorem bag_ok {c p : Int} (h : 0 ≤ p) (h2 : p ≤ 1000) : ∃ w : Val, Bag w 0 ∧ d__law_bag.run T__law_bag [.int c, .int p] = .ok w [none, none] := by
  have l1 : Nat.log2 10 < 1000000 := by decide +kernel
  have l2 : Nat.log2 982451653 + p.natAbs.log2 < 1000000 := by
    have : Nat.log2 982451653 = 29 := by decide +kernel
    have h3 : p.natAbs.log2 < 20 := log2_lt (k := 10) (by omega) (by decide)
    omega
  have h3 := Int.emod_nonneg c (b := 170141183460469231731687303715884105727) (by decide)
  have h4 := Int.emod_lt_of_pos c (b := 170141183460469231731687303715884105727) (by decide)
  refine ⟨bagV (if c - 10 ^ 18 > 0 then c - 10 ^ 18 else 0) (c % 170141183460469231731687303715884105727 + 982451653 * p) 0, ⟨_, _, _, rfl, by omega, ?_, by omega, by omega⟩, ?_⟩
  · have : (170141183460469231731687303715884105727 : Int) + 982451653 * 1000 < 2 ^ 200 := by decide
    omega
  · rw [Def.run]
    simp [small_line, q_nil, exL, exS, evE, evL, evI, evT, evTAnd, evTOr, evAnd, evOr, evIfs, evArgs, lendIx, lendOut, lendBack, forGo, R.bind_ok, R.bind_exc, R.bind_stuck, q_addI, q_addS, q_addL, q_addT, q_sub, q_mul, q_fdiv, q_mod, q_pow, q_neg, q_ltI, q_ltS, q_lt', q_le, q_gt, q_ge, q_eqI, q_neI, q_eqS, q_neS, q_eqB, q_neB, q_isN, q_notN, q_isi, q_lst, q_tup, q_dnK, q_dnT, q_ixL, q_ixT, q_ixC, q_ixS, r_ixL, r_ixT, r_ixS, q_lenL, q_lenT, q_lenC, q_lenD, q_lenS, q_listL, q_listT, q_listD, q_tupOf, q_max, q_min, q_intB, q_intI, q_all, q_any, q_slL, q_slT, q_slS, q_inS1, q_ninS1, CV.val, Val.truth, Tgt.bind, Tgt.bindL, storable, fz?, Def.outs, Val.noOwn, noOwnL, pureL, ME.pure, IK.items, IK.stays, List.range_succ, List.replicate, MOp.sem, isLst, parts?, s0__law_bag, b0__law_bag, d__law_bag, l1, l2, bagV]
theorem cells_len {ns : List Int} (h : ns.length ≤ 63) {m : Nat} (hm : m ≤ 63) (h1 : 1 ≤ m) : ∃ j : Int, (if (if (m : Int) > (ns.length : Int) then (ns.length : Int) else m) > 1 then (if (m : Int) > (ns.length : Int) then (ns.length : Int) else m) else 1) = j ∧ 1 ≤ j ∧ j ≤ 63 := by
  refine ⟨_, rfl, ?_⟩
  split <;> split <;> omega
theorem tupS_ix0 {w : Str} {ps : List Str} {u v : Bool} : ixO.sem [(tupS (w :: ps), u), (.int 0, v)] = some (.str w, false) := by
  unfold tupS
  rw [q_ixT (by decide) (by simp)]
  rfl
theorem noOwn_tupS (l : List Str) : (tupS l).noOwn = true := noOwn_strs l
theorem tupS_tl {l : List Str} {u : Bool} : (slO true false).sem [(tupS l, u), (.int 1, true)] = some (tupS (l.drop 1), true) := by
  unfold tupS
  rw [q_slT (noOwn_strs l)]
  show some (Val.tup (cutL (l.map Val.str) (some 1) none), true) = _
  rw [cutL_drop (by decide), ← List.map_drop]; rfl
/-- the parts that are told -/
def partsL (w : Str) (ps : List Str) : List Str := if w = kNone ∨ w = kAny ∨ w = kSigns then [] else ps
theorem in3 {w : Str} {u v : Bool} : inO.sem [(.str w, u), (.tup [.str kNone, .str kAny, .str kSigns], v)] = some (.bl (decide (w = kNone ∨ w = kAny ∨ w = kSigns)), true) := by
  rw [q_inT rfl rfl]
  simp only [List.any_cons, List.any_nil, Bool.or_false, Val.data, PyData.eqv]
  congr 2
  simp only [beq_str, eq_comm (a := kNone), eq_comm (a := kAny), eq_comm (a := kSigns)]
  by_cases h1 : w = kNone
  · simp [h1]
  by_cases h2 : w = kAny
  · simp [h2]
  by_cases h3 : w = kSigns
  · simp [h3]
  · simp [h1, h2, h3]
theorem parts_ok {w : Str} {ps : List Str} (hl : ps.length ≤ 1000) : d_parts_of.run T_parts_of [tupS (w :: ps)] = .ok (.lst true ((partsL w ps).map Val.str)) [none] := by
  have e : noOwnL (ps.map Val.str) = true := noOwn_strs ps
  have tt := fun u => tupS_tl (l := w :: ps) (u := u)
  rw [Def.run]
  by_cases c : w = kNone ∨ w = kAny ∨ w = kSigns
  · simp [small_line, q_nil, exL, exS, evE, evL, evI, evT, evTAnd, evTOr, evAnd, evOr, evIfs, evArgs, lendIx, lendOut, lendBack, forGo, R.bind_ok, R.bind_exc, R.bind_stuck, q_addI, q_addS, q_addL, q_addT, q_sub, q_mul, q_fdiv, q_mod, q_pow, q_neg, q_ltI, q_ltS, q_lt', q_le, q_gt, q_ge, q_eqI, q_neI, q_eqS, q_neS, q_eqB, q_neB, q_isN, q_notN, q_isi, q_lst, q_tup, q_dnK, q_dnT, q_ixL, q_ixT, q_ixC, q_ixS, r_ixL, r_ixT, r_ixS, q_lenL, q_lenT, q_lenC, q_lenD, q_lenS, q_listL, q_listT, q_listD, q_tupOf, q_max, q_min, q_intB, q_intI, q_all, q_any, q_slL, q_slT, q_slS, q_inS1, q_ninS1, CV.val, Val.truth, Tgt.bind, Tgt.bindL, storable, fz?, Def.outs, Val.noOwn, noOwnL, pureL, ME.pure, IK.items, IK.stays, List.range_succ, List.replicate, MOp.sem, isLst, parts?, s0_parts_of, b0_parts_of, s1_parts_of, s2_parts_of, b1_parts_of, b2_parts_of, d_parts_of, R.bind_ok, tupS_ix0, in3, e_none, e_any, e_signs, c, partsL, noOwn_tupS]
  · simp [small_line, q_nil, exL, exS, evE, evL, evI, evT, evTAnd, evTOr, evAnd, evOr, evIfs, evArgs, lendIx, lendOut, lendBack, forGo, R.bind_ok, R.bind_exc, R.bind_stuck, q_addI, q_addS, q_addL, q_addT, q_sub, q_mul, q_fdiv, q_mod, q_pow, q_neg, q_ltI, q_ltS, q_lt', q_le, q_gt, q_ge, q_eqI, q_neI, q_eqS, q_neS, q_eqB, q_neB, q_isN, q_notN, q_isi, q_lst, q_tup, q_dnK, q_dnT, q_ixL, q_ixT, q_ixC, q_ixS, r_ixL, r_ixT, r_ixS, q_lenL, q_lenT, q_lenC, q_lenD, q_lenS, q_listL, q_listT, q_listD, q_tupOf, q_max, q_min, q_intB, q_intI, q_all, q_any, q_slL, q_slT, q_slS, q_inS1, q_ninS1, CV.val, Val.truth, Tgt.bind, Tgt.bindL, storable, fz?, Def.outs, Val.noOwn, noOwnL, pureL, ME.pure, IK.items, IK.stays, List.range_succ, List.replicate, MOp.sem, isLst, parts?, s0_parts_of, b0_parts_of, s1_parts_of, s2_parts_of, b1_parts_of, b2_parts_of, d_parts_of, R.bind_ok, tupS_ix0, in3, e_none, e_any, e_signs, c, partsL, noOwn_tupS, tt]
    simp [tupS, q_listT e]
end Law

set_option Elab.async false
set_option maxRecDepth 100000
set_option maxHeartbeats 0
set_option linter.all false
namespace Law
open PySem L2 Mn
/-! rules and books -/
abbrev R3 := Str × Str × List Str
def ruleV (r : R3) : Val := .tup [.str r.1, tupS (r.2.1 :: r.2.2)]
def IsRule (r : R3) : Prop := IsName r.1 ∧ IsForm r.2.1 r.2.2
def leR (a b : R3) : Bool := leS a.1 b.1
def sortR (rs : List R3) : List R3 := rs.mergeSort leR
structure IsBook (rs : List R3) : Prop where
  rise : rs.Pairwise fun a b => tx a.1 < tx b.1
  ok : ∀ r ∈ rs, IsRule r
  len : rs.length ≤ 31
theorem noOwn_rule (r : R3) : (ruleV r).noOwn = true := by simp [ruleV, Val.noOwn, noOwnL, noOwn_tupS]
theorem noOwn_rules (rs : List R3) : noOwnL (rs.map ruleV) = true := noOwnL_iff.mpr fun x hx => by
  obtain ⟨r, _, rfl⟩ := List.mem_map.mp hx
  exact noOwn_rule r
theorem good_tupS {l : List Str} (h : ∀ z ∈ l, PyData.strOk z = true) : good (tupS l).data = true ∧ (tupS l).data.depth ≤ 2 := by
  have h1 := good_tup (xs := l.map Val.str) fun x hx => by
    obtain ⟨z, hz, rfl⟩ := List.mem_map.mp hx
    exact ⟨good_str (h z hz), Nat.zero_le _⟩
  refine ⟨h1.1, ?_⟩
  have hd : ∀ l : List Str, PyData.depthAll (dataL (l.map Val.str)) = 0 := by
    intro l
    induction l with
    | nil => rfl
    | cons a r ih => simp only [List.map_cons, dataL, PyData.depthAll, ih]; rfl
  show PyData.depth (.tuple (dataL (l.map Val.str))) ≤ 2
  simp only [PyData.depth, hd]
  omega
theorem IsForm.oks {w : Str} {ps : List Str} (h : IsForm w ps) : ∀ z ∈ w :: ps, PyData.strOk z = true := fun z hz => (List.mem_cons.mp hz).elim (fun e => e ▸ h.okw) (h.okp z)
theorem good_rule {r : R3} (h : IsRule r) : good (ruleV r).data = true ∧ (ruleV r).data.depth ≤ 4 := by
  have h2 := good_tupS h.2.oks
  have h1 := good_tup (xs := [.str r.1, tupS (r.2.1 :: r.2.2)]) fun x hx => by
    simp only [List.mem_cons, List.not_mem_nil, or_false] at hx
    rcases hx with rfl | rfl
    · exact ⟨good_str h.1.ok, Nat.zero_le _⟩
    · exact ⟨h2.1, by omega⟩
  refine ⟨h1.1, ?_⟩
  show PyData.depth (.tuple [_, (tupS (r.2.1 :: r.2.2)).data]) ≤ 4
  simp only [PyData.depth, PyData.depthAll]
  have : (PyData.str r.1).depth = 0 := rfl
  have := h2.2
  simp only [Val.data, PyData.depth] at *
  omega
theorem alike_strs : ∀ l m : List Str, PySem.W.alikeAll (dataL (l.map Val.str)) (dataL (m.map Val.str)) = true
  | [], _ => by cases ‹List Str› <;> simp [dataL, PySem.W.alikeAll]
  | _ :: _, [] => by simp [dataL, PySem.W.alikeAll]
  | a :: r, b :: t => by simp [dataL, PySem.W.alikeAll, Val.data, PySem.W.alike, alike_strs r t]
theorem alike_rule (a b : R3) : PySem.W.alike (ruleV a).data (ruleV b).data = true := by
  have := alike_strs (a.2.1 :: a.2.2) (b.2.1 :: b.2.2)
  simp only [ruleV, tupS, Val.data, dataL, PySem.W.alike, PySem.W.alikeAll, Bool.and_true, Bool.true_and]
  exact this
theorem srtOk_rules {rs : List R3} (h : ∀ r ∈ rs, IsRule r) : srtOk (rs.map ruleV) = true := by
  unfold srtOk
  simp only [Bool.and_eq_true, Bool.or_eq_true, List.all_eq_true, decide_eq_true_eq]
  refine ⟨⟨⟨noOwn_rules rs, fun x hx => ?_⟩, fun x hx y hy => ?_⟩, .inl fun x hx => ?_⟩
  · obtain ⟨z, hz, rfl⟩ := List.mem_map.mp hx
    have := good_rule (h z hz)
    exact ⟨this.1, by omega⟩
  · obtain ⟨z, _, rfl⟩ := List.mem_map.mp hx
    obtain ⟨w, _, rfl⟩ := List.mem_map.mp hy
    exact alike_rule z w
  · obtain ⟨z, _, rfl⟩ := List.mem_map.mp hx
    rfl
theorem leV_rule {a b : R3} (h : a.1 = b.1 → a = b) : leV (ruleV a) (ruleV b) = leR a b := by
  have key : ∀ {a b : R3}, (a.1 = b.1 → a = b) → PySem.W.dataLt (ruleV a).data (ruleV b).data = decide (tx a.1 < tx b.1) := by
    intro a b h
    have h1 : (ruleV a).data = .tuple [.str a.1, (tupS (a.2.1 :: a.2.2)).data] := rfl
    have h2 : (ruleV b).data = .tuple [.str b.1, (tupS (b.2.1 :: b.2.2)).data] := rfl
    have h3 : PySem.W.alike (tupS (a.2.1 :: a.2.2)).data (tupS (b.2.1 :: b.2.2)).data = true := by
      have := alike_rule a b
      simp only [ruleV, Val.data, dataL, PySem.W.alike, PySem.W.alikeAll, Bool.and_true, Bool.true_and] at this
      exact this
    rw [h1, h2, PySem.W.dataLt_pair rfl h3]
    have e : PyData.eqv (.str a.1) (.str b.1) = decide (a.1 = b.1) := beq_str
    rw [e]
    by_cases c : a.1 = b.1
    · obtain rfl := h c
      have q := leV_total (tupS (a.2.1 :: a.2.2)) (tupS (a.2.1 :: a.2.2))
      have q2 : PySem.W.dataLt (tupS (a.2.1 :: a.2.2)).data (tupS (a.2.1 :: a.2.2)).data = false := by
        unfold leV at q
        rw [PySem.W.dataLe_eq] at q
        simpa using q
      simp only [decide_true, if_true, q2, ite_self]
      exact (decide_eq_false (List.lt_irrefl _)).symm
    · rw [if_neg (by simpa using c)]
      have := congrFun (congrFun (PySem.W.dataLe_str (fun b : Str => b)) b.1) a.1
      rw [PySem.W.dataLe_eq] at this
      simp only [cond_false] at this
      have t2 : PySem.W.dataLt (.str a.1) (.str b.1) = !decide (tx b.1 ≤ tx a.1) := by rw [← Bool.not_not (PySem.W.dataLt _ _)]; exact congrArg _ this
      rw [t2]
      by_cases d : tx b.1 ≤ tx a.1
      · simp [d, List.not_lt.mpr d]
      · simp [d, List.not_le.mp d]
  unfold leV leR leS
  rw [PySem.W.dataLe_eq]
  simp only [cond_false]
  rw [key fun e => (h e.symm).symm]
  by_cases d : tx a.1 ≤ tx b.1
  · simp [d, List.not_lt.mpr d]
  · simp [d, List.not_le.mp d]
theorem nd_inj {rs : List R3} (hn : (rs.map (·.1)).Nodup) {a b : R3} (ha : a ∈ rs) (hb : b ∈ rs) (e : a.1 = b.1) : a = b := by
  induction rs with
  | nil => cases ha
  | cons x r ih =>
    simp only [List.map_cons, List.nodup_cons] at hn
    rcases List.mem_cons.mp ha with rfl | ha' <;> rcases List.mem_cons.mp hb with rfl | hb'
    · rfl
    · exact absurd (e ▸ List.mem_map.mpr ⟨b, hb', rfl⟩) hn.1
    · exact absurd (e ▸ List.mem_map.mpr ⟨a, ha', rfl⟩) hn.1
    · exact ih hn.2 ha' hb'
theorem p_sortR {rs : List R3} {o u : Bool} (h : ∀ r ∈ rs, IsRule r) (hn : (rs.map (·.1)).Nodup) : opSorted.sem [(.lst o (rs.map ruleV), u)] = some (.lst true ((sortR rs).map ruleV), true) := by
  have e0 : opSorted.sem = s_srt := rfl
  rw [e0]
  simp only [s_srt, srtOk_rules h, if_true]
  have : sortV (rs.map ruleV) = (sortR rs).map ruleV := by
    unfold sortV sortR
    exact (List.map_mergeSort fun a ha b hb => (leV_rule (nd_inj hn ha hb)).symm).symm
  rw [this]
theorem sortR_book {rs : List R3} (h : ∀ r ∈ rs, IsRule r) (hn : (rs.map (·.1)).Nodup) (hl : rs.length ≤ 31) : IsBook (sortR rs) := by
  have p : (sortR rs).Perm rs := List.mergeSort_perm _ _
  have pw : (sortR rs).Pairwise fun a b => leR a b = true := List.pairwise_mergeSort (fun a b c => leS_trans a.1 b.1 c.1) (fun a b => leS_total a.1 b.1) rs
  refine ⟨?_, fun r hr => h r (p.mem_iff.mp hr), by rw [p.length_eq]; exact hl⟩
  have nd : ((sortR rs).map (·.1)).Nodup := (p.map _).nodup_iff.mpr hn
  have nd2 : (sortR rs).Pairwise fun a b => a.1 ≠ b.1 := List.pairwise_map.mp nd
  exact (pw.and nd2).imp fun ⟨h1, h2⟩ => lt_of_le_ne h1 h2
theorem IsBook.nd {rs : List R3} (h : IsBook rs) : (rs.map (·.1)).Nodup := by
  unfold List.Nodup
  rw [List.pairwise_map]
  refine List.Pairwise.imp ?_ h.rise
  intro a b q e
  rw [show a.1 = b.1 from e] at q
  exact List.lt_irrefl _ q
end Law

set_option Elab.async false
set_option maxRecDepth 100000
set_option maxHeartbeats 0
set_option linter.all false
namespace Law
open PySem L2 Mn
theorem frz_tupS (l : List Str) : (tupS l).frz = tupS l := by simp [tupS, Val.frz, frzL_strs]
theorem frz_rule (r : R3) : (ruleV r).frz = ruleV r := by simp [ruleV, Val.frz, frzL, frz_tupS]
theorem frzL_rules : ∀ rs : List R3, frzL (rs.map ruleV) = rs.map ruleV
  | [] => rfl
  | r :: t => by simp [frzL, frz_rule, frzL_rules t]
theorem eqv_tupS {a b : List Str} : PyData.eqv (tupS a).data (tupS b).data = decide (a = b) := by
  show PyData.eqv (.tuple (dataL (a.map Val.str))) (.tuple (dataL (b.map Val.str))) = _
  rw [PyData.eqv]; exact eqv_strs
theorem eqv_rule {a b : R3} : PyData.eqv (ruleV a).data (ruleV b).data = decide (a = b) := by
  obtain ⟨n, w, ps⟩ := a
  obtain ⟨m, x, qs⟩ := b
  show PyData.eqv (.tuple [.str n, (tupS (w :: ps)).data]) (.tuple [.str m, (tupS (x :: qs)).data]) = _
  have e1 : PyData.eqv (.str n) (.str m) = decide (n = m) := beq_str
  simp only [PyData.eqv, PyData.eqvAll, eqv_tupS, Bool.and_true]
  simp [e1, beq_str, Prod.mk.injEq]
theorem eqv_rules : ∀ {as bs : List R3}, PyData.eqvAll (dataL (as.map ruleV)) (dataL (bs.map ruleV)) = decide (as = bs)
  | [], [] => by simp [dataL, PyData.eqvAll]
  | [], _ :: _ => by simp [dataL, PyData.eqvAll]
  | _ :: _, [] => by simp [dataL, PyData.eqvAll]
  | a :: r, b :: t => by
    simp only [List.map_cons, dataL, PyData.eqvAll, eqv_rule, eqv_rules (as := r) (bs := t)]
    simp
theorem good_rules {rs : List R3} {o : Bool} (h : ∀ r ∈ rs, IsRule r) : good (Val.lst o (rs.map ruleV)).data = true := (good_lst fun x hx => by
  obtain ⟨r, hr, rfl⟩ := List.mem_map.mp hx
  have := good_rule (h r hr)
  exact ⟨this.1, by omega⟩).1
theorem q_neR {as bs : List R3} {o o' u v : Bool} (h1 : ∀ r ∈ as, IsRule r) (h2 : ∀ r ∈ bs, IsRule r) : Op.ne.sem [(.lst o (as.map ruleV), u), (.lst o' (bs.map ruleV), v)] = some (.bl (!decide (as = bs)), true) := by
  rw [q_neD (good_rules h1) (good_rules h2)]
  show some (Val.bl (!PyData.eqv (.list (dataL (as.map ruleV))) (.list (dataL (bs.map ruleV)))), true) = _
  rw [PyData.eqv, eqv_rules]
end Law

set_option Elab.async false
set_option maxRecDepth 100000
set_option maxHeartbeats 0
set_option linter.all false
namespace Law
open PySem L2 Mn
/-! what may be empty -/
def mbe (F : List Str) (r : R3) : Bool :=
  if r.2.1 = kRow then r.2.2.all fun p => decide (p ∈ F) else if r.2.1 = kFirst then r.2.2.any fun p => decide (p ∈ F) else !decide (r.2.1 = kAny ∨ r.2.1 = kSigns)
def stepE (F : List Str) (r : R3) : List Str := if mbe F r then (if r.1 ∈ F then F else F ++ [r.1]) else F
def passE (rs : List R3) (F : List Str) : List Str := rs.foldl stepE F
def itE (rs : List R3) : Nat → List Str
  | 0 => []
  | n + 1 => passE rs (itE rs n)
def fixE (rs : List R3) : List Str := itE rs rs.length
theorem stepE_pre (F : List Str) (r : R3) : ∃ G, stepE F r = F ++ G := by
  unfold stepE
  split
  · split
    · exact ⟨[], by simp⟩
    · exact ⟨[r.1], rfl⟩
  · exact ⟨[], by simp⟩
theorem passE_pre : ∀ (rs : List R3) (F : List Str), ∃ G, passE rs F = F ++ G
  | [], F => ⟨[], by simp [passE]⟩
  | r :: t, F => by
    obtain ⟨G, e⟩ := stepE_pre F r
    obtain ⟨G2, e2⟩ := passE_pre t (stepE F r)
    refine ⟨G ++ G2, ?_⟩
    show passE t (stepE F r) = _
    rw [e2, e, List.append_assoc]
structure FOk (rs : List R3) (F : List Str) : Prop where
  nd : F.Nodup
  sub : ∀ z ∈ F, z ∈ rs.map (·.1)
theorem stepE_ok {rs : List R3} {F : List Str} {r : R3} (hr : r ∈ rs) (h : FOk rs F) : FOk rs (stepE F r) := by
  unfold stepE
  split
  · split
    · exact h
    · refine ⟨List.nodup_append.mpr ⟨h.nd, by simp, ?_⟩, fun z hz => ?_⟩
      · rintro a ha b hb rfl; rw [List.mem_singleton.mp hb] at ha; exact absurd ha (by assumption)
      · rcases List.mem_append.mp hz with h2 | h2
        · exact h.sub z h2
        · rw [List.mem_singleton.mp h2]; exact List.mem_map.mpr ⟨r, hr, rfl⟩
  · exact h
theorem foldE_ok {rs : List R3} : ∀ {t : List R3} {F : List Str}, (∀ r ∈ t, r ∈ rs) → FOk rs F → FOk rs (t.foldl stepE F)
  | [], _, _, h => h
  | r :: t, _, hs, h => foldE_ok (t := t) (fun z hz => hs z (by simp [hz])) (stepE_ok (hs r (by simp)) h)
theorem passE_ok {rs : List R3} {F : List Str} (h : FOk rs F) : FOk rs (passE rs F) := foldE_ok (fun _ h => h) h
theorem itE_ok (rs : List R3) : ∀ n, FOk rs (itE rs n)
  | 0 => ⟨by simp [itE], nofun⟩
  | n + 1 => passE_ok (itE_ok rs n)
theorem FOk.len {rs : List R3} {F : List Str} (h : FOk rs F) : F.length ≤ rs.length := by
  have := nodup_len h.nd h.sub
  simpa using this
theorem fix_on {rs : List R3} {j : Nat} (h : itE rs (j + 1) = itE rs j) : ∀ k, itE rs (j + k) = itE rs j
  | 0 => rfl
  | k + 1 => by
    show passE rs (itE rs (j + k)) = _
    rw [fix_on h k]; exact h
theorem itE_len {rs : List R3} {j : Nat} (h : (itE rs (j + 1)).length ≤ (itE rs j).length) : itE rs (j + 1) = itE rs j := by
  obtain ⟨G, e⟩ := passE_pre rs (itE rs j)
  have e2 : itE rs (j + 1) = itE rs j ++ G := e
  rw [e2, List.length_append] at h
  have : G = [] := List.length_eq_zero_iff.mp (by omega)
  rw [e2, this, List.append_nil]
theorem itE_fix {rs : List R3} {j : Nat} (hj : j ≤ rs.length) (h : itE rs (j + 1) = itE rs j) : itE rs j = fixE rs := by
  have := fix_on h (rs.length - j)
  rw [show j + (rs.length - j) = rs.length by omega] at this
  exact this.symm
theorem FOk.oks {rs : List R3} {F : List Str} (h : FOk rs F) (hb : ∀ r ∈ rs, IsRule r) : ∀ z ∈ F, PyData.strOk z = true := fun z hz => by
  obtain ⟨r, hr, rfl⟩ := List.mem_map.mp (h.sub z hz)
  exact (hb r hr).1.ok
/-! the program's -/
theorem comp0_ok {w : Str} {ps F : List Str} {o : Bool} (hl : ps.length ≤ 1000) (hp : partsL w ps = ps) : evE T_may_be_empty c0_may_be_empty [some (tupS (w :: ps)), some (.dK o (dset F)), none] = .ok (.lst true (ps.map fun p => Val.bl (decide (p ∈ F))), true, [some (tupS (w :: ps)), some (.dK o (dset F)), none]) := by
  have e1 := parts_ok (w := w) (ps := ps) hl
  rw [hp] at e1
  have q := lcGo_map (vs := [2]) (bt := g0_may_be_empty.bind) (c := evIfs T_may_be_empty i0_may_be_empty) (f := evE T_may_be_empty e0_may_be_empty) (E := [some (tupS (w :: ps)), some (.dK o (dset F)), none]) (p := fun _ => true) (g := fun v => match v with | .str z => Val.bl (decide (z ∈ F)) | _ => .non) (items := ps.map Val.str) (by
    intro x hx
    obtain ⟨z, hz, rfl⟩ := List.mem_map.mp hx
    refine ⟨[some (tupS (w :: ps)), some (.dK o (dset F)), some (.str z)], [some (tupS (w :: ps)), some (.dK o (dset F)), some (.str z)], rfl, ?_, fun _ => ⟨true, [some (tupS (w :: ps)), some (.dK o (dset F)), some (.str z)], ?_, rfl, rfl⟩, nofun⟩
    · simp [small_line, q_nil, exL, exS, evE, evL, evI, evT, evTAnd, evTOr, evAnd, evOr, evIfs, evArgs, lendIx, lendOut, lendBack, forGo, R.bind_ok, R.bind_exc, R.bind_stuck, q_addI, q_addS, q_addL, q_addT, q_sub, q_mul, q_fdiv, q_mod, q_pow, q_neg, q_ltI, q_ltS, q_lt', q_le, q_gt, q_ge, q_eqI, q_neI, q_eqS, q_neS, q_eqB, q_neB, q_isN, q_notN, q_isi, q_lst, q_tup, q_dnK, q_dnT, q_ixL, q_ixT, q_ixC, q_ixS, r_ixL, r_ixT, r_ixS, q_lenL, q_lenT, q_lenC, q_lenD, q_lenS, q_listL, q_listT, q_listD, q_tupOf, q_max, q_min, q_intB, q_intI, q_all, q_any, q_slL, q_slT, q_slS, q_inS1, q_ninS1, CV.val, Val.truth, Tgt.bind, Tgt.bindL, storable, fz?, Def.outs, Val.noOwn, noOwnL, pureL, ME.pure, IK.items, IK.stays, List.range_succ, List.replicate, MOp.sem, isLst, parts?, i0_may_be_empty]
    · simp [small_line, q_nil, exL, exS, evE, evL, evI, evT, evTAnd, evTOr, evAnd, evOr, evIfs, evArgs, lendIx, lendOut, lendBack, forGo, R.bind_ok, R.bind_exc, R.bind_stuck, q_addI, q_addS, q_addL, q_addT, q_sub, q_mul, q_fdiv, q_mod, q_pow, q_neg, q_ltI, q_ltS, q_lt', q_le, q_gt, q_ge, q_eqI, q_neI, q_eqS, q_neS, q_eqB, q_neB, q_isN, q_notN, q_isi, q_lst, q_tup, q_dnK, q_dnT, q_ixL, q_ixT, q_ixC, q_ixS, r_ixL, r_ixT, r_ixS, q_lenL, q_lenT, q_lenC, q_lenD, q_lenS, q_listL, q_listT, q_listD, q_tupOf, q_max, q_min, q_intB, q_intI, q_all, q_any, q_slL, q_slT, q_slS, q_inS1, q_ninS1, CV.val, Val.truth, Tgt.bind, Tgt.bindL, storable, fz?, Def.outs, Val.noOwn, noOwnL, pureL, ME.pure, IK.items, IK.stays, List.range_succ, List.replicate, MOp.sem, isLst, parts?, e0_may_be_empty, q_inDS])
  have e2 : ((ps.map Val.str).filter fun _ => true).map (fun v => match v with | .str z => Val.bl (decide (z ∈ F)) | _ => .non) = ps.map fun p => Val.bl (decide (p ∈ F)) := by
    rw [List.filter_eq_self.mpr (fun _ _ => rfl), List.map_map]; rfl
  rw [e2] at q
  have hs := big_line
  have hlen : ps.length ≤ sizeLine := by omega
  have nt := noOwn_tupS (w :: ps)
  have ns := noOwn_strs ps
  simp [small_line, q_nil, exL, exS, evE, evL, evI, evT, evTAnd, evTOr, evAnd, evOr, evIfs, evArgs, lendIx, lendOut, lendBack, forGo, R.bind_ok, R.bind_exc, R.bind_stuck, q_addI, q_addS, q_addL, q_addT, q_sub, q_mul, q_fdiv, q_mod, q_pow, q_neg, q_ltI, q_ltS, q_lt', q_le, q_gt, q_ge, q_eqI, q_neI, q_eqS, q_neS, q_eqB, q_neB, q_isN, q_notN, q_isi, q_lst, q_tup, q_dnK, q_dnT, q_ixL, q_ixT, q_ixC, q_ixS, r_ixL, r_ixT, r_ixS, q_lenL, q_lenT, q_lenC, q_lenD, q_lenS, q_listL, q_listT, q_listD, q_tupOf, q_max, q_min, q_intB, q_intI, q_all, q_any, q_slL, q_slT, q_slS, q_inS1, q_ninS1, CV.val, Val.truth, Tgt.bind, Tgt.bindL, storable, fz?, Def.outs, Val.noOwn, noOwnL, pureL, ME.pure, IK.items, IK.stays, List.range_succ, List.replicate, MOp.sem, isLst, parts?, c0_may_be_empty, tf0_may_be_empty, e1, nt, ns, wipeOk, wipeE, q, hlen]
theorem comp1_ok {w : Str} {ps F : List Str} {o : Bool} (hl : ps.length ≤ 1000) (hp : partsL w ps = ps) : evE T_may_be_empty c1_may_be_empty [some (tupS (w :: ps)), some (.dK o (dset F)), none] = .ok (.lst true (ps.map fun p => Val.bl (decide (p ∈ F))), true, [some (tupS (w :: ps)), some (.dK o (dset F)), none]) := by
  have e1 := parts_ok (w := w) (ps := ps) hl
  rw [hp] at e1
  have q := lcGo_map (vs := [2]) (bt := g1_may_be_empty.bind) (c := evIfs T_may_be_empty i1_may_be_empty) (f := evE T_may_be_empty e1_may_be_empty) (E := [some (tupS (w :: ps)), some (.dK o (dset F)), none]) (p := fun _ => true) (g := fun v => match v with | .str z => Val.bl (decide (z ∈ F)) | _ => .non) (items := ps.map Val.str) (by
    intro x hx
    obtain ⟨z, hz, rfl⟩ := List.mem_map.mp hx
    refine ⟨[some (tupS (w :: ps)), some (.dK o (dset F)), some (.str z)], [some (tupS (w :: ps)), some (.dK o (dset F)), some (.str z)], rfl, ?_, fun _ => ⟨true, [some (tupS (w :: ps)), some (.dK o (dset F)), some (.str z)], ?_, rfl, rfl⟩, nofun⟩
    · simp [small_line, q_nil, exL, exS, evE, evL, evI, evT, evTAnd, evTOr, evAnd, evOr, evIfs, evArgs, lendIx, lendOut, lendBack, forGo, R.bind_ok, R.bind_exc, R.bind_stuck, q_addI, q_addS, q_addL, q_addT, q_sub, q_mul, q_fdiv, q_mod, q_pow, q_neg, q_ltI, q_ltS, q_lt', q_le, q_gt, q_ge, q_eqI, q_neI, q_eqS, q_neS, q_eqB, q_neB, q_isN, q_notN, q_isi, q_lst, q_tup, q_dnK, q_dnT, q_ixL, q_ixT, q_ixC, q_ixS, r_ixL, r_ixT, r_ixS, q_lenL, q_lenT, q_lenC, q_lenD, q_lenS, q_listL, q_listT, q_listD, q_tupOf, q_max, q_min, q_intB, q_intI, q_all, q_any, q_slL, q_slT, q_slS, q_inS1, q_ninS1, CV.val, Val.truth, Tgt.bind, Tgt.bindL, storable, fz?, Def.outs, Val.noOwn, noOwnL, pureL, ME.pure, IK.items, IK.stays, List.range_succ, List.replicate, MOp.sem, isLst, parts?, i1_may_be_empty]
    · simp [small_line, q_nil, exL, exS, evE, evL, evI, evT, evTAnd, evTOr, evAnd, evOr, evIfs, evArgs, lendIx, lendOut, lendBack, forGo, R.bind_ok, R.bind_exc, R.bind_stuck, q_addI, q_addS, q_addL, q_addT, q_sub, q_mul, q_fdiv, q_mod, q_pow, q_neg, q_ltI, q_ltS, q_lt', q_le, q_gt, q_ge, q_eqI, q_neI, q_eqS, q_neS, q_eqB, q_neB, q_isN, q_notN, q_isi, q_lst, q_tup, q_dnK, q_dnT, q_ixL, q_ixT, q_ixC, q_ixS, r_ixL, r_ixT, r_ixS, q_lenL, q_lenT, q_lenC, q_lenD, q_lenS, q_listL, q_listT, q_listD, q_tupOf, q_max, q_min, q_intB, q_intI, q_all, q_any, q_slL, q_slT, q_slS, q_inS1, q_ninS1, CV.val, Val.truth, Tgt.bind, Tgt.bindL, storable, fz?, Def.outs, Val.noOwn, noOwnL, pureL, ME.pure, IK.items, IK.stays, List.range_succ, List.replicate, MOp.sem, isLst, parts?, e1_may_be_empty, q_inDS])
  have e2 : ((ps.map Val.str).filter fun _ => true).map (fun v => match v with | .str z => Val.bl (decide (z ∈ F)) | _ => .non) = ps.map fun p => Val.bl (decide (p ∈ F)) := by
    rw [List.filter_eq_self.mpr (fun _ _ => rfl), List.map_map]; rfl
  rw [e2] at q
  have hs := big_line
  have hlen : ps.length ≤ sizeLine := by omega
  have nt := noOwn_tupS (w :: ps)
  have ns := noOwn_strs ps
  simp [small_line, q_nil, exL, exS, evE, evL, evI, evT, evTAnd, evTOr, evAnd, evOr, evIfs, evArgs, lendIx, lendOut, lendBack, forGo, R.bind_ok, R.bind_exc, R.bind_stuck, q_addI, q_addS, q_addL, q_addT, q_sub, q_mul, q_fdiv, q_mod, q_pow, q_neg, q_ltI, q_ltS, q_lt', q_le, q_gt, q_ge, q_eqI, q_neI, q_eqS, q_neS, q_eqB, q_neB, q_isN, q_notN, q_isi, q_lst, q_tup, q_dnK, q_dnT, q_ixL, q_ixT, q_ixC, q_ixS, r_ixL, r_ixT, r_ixS, q_lenL, q_lenT, q_lenC, q_lenD, q_lenS, q_listL, q_listT, q_listD, q_tupOf, q_max, q_min, q_intB, q_intI, q_all, q_any, q_slL, q_slT, q_slS, q_inS1, q_ninS1, CV.val, Val.truth, Tgt.bind, Tgt.bindL, storable, fz?, Def.outs, Val.noOwn, noOwnL, pureL, ME.pure, IK.items, IK.stays, List.range_succ, List.replicate, MOp.sem, isLst, parts?, c1_may_be_empty, tf0_may_be_empty, e1, nt, ns, wipeOk, wipeE, q, hlen]
theorem partsL_row (ps : List Str) : partsL kRow ps = ps := by
  unfold partsL
  rw [if_neg (by decide +kernel)]
theorem partsL_first (ps : List Str) : partsL kFirst ps = ps := by
  unfold partsL
  rw [if_neg (by decide +kernel)]
theorem nin2 {w : Str} {u v : Bool} : ninO.sem [(.str w, u), (.tup [.str kAny, .str kSigns], v)] = some (.bl (!decide (w = kAny ∨ w = kSigns)), true) := by
  have := q_ninTS (z := w) (zs := [kAny, kSigns]) (u := u) (v := v)
  simpa using this
theorem mbe_ok {r : R3} {F : List Str} {o : Bool} (h : IsRule r) : d_may_be_empty.run T_may_be_empty [tupS (r.2.1 :: r.2.2), .dK o (dset F)] = .ok (.bl (mbe F r)) [none, some (.dK o (dset F))] := by
  obtain ⟨nm, w, ps⟩ := r
  have hl := h.2.len
  have okw := h.2.okw
  have o4 : PyData.strOk kRow = true := by decide +kernel
  have o5 : PyData.strOk kFirst = true := by decide +kernel
  simp only at hl okw ⊢
  rw [Def.run]
  by_cases c1 : w = kRow
  · subst c1
    have q := comp0_ok (F := F) (o := o) (w := kRow) (ps := ps) (by omega) (partsL_row ps)
    simp [small_line, q_nil, exL, exS, evE, evL, evI, evT, evTAnd, evTOr, evAnd, evOr, evIfs, evArgs, lendIx, lendOut, lendBack, forGo, R.bind_ok, R.bind_exc, R.bind_stuck, q_addI, q_addS, q_addL, q_addT, q_sub, q_mul, q_fdiv, q_mod, q_pow, q_neg, q_ltI, q_ltS, q_lt', q_le, q_gt, q_ge, q_eqI, q_neI, q_eqS, q_neS, q_eqB, q_neB, q_isN, q_notN, q_isi, q_lst, q_tup, q_dnK, q_dnT, q_ixL, q_ixT, q_ixC, q_ixS, r_ixL, r_ixT, r_ixS, q_lenL, q_lenT, q_lenC, q_lenD, q_lenS, q_listL, q_listT, q_listD, q_tupOf, q_max, q_min, q_intB, q_intI, q_all, q_any, q_slL, q_slT, q_slS, q_inS1, q_ninS1, CV.val, Val.truth, Tgt.bind, Tgt.bindL, storable, fz?, Def.outs, Val.noOwn, noOwnL, pureL, ME.pure, IK.items, IK.stays, List.range_succ, List.replicate, MOp.sem, isLst, parts?, s0_may_be_empty, b0_may_be_empty, s1_may_be_empty, s2_may_be_empty, b1_may_be_empty, s3_may_be_empty, s4_may_be_empty, b2_may_be_empty, b3_may_be_empty, b4_may_be_empty, d_may_be_empty, tupS_ix0, e_row, okw, o4, q, allB_bl, List.all_map, Function.comp_def, mbe]
  by_cases c2 : w = kFirst
  · subst c2
    have q := comp1_ok (F := F) (o := o) (w := kFirst) (ps := ps) (by omega) (partsL_first ps)
    have c3 : ¬ kFirst = kRow := by decide +kernel
    simp [small_line, q_nil, exL, exS, evE, evL, evI, evT, evTAnd, evTOr, evAnd, evOr, evIfs, evArgs, lendIx, lendOut, lendBack, forGo, R.bind_ok, R.bind_exc, R.bind_stuck, q_addI, q_addS, q_addL, q_addT, q_sub, q_mul, q_fdiv, q_mod, q_pow, q_neg, q_ltI, q_ltS, q_lt', q_le, q_gt, q_ge, q_eqI, q_neI, q_eqS, q_neS, q_eqB, q_neB, q_isN, q_notN, q_isi, q_lst, q_tup, q_dnK, q_dnT, q_ixL, q_ixT, q_ixC, q_ixS, r_ixL, r_ixT, r_ixS, q_lenL, q_lenT, q_lenC, q_lenD, q_lenS, q_listL, q_listT, q_listD, q_tupOf, q_max, q_min, q_intB, q_intI, q_all, q_any, q_slL, q_slT, q_slS, q_inS1, q_ninS1, CV.val, Val.truth, Tgt.bind, Tgt.bindL, storable, fz?, Def.outs, Val.noOwn, noOwnL, pureL, ME.pure, IK.items, IK.stays, List.range_succ, List.replicate, MOp.sem, isLst, parts?, s0_may_be_empty, b0_may_be_empty, s1_may_be_empty, s2_may_be_empty, b1_may_be_empty, s3_may_be_empty, s4_may_be_empty, b2_may_be_empty, b3_may_be_empty, b4_may_be_empty, d_may_be_empty, tupS_ix0, e_row, e_first, okw, o4, o5, q, allB_bl, List.any_map, Function.comp_def, mbe, c3]
  · simp [small_line, q_nil, exL, exS, evE, evL, evI, evT, evTAnd, evTOr, evAnd, evOr, evIfs, evArgs, lendIx, lendOut, lendBack, forGo, R.bind_ok, R.bind_exc, R.bind_stuck, q_addI, q_addS, q_addL, q_addT, q_sub, q_mul, q_fdiv, q_mod, q_pow, q_neg, q_ltI, q_ltS, q_lt', q_le, q_gt, q_ge, q_eqI, q_neI, q_eqS, q_neS, q_eqB, q_neB, q_isN, q_notN, q_isi, q_lst, q_tup, q_dnK, q_dnT, q_ixL, q_ixT, q_ixC, q_ixS, r_ixL, r_ixT, r_ixS, q_lenL, q_lenT, q_lenC, q_lenD, q_lenS, q_listL, q_listT, q_listD, q_tupOf, q_max, q_min, q_intB, q_intI, q_all, q_any, q_slL, q_slT, q_slS, q_inS1, q_ninS1, CV.val, Val.truth, Tgt.bind, Tgt.bindL, storable, fz?, Def.outs, Val.noOwn, noOwnL, pureL, ME.pure, IK.items, IK.stays, List.range_succ, List.replicate, MOp.sem, isLst, parts?, s0_may_be_empty, b0_may_be_empty, s1_may_be_empty, s2_may_be_empty, b1_may_be_empty, s3_may_be_empty, s4_may_be_empty, b2_may_be_empty, b3_may_be_empty, b4_may_be_empty, d_may_be_empty, tupS_ix0, e_row, e_first, e_any, e_signs, okw, o4, o5, mbe, c1, c2, nin2]
end Law

set_option Elab.async false
set_option maxRecDepth 100000
set_option maxHeartbeats 0
set_option linter.all false
namespace Law
open PySem L2 Mn
theorem empt_turn {rs : List R3} {m : Int} (hb : ∀ r ∈ rs, IsRule r) {r : R3} (hr : r ∈ rs) {F : List Str} (hF : FOk rs F) (hl : rs.length ≤ 1000) {x3 x4 : Option Val} :
    ∃ env1 env2, g0_emptiness.bind (ruleV r) [some (.lst false (rs.map ruleV)), some (.dK true (dset F)), some (.int m), x3, x4] = some env1 ∧ exL T_emptiness b1_emptiness env1 = .ok (none, env2) ∧ ∃ y3 y4, env2 = [some (.lst false (rs.map ruleV)), some (.dK true (dset (stepE F r))), some (.int m), y3, y4] := by
  have e1 := mbe_ok (F := F) (o := true) (hb r hr)
  have hs := big_line
  have hlen := hF.len
  have st := st_dset (zs := F) (z := r.1) (by omega)
  have nt := noOwn_tupS (r.2.1 :: r.2.2)
  refine ⟨_, _, rfl, ?_, some (.str r.1), some (tupS (r.2.1 :: r.2.2)), rfl⟩
  unfold stepE
  by_cases c : mbe F r = true
  · rw [c] at e1
    simp [small_line, q_nil, exL, exS, evE, evL, evI, evT, evTAnd, evTOr, evAnd, evOr, evIfs, evArgs, lendIx, lendOut, lendBack, forGo, R.bind_ok, R.bind_exc, R.bind_stuck, q_addI, q_addS, q_addL, q_addT, q_sub, q_mul, q_fdiv, q_mod, q_pow, q_neg, q_ltI, q_ltS, q_lt', q_le, q_gt, q_ge, q_eqI, q_neI, q_eqS, q_neS, q_eqB, q_neB, q_isN, q_notN, q_isi, q_lst, q_tup, q_dnK, q_dnT, q_ixL, q_ixT, q_ixC, q_ixS, r_ixL, r_ixT, r_ixS, q_lenL, q_lenT, q_lenC, q_lenD, q_lenS, q_listL, q_listT, q_listD, q_tupOf, q_max, q_min, q_intB, q_intI, q_all, q_any, q_slL, q_slT, q_slS, q_inS1, q_ninS1, CV.val, Val.truth, Tgt.bind, Tgt.bindL, storable, fz?, Def.outs, Val.noOwn, noOwnL, pureL, ME.pure, IK.items, IK.stays, List.range_succ, List.replicate, MOp.sem, isLst, parts?, b1_emptiness, b0_emptiness, s3_emptiness, s4_emptiness, tf0_emptiness, g0_emptiness, ruleV, e1, st, nt, c]
  · rw [Bool.not_eq_true] at c
    rw [c] at e1
    simp [small_line, q_nil, exL, exS, evE, evL, evI, evT, evTAnd, evTOr, evAnd, evOr, evIfs, evArgs, lendIx, lendOut, lendBack, forGo, R.bind_ok, R.bind_exc, R.bind_stuck, q_addI, q_addS, q_addL, q_addT, q_sub, q_mul, q_fdiv, q_mod, q_pow, q_neg, q_ltI, q_ltS, q_lt', q_le, q_gt, q_ge, q_eqI, q_neI, q_eqS, q_neS, q_eqB, q_neB, q_isN, q_notN, q_isi, q_lst, q_tup, q_dnK, q_dnT, q_ixL, q_ixT, q_ixC, q_ixS, r_ixL, r_ixT, r_ixS, q_lenL, q_lenT, q_lenC, q_lenD, q_lenS, q_listL, q_listT, q_listD, q_tupOf, q_max, q_min, q_intB, q_intI, q_all, q_any, q_slL, q_slT, q_slS, q_inS1, q_ninS1, CV.val, Val.truth, Tgt.bind, Tgt.bindL, storable, fz?, Def.outs, Val.noOwn, noOwnL, pureL, ME.pure, IK.items, IK.stays, List.range_succ, List.replicate, MOp.sem, isLst, parts?, b1_emptiness, b0_emptiness, s3_emptiness, s4_emptiness, tf0_emptiness, g0_emptiness, ruleV, e1, st, nt, c]
theorem empt_pass {rs : List R3} {m : Int} (hb : ∀ r ∈ rs, IsRule r) {F : List Str} (hF : FOk rs F) (hl : rs.length ≤ 1000) {x3 x4 : Option Val} :
    ∃ y3 y4, exS T_emptiness s5_emptiness [some (.lst false (rs.map ruleV)), some (.dK true (dset F)), some (.int m), x3, x4] = .ok (none, [some (.lst false (rs.map ruleV)), some (.dK true (dset (passE rs F))), some (.int m), y3, y4]) := by
  obtain ⟨envF, q1, ⟨y3, y4, rfl⟩, _⟩ := forGo_fold (bt := g0_emptiness.bind) (b := exL T_emptiness b1_emptiness) (fun G env => (∃ y3 y4, env = [some (.lst false (rs.map ruleV)), some (.dK true (dset G)), some (.int m), y3, y4]) ∧ FOk rs G) stepE ruleV (as := rs) (s := F)
    (env := [some (.lst false (rs.map ruleV)), some (.dK true (dset F)), some (.int m), x3, x4]) (by
      rintro r hr G env ⟨⟨y3, y4, rfl⟩, hG⟩
      obtain ⟨env1, env2, e1, e2, e3⟩ := empt_turn (m := m) hb hr hG hl (x3 := y3) (x4 := y4)
      exact ⟨env1, env2, e1, e2, e3, stepE_ok hr hG⟩) ⟨⟨_, _, rfl⟩, hF⟩
  refine ⟨y3, y4, ?_⟩
  have nr := noOwn_rules rs
  simp [small_line, q_nil, exL, exS, evE, evL, evI, evT, evTAnd, evTOr, evAnd, evOr, evIfs, evArgs, lendIx, lendOut, lendBack, forGo, R.bind_ok, R.bind_exc, R.bind_stuck, q_addI, q_addS, q_addL, q_addT, q_sub, q_mul, q_fdiv, q_mod, q_pow, q_neg, q_ltI, q_ltS, q_lt', q_le, q_gt, q_ge, q_eqI, q_neI, q_eqS, q_neS, q_eqB, q_neB, q_isN, q_notN, q_isi, q_lst, q_tup, q_dnK, q_dnT, q_ixL, q_ixT, q_ixC, q_ixS, r_ixL, r_ixT, r_ixS, q_lenL, q_lenT, q_lenC, q_lenD, q_lenS, q_listL, q_listT, q_listD, q_tupOf, q_max, q_min, q_intB, q_intI, q_all, q_any, q_slL, q_slT, q_slS, q_inS1, q_ninS1, CV.val, Val.truth, Tgt.bind, Tgt.bindL, storable, fz?, Def.outs, Val.noOwn, noOwnL, pureL, ME.pure, IK.items, IK.stays, List.range_succ, List.replicate, MOp.sem, isLst, parts?, s5_emptiness, nr, -forGo]
  exact q1
theorem empt_ok {rs : List R3} (hb : ∀ r ∈ rs, IsRule r) (hl : rs.length ≤ 1000) : d_emptiness.run T_emptiness [.lst false (rs.map ruleV)] = .ok (.dK true (dset (fixE rs))) [none] := by
  have step : ∀ k env, (∃ (j : Nat) (m : Int) (x3 x4 : Option Val), env = [some (.lst false (rs.map ruleV)), some (.dK true (dset (itE rs j))), some (.int m), x3, x4] ∧ k + j = rs.length + 2 ∧ ((j = 0 ∧ m = -1) ∨ ∃ i, j = i + 1 ∧ m = (itE rs i).length ∧ i ≤ (itE rs i).length)) →
      (∃ env1 env2 k', evT T_emptiness t0_emptiness env = .ok (true, env1) ∧ exL T_emptiness b3_emptiness env1 = .ok (none, env2) ∧ (∃ (j : Nat) (m : Int) (x3 x4 : Option Val), env2 = [some (.lst false (rs.map ruleV)), some (.dK true (dset (itE rs j))), some (.int m), x3, x4] ∧ k' + j = rs.length + 2 ∧ ((j = 0 ∧ m = -1) ∨ ∃ i, j = i + 1 ∧ m = (itE rs i).length ∧ i ≤ (itE rs i).length)) ∧ k' < k) ∨
      (∃ env1, evT T_emptiness t0_emptiness env = .ok (false, env1) ∧ ∃ (m : Int) (x3 x4 : Option Val), env1 = [some (.lst false (rs.map ruleV)), some (.dK true (dset (fixE rs))), some (.int m), x3, x4]) := by
    rintro k env ⟨j, m, x3, x4, rfl, hk, hj⟩
    by_cases c : m < ((itE rs j).length : Int)
    · left
      obtain ⟨y3, y4, e1⟩ := empt_pass (m := (itE rs j).length) hb (itE_ok rs j) hl (x3 := x3) (x4 := x4)
      have hle := (itE_ok rs j).len
      have hj2 : j ≤ (itE rs j).length := by
        rcases hj with ⟨rfl, _⟩ | ⟨i, rfl, rfl, h⟩
        · omega
        · omega
      refine ⟨[some (.lst false (rs.map ruleV)), some (.dK true (dset (itE rs j))), some (.int m), x3, x4], _, k - 1, ?_, ?_, ⟨j + 1, (itE rs j).length, y3, y4, rfl, by omega, .inr ⟨j, rfl, rfl, hj2⟩⟩, by omega⟩
      · simp [small_line, q_nil, exL, exS, evE, evL, evI, evT, evTAnd, evTOr, evAnd, evOr, evIfs, evArgs, lendIx, lendOut, lendBack, forGo, R.bind_ok, R.bind_exc, R.bind_stuck, q_addI, q_addS, q_addL, q_addT, q_sub, q_mul, q_fdiv, q_mod, q_pow, q_neg, q_ltI, q_ltS, q_lt', q_le, q_gt, q_ge, q_eqI, q_neI, q_eqS, q_neS, q_eqB, q_neB, q_isN, q_notN, q_isi, q_lst, q_tup, q_dnK, q_dnT, q_ixL, q_ixT, q_ixC, q_ixS, r_ixL, r_ixT, r_ixS, q_lenL, q_lenT, q_lenC, q_lenD, q_lenS, q_listL, q_listT, q_listD, q_tupOf, q_max, q_min, q_intB, q_intI, q_all, q_any, q_slL, q_slT, q_slS, q_inS1, q_ninS1, CV.val, Val.truth, Tgt.bind, Tgt.bindL, storable, fz?, Def.outs, Val.noOwn, noOwnL, pureL, ME.pure, IK.items, IK.stays, List.range_succ, List.replicate, MOp.sem, isLst, parts?, t0_emptiness, dset_len, c]
      · simp [small_line, q_nil, exL, exS, evE, evL, evI, evT, evTAnd, evTOr, evAnd, evOr, evIfs, evArgs, lendIx, lendOut, lendBack, forGo, R.bind_ok, R.bind_exc, R.bind_stuck, q_addI, q_addS, q_addL, q_addT, q_sub, q_mul, q_fdiv, q_mod, q_pow, q_neg, q_ltI, q_ltS, q_lt', q_le, q_gt, q_ge, q_eqI, q_neI, q_eqS, q_neS, q_eqB, q_neB, q_isN, q_notN, q_isi, q_lst, q_tup, q_dnK, q_dnT, q_ixL, q_ixT, q_ixC, q_ixS, r_ixL, r_ixT, r_ixS, q_lenL, q_lenT, q_lenC, q_lenD, q_lenS, q_listL, q_listT, q_listD, q_tupOf, q_max, q_min, q_intB, q_intI, q_all, q_any, q_slL, q_slT, q_slS, q_inS1, q_ninS1, CV.val, Val.truth, Tgt.bind, Tgt.bindL, storable, fz?, Def.outs, Val.noOwn, noOwnL, pureL, ME.pure, IK.items, IK.stays, List.range_succ, List.replicate, MOp.sem, isLst, parts?, b3_emptiness, s2_emptiness, b2_emptiness, dset_len, e1]
        rfl
    · right
      rcases hj with ⟨rfl, rfl⟩ | ⟨i, rfl, rfl, h⟩
      · exact absurd (show (-1 : Int) < ((itE rs 0).length : Int) by omega) c
      · have e := itE_len (rs := rs) (j := i) (by omega)
        have hle := (itE_ok rs i).len
        have e2 := itE_fix (rs := rs) (j := i) (by omega) e
        refine ⟨[some (.lst false (rs.map ruleV)), some (.dK true (dset (fixE rs))), some (.int (itE rs i).length), x3, x4], ?_, (itE rs i).length, x3, x4, rfl⟩
        rw [← e2, e]
        rw [e] at c
        simp [small_line, q_nil, exL, exS, evE, evL, evI, evT, evTAnd, evTOr, evAnd, evOr, evIfs, evArgs, lendIx, lendOut, lendBack, forGo, R.bind_ok, R.bind_exc, R.bind_stuck, q_addI, q_addS, q_addL, q_addT, q_sub, q_mul, q_fdiv, q_mod, q_pow, q_neg, q_ltI, q_ltS, q_lt', q_le, q_gt, q_ge, q_eqI, q_neI, q_eqS, q_neS, q_eqB, q_neB, q_isN, q_notN, q_isi, q_lst, q_tup, q_dnK, q_dnT, q_ixL, q_ixT, q_ixC, q_ixS, r_ixL, r_ixT, r_ixS, q_lenL, q_lenT, q_lenC, q_lenD, q_lenS, q_listL, q_listT, q_listD, q_tupOf, q_max, q_min, q_intB, q_intI, q_all, q_any, q_slL, q_slT, q_slS, q_inS1, q_ninS1, CV.val, Val.truth, Tgt.bind, Tgt.bindL, storable, fz?, Def.outs, Val.noOwn, noOwnL, pureL, ME.pure, IK.items, IK.stays, List.range_succ, List.replicate, MOp.sem, isLst, parts?, t0_emptiness, dset_len, c]
  obtain ⟨envF, q1, m, x3, x4, rfl⟩ := whileGo_rel _ _ step (n := 1000000) (k := rs.length + 2) (env := [some (.lst false (rs.map ruleV)), some (.dK true (dset (itE rs 0))), some (.int (-1)), none, none]) ⟨0, -1, none, none, rfl, by omega, .inl ⟨rfl, rfl⟩⟩ (by omega)
  have e0 : exS T_emptiness s6_emptiness [some (.lst false (rs.map ruleV)), some (.dK true []), some (.int (-1)), none, none] = .ok (none, [some (.lst false (rs.map ruleV)), some (.dK true (dset (fixE rs))), some (.int m), x3, x4]) := q1
  rw [Def.run]
  simp [small_line, q_nil, exL, exS, evE, evL, evI, evT, evTAnd, evTOr, evAnd, evOr, evIfs, evArgs, lendIx, lendOut, lendBack, forGo, R.bind_ok, R.bind_exc, R.bind_stuck, q_addI, q_addS, q_addL, q_addT, q_sub, q_mul, q_fdiv, q_mod, q_pow, q_neg, q_ltI, q_ltS, q_lt', q_le, q_gt, q_ge, q_eqI, q_neI, q_eqS, q_neS, q_eqB, q_neB, q_isN, q_notN, q_isi, q_lst, q_tup, q_dnK, q_dnT, q_ixL, q_ixT, q_ixC, q_ixS, r_ixL, r_ixT, r_ixS, q_lenL, q_lenT, q_lenC, q_lenD, q_lenS, q_listL, q_listT, q_listD, q_tupOf, q_max, q_min, q_intB, q_intI, q_all, q_any, q_slL, q_slT, q_slS, q_inS1, q_ninS1, CV.val, Val.truth, Tgt.bind, Tgt.bindL, storable, fz?, Def.outs, Val.noOwn, noOwnL, pureL, ME.pure, IK.items, IK.stays, List.range_succ, List.replicate, MOp.sem, isLst, parts?, d_emptiness, b7_emptiness, b6_emptiness, b5_emptiness, b4_emptiness, s7_emptiness, s1_emptiness, s0_emptiness, e0]
theorem fixE_ok (rs : List R3) : FOk rs (fixE rs) := itE_ok rs _
end Law

set_option Elab.async false
set_option maxRecDepth 100000
set_option maxHeartbeats 0
set_option linter.all false
namespace Law
open PySem L2 Mn
theorem in4 {w : Str} {o u v : Bool} (h : PyData.strOk w = true) : inO.sem [(.str w, u), (.lst o [.str kNone, .str kAgain, .str kAhead, .str kNot], v)] = some (.bl (decide (w = kNone ∨ w = kAgain ∨ w = kAhead ∨ w = kNot)), true) := by
  have := q_inLS (o := o) (u := u) (v := v) (z := w) (zs := [kNone, kAgain, kAhead, kNot]) h (by decide +kernel)
  simpa using this
theorem le_c0 {w : Str} {ps F : List Str} {x0 x2 x3 x5 : Option Val} {o : Bool} (hl : ps.length ≤ 1000) (h1 : ∀ z ∈ F, PyData.strOk z = true) (h2 : ∀ z ∈ ps, PyData.strOk z = true) :
    evE T__law_empty c0__law_empty [x0, some (.lst o (F.map Val.str)), x2, x3, some (tupS (w :: ps)), x5, none] = .ok (.lst true ((ps.filter fun z => !decide (z ∈ F)).map Val.str), true, [x0, some (.lst o (F.map Val.str)), x2, x3, some (tupS (w :: ps)), x5, none]) := by
  have q := lcGo_as (vs := [6]) (bt := g2__law_empty.bind) (c := evIfs T__law_empty i0__law_empty) (f := evE T__law_empty e0__law_empty) (E := [x0, some (.lst o (F.map Val.str)), x2, x3, some (tupS (w :: ps)), x5, none]) Val.str (fun z => !decide (z ∈ F)) Val.str (as := ps) (by
    intro z hz
    refine ⟨[x0, some (.lst o (F.map Val.str)), x2, x3, some (tupS (w :: ps)), x5, some (.str z)], [x0, some (.lst o (F.map Val.str)), x2, x3, some (tupS (w :: ps)), x5, some (.str z)], rfl, ?_, fun _ => ⟨false, [x0, some (.lst o (F.map Val.str)), x2, x3, some (tupS (w :: ps)), x5, some (.str z)], ?_, rfl, rfl⟩, fun _ => rfl⟩
    · have e := q_ninLS (o := o) (u := false) (v := false) (h2 z hz) h1
      simp [small_line, q_nil, exL, exS, evE, evL, evI, evT, evTAnd, evTOr, evAnd, evOr, evIfs, evArgs, lendIx, lendOut, lendBack, forGo, R.bind_ok, R.bind_exc, R.bind_stuck, q_addI, q_addS, q_addL, q_addT, q_sub, q_mul, q_fdiv, q_mod, q_pow, q_neg, q_ltI, q_ltS, q_lt', q_le, q_gt, q_ge, q_eqI, q_neI, q_eqS, q_neS, q_eqB, q_neB, q_isN, q_notN, q_isi, q_lst, q_tup, q_dnK, q_dnT, q_ixL, q_ixT, q_ixC, q_ixS, r_ixL, r_ixT, r_ixS, q_lenL, q_lenT, q_lenC, q_lenD, q_lenS, q_listL, q_listT, q_listD, q_tupOf, q_max, q_min, q_intB, q_intI, q_all, q_any, q_slL, q_slT, q_slS, q_inS1, q_ninS1, CV.val, Val.truth, Tgt.bind, Tgt.bindL, storable, fz?, Def.outs, Val.noOwn, noOwnL, pureL, ME.pure, IK.items, IK.stays, List.range_succ, List.replicate, MOp.sem, isLst, parts?, i0__law_empty, e]
    · simp [small_line, q_nil, exL, exS, evE, evL, evI, evT, evTAnd, evTOr, evAnd, evOr, evIfs, evArgs, lendIx, lendOut, lendBack, forGo, R.bind_ok, R.bind_exc, R.bind_stuck, q_addI, q_addS, q_addL, q_addT, q_sub, q_mul, q_fdiv, q_mod, q_pow, q_neg, q_ltI, q_ltS, q_lt', q_le, q_gt, q_ge, q_eqI, q_neI, q_eqS, q_neS, q_eqB, q_neB, q_isN, q_notN, q_isi, q_lst, q_tup, q_dnK, q_dnT, q_ixL, q_ixT, q_ixC, q_ixS, r_ixL, r_ixT, r_ixS, q_lenL, q_lenT, q_lenC, q_lenD, q_lenS, q_listL, q_listT, q_listD, q_tupOf, q_max, q_min, q_intB, q_intI, q_all, q_any, q_slL, q_slT, q_slS, q_inS1, q_ninS1, CV.val, Val.truth, Tgt.bind, Tgt.bindL, storable, fz?, Def.outs, Val.noOwn, noOwnL, pureL, ME.pure, IK.items, IK.stays, List.range_succ, List.replicate, MOp.sem, isLst, parts?, e0__law_empty])
  have hs := big_line
  have hlen : (ps.filter fun z => !decide (z ∈ F)).length ≤ sizeLine := by have := List.length_filter_le (fun z => !decide (z ∈ F)) ps; omega
  have ns := noOwn_strs ps
  have nt := noOwn_tupS (w :: ps)
  have e2 : tupS ((w :: ps).drop 1) = .tup (ps.map Val.str) := rfl
  have tt := fun u => tupS_tl (l := w :: ps) (u := u)
  rw [e2] at tt
  simp [small_line, q_nil, exL, exS, evE, evL, evI, evT, evTAnd, evTOr, evAnd, evOr, evIfs, evArgs, lendIx, lendOut, lendBack, forGo, R.bind_ok, R.bind_exc, R.bind_stuck, q_addI, q_addS, q_addL, q_addT, q_sub, q_mul, q_fdiv, q_mod, q_pow, q_neg, q_ltI, q_ltS, q_lt', q_le, q_gt, q_ge, q_eqI, q_neI, q_eqS, q_neS, q_eqB, q_neB, q_isN, q_notN, q_isi, q_lst, q_tup, q_dnK, q_dnT, q_ixL, q_ixT, q_ixC, q_ixS, r_ixL, r_ixT, r_ixS, q_lenL, q_lenT, q_lenC, q_lenD, q_lenS, q_listL, q_listT, q_listD, q_tupOf, q_max, q_min, q_intB, q_intI, q_all, q_any, q_slL, q_slT, q_slS, q_inS1, q_ninS1, CV.val, Val.truth, Tgt.bind, Tgt.bindL, storable, fz?, Def.outs, Val.noOwn, noOwnL, pureL, ME.pure, IK.items, IK.stays, List.range_succ, List.replicate, MOp.sem, isLst, parts?, c0__law_empty, tt, ns, nt, wipeOk, wipeE, q, hlen]
theorem le_c1 {w : Str} {ps F : List Str} {x0 x2 x3 x5 : Option Val} {o : Bool} (hl : ps.length ≤ 1000) (h1 : ∀ z ∈ F, PyData.strOk z = true) (h2 : ∀ z ∈ ps, PyData.strOk z = true) :
    evE T__law_empty c1__law_empty [x0, some (.lst o (F.map Val.str)), x2, x3, some (tupS (w :: ps)), x5, none] = .ok (.lst true ((ps.filter fun z => decide (z ∈ F)).map Val.str), true, [x0, some (.lst o (F.map Val.str)), x2, x3, some (tupS (w :: ps)), x5, none]) := by
  have q := lcGo_as (vs := [6]) (bt := g3__law_empty.bind) (c := evIfs T__law_empty i1__law_empty) (f := evE T__law_empty e1__law_empty) (E := [x0, some (.lst o (F.map Val.str)), x2, x3, some (tupS (w :: ps)), x5, none]) Val.str (fun z => decide (z ∈ F)) Val.str (as := ps) (by
    intro z hz
    refine ⟨[x0, some (.lst o (F.map Val.str)), x2, x3, some (tupS (w :: ps)), x5, some (.str z)], [x0, some (.lst o (F.map Val.str)), x2, x3, some (tupS (w :: ps)), x5, some (.str z)], rfl, ?_, fun _ => ⟨false, [x0, some (.lst o (F.map Val.str)), x2, x3, some (tupS (w :: ps)), x5, some (.str z)], ?_, rfl, rfl⟩, fun _ => rfl⟩
    · have e := q_inLS (o := o) (u := false) (v := false) (h2 z hz) h1
      simp [small_line, q_nil, exL, exS, evE, evL, evI, evT, evTAnd, evTOr, evAnd, evOr, evIfs, evArgs, lendIx, lendOut, lendBack, forGo, R.bind_ok, R.bind_exc, R.bind_stuck, q_addI, q_addS, q_addL, q_addT, q_sub, q_mul, q_fdiv, q_mod, q_pow, q_neg, q_ltI, q_ltS, q_lt', q_le, q_gt, q_ge, q_eqI, q_neI, q_eqS, q_neS, q_eqB, q_neB, q_isN, q_notN, q_isi, q_lst, q_tup, q_dnK, q_dnT, q_ixL, q_ixT, q_ixC, q_ixS, r_ixL, r_ixT, r_ixS, q_lenL, q_lenT, q_lenC, q_lenD, q_lenS, q_listL, q_listT, q_listD, q_tupOf, q_max, q_min, q_intB, q_intI, q_all, q_any, q_slL, q_slT, q_slS, q_inS1, q_ninS1, CV.val, Val.truth, Tgt.bind, Tgt.bindL, storable, fz?, Def.outs, Val.noOwn, noOwnL, pureL, ME.pure, IK.items, IK.stays, List.range_succ, List.replicate, MOp.sem, isLst, parts?, i1__law_empty, e]
    · simp [small_line, q_nil, exL, exS, evE, evL, evI, evT, evTAnd, evTOr, evAnd, evOr, evIfs, evArgs, lendIx, lendOut, lendBack, forGo, R.bind_ok, R.bind_exc, R.bind_stuck, q_addI, q_addS, q_addL, q_addT, q_sub, q_mul, q_fdiv, q_mod, q_pow, q_neg, q_ltI, q_ltS, q_lt', q_le, q_gt, q_ge, q_eqI, q_neI, q_eqS, q_neS, q_eqB, q_neB, q_isN, q_notN, q_isi, q_lst, q_tup, q_dnK, q_dnT, q_ixL, q_ixT, q_ixC, q_ixS, r_ixL, r_ixT, r_ixS, q_lenL, q_lenT, q_lenC, q_lenD, q_lenS, q_listL, q_listT, q_listD, q_tupOf, q_max, q_min, q_intB, q_intI, q_all, q_any, q_slL, q_slT, q_slS, q_inS1, q_ninS1, CV.val, Val.truth, Tgt.bind, Tgt.bindL, storable, fz?, Def.outs, Val.noOwn, noOwnL, pureL, ME.pure, IK.items, IK.stays, List.range_succ, List.replicate, MOp.sem, isLst, parts?, e1__law_empty])
  have hs := big_line
  have hlen : (ps.filter fun z => decide (z ∈ F)).length ≤ sizeLine := by have := List.length_filter_le (fun z => decide (z ∈ F)) ps; omega
  have ns := noOwn_strs ps
  have nt := noOwn_tupS (w :: ps)
  have e2 : tupS ((w :: ps).drop 1) = .tup (ps.map Val.str) := rfl
  have tt := fun u => tupS_tl (l := w :: ps) (u := u)
  rw [e2] at tt
  simp [small_line, q_nil, exL, exS, evE, evL, evI, evT, evTAnd, evTOr, evAnd, evOr, evIfs, evArgs, lendIx, lendOut, lendBack, forGo, R.bind_ok, R.bind_exc, R.bind_stuck, q_addI, q_addS, q_addL, q_addT, q_sub, q_mul, q_fdiv, q_mod, q_pow, q_neg, q_ltI, q_ltS, q_lt', q_le, q_gt, q_ge, q_eqI, q_neI, q_eqS, q_neS, q_eqB, q_neB, q_isN, q_notN, q_isi, q_lst, q_tup, q_dnK, q_dnT, q_ixL, q_ixT, q_ixC, q_ixS, r_ixL, r_ixT, r_ixS, q_lenL, q_lenT, q_lenC, q_lenD, q_lenS, q_listL, q_listT, q_listD, q_tupOf, q_max, q_min, q_intB, q_intI, q_all, q_any, q_slL, q_slT, q_slS, q_inS1, q_ninS1, CV.val, Val.truth, Tgt.bind, Tgt.bindL, storable, fz?, Def.outs, Val.noOwn, noOwnL, pureL, ME.pure, IK.items, IK.stays, List.range_succ, List.replicate, MOp.sem, isLst, parts?, c1__law_empty, tt, ns, nt, wipeOk, wipeE, q, hlen]
theorem mbe_row {F : List Str} {nm : Str} {ps : List Str} : mbe F (nm, kRow, ps) = decide ((ps.filter fun z => !decide (z ∈ F)) = []) := by
  unfold mbe
  rw [if_pos rfl, Bool.eq_iff_iff, List.all_eq_true, decide_eq_true_eq, List.filter_eq_nil_iff]
  exact ⟨fun h z hz => by simpa using h z hz, fun h z hz => by simpa using h z hz⟩
theorem mbe_first {F : List Str} {nm : Str} {ps : List Str} : mbe F (nm, kFirst, ps) = !decide ((ps.filter fun z => decide (z ∈ F)) = []) := by
  have c3 : ¬ kFirst = kRow := by decide +kernel
  unfold mbe
  rw [if_neg c3, if_pos rfl, Bool.eq_iff_iff]
  simp
theorem mbe_else {F : List Str} {r : R3} (h : IsForm r.2.1 r.2.2) (c1 : ¬ r.2.1 = kRow) (c2 : ¬ r.2.1 = kFirst) : mbe F r = decide (r.2.1 = kNone ∨ r.2.1 = kAgain ∨ r.2.1 = kAhead ∨ r.2.1 = kNot) := by
  unfold mbe
  rw [if_neg c1, if_neg c2]
  have key : ∀ w ∈ words8, ¬ w = kRow → ¬ w = kFirst → (!decide (w = kAny ∨ w = kSigns)) = decide (w = kNone ∨ w = kAgain ∨ w = kAhead ∨ w = kNot) := by decide +kernel
  exact key _ h.word c1 c2
theorem le_turn {rs : List R3} (hb : ∀ r ∈ rs, IsRule r) {r : R3} (hr : r ∈ rs) {F : List Str} (hF : FOk rs F) (hl : rs.length ≤ 1000) {x2 x3 x4 x5 : Option Val} :
    ∃ env1 env2, g1__law_empty.bind (ruleV r) [some (.lst false (rs.map ruleV)), some (.lst true (F.map Val.str)), x2, x3, x4, x5, none] = some env1 ∧ exL T__law_empty b6__law_empty env1 = .ok (none, env2) ∧ ∃ y3 y4 y5, env2 = [some (.lst false (rs.map ruleV)), some (.lst true ((stepE F r).map Val.str)), x2, y3, y4, y5, none] := by
  have hR := hb r hr
  have hs := big_line
  have hlen := hF.len
  have h1 := hF.oks hb
  obtain ⟨nm, w, ps⟩ := r
  have h2 := hR.2.okp
  have hpl := hR.2.len
  have okw := hR.2.okw
  have okn := hR.1.ok
  simp only at h2 okw hpl okn
  have o4 : PyData.strOk kRow = true := by decide +kernel
  have o5 : PyData.strOk kFirst = true := by decide +kernel
  have i4 := fun o u v => in4 (o := o) (u := u) (v := v) okw
  have q0 := fun x5 => le_c0 (w := w) (o := true) (x0 := some (.lst false (rs.map ruleV))) (x2 := x2) (x3 := some (.str nm)) (x5 := x5) (by omega) h1 h2
  have q1 := fun x5 => le_c1 (w := w) (o := true) (x0 := some (.lst false (rs.map ruleV))) (x2 := x2) (x3 := some (.str nm)) (x5 := x5) (by omega) h1 h2
  have f0 : ∀ z ∈ ps.filter fun z => !decide (z ∈ F), PyData.strOk z = true := fun z hz => h2 z (List.mem_filter.mp hz).1
  have f1 : ∀ z ∈ ps.filter fun z => decide (z ∈ F), PyData.strOk z = true := fun z hz => h2 z (List.mem_filter.mp hz).1
  have n0 := fun o o' u v => eqL_nil (o := o) (o' := o') (u := u) (v := v) f0
  have n1 := fun o o' u v => neL_nil (o := o) (o' := o') (u := u) (v := v) f1
  have ni := fun o u v => q_ninLS (o := o) (u := u) (v := v) okn h1
  have hl2 : F.length < sizeLine := by omega
  refine ⟨_, _, rfl, ?_, some (.str nm), some (tupS (w :: ps)), some (.bl (mbe F (nm, w, ps))), rfl⟩
  have hst : stepE F (nm, w, ps) = if mbe F (nm, w, ps) then (if nm ∈ F then F else F ++ [nm]) else F := rfl
  by_cases c1 : w = kRow
  · subst c1
    have c3 : ¬ kRow = kFirst := by decide +kernel
    rw [hst, mbe_row]
    by_cases c5 : (ps.filter fun z => !decide (z ∈ F)) = []
    · by_cases c6 : nm ∈ F
      · simp [small_line, q_nil, exL, exS, evE, evL, evI, evT, evTAnd, evTOr, evAnd, evOr, evIfs, evArgs, lendIx, lendOut, lendBack, forGo, R.bind_ok, R.bind_exc, R.bind_stuck, q_addI, q_addS, q_addL, q_addT, q_sub, q_mul, q_fdiv, q_mod, q_pow, q_neg, q_ltI, q_ltS, q_lt', q_le, q_gt, q_ge, q_eqI, q_neI, q_eqS, q_neS, q_eqB, q_neB, q_isN, q_notN, q_isi, q_lst, q_tup, q_dnK, q_dnT, q_ixL, q_ixT, q_ixC, q_ixS, r_ixL, r_ixT, r_ixS, q_lenL, q_lenT, q_lenC, q_lenD, q_lenS, q_listL, q_listT, q_listD, q_tupOf, q_max, q_min, q_intB, q_intI, q_all, q_any, q_slL, q_slT, q_slS, q_inS1, q_ninS1, CV.val, Val.truth, Tgt.bind, Tgt.bindL, storable, fz?, Def.outs, Val.noOwn, noOwnL, pureL, ME.pure, IK.items, IK.stays, List.range_succ, List.replicate, MOp.sem, isLst, parts?, b6__law_empty, b5__law_empty, b4__law_empty, b3__law_empty, b2__law_empty, b1__law_empty, b0__law_empty, s1__law_empty, s3__law_empty, s5__law_empty, s7__law_empty, s6__law_empty, s2__law_empty, s4__law_empty, tupS_ix0, e_none, e_again, e_ahead, e_not, e_row, e_first, okw, o4, o5, i4, q0, q1, n0, n1, eqL_nn, neL_nn, ni, c3, c5, c6, hl2, -List.filter_eq_nil_iff]
      · simp [small_line, q_nil, exL, exS, evE, evL, evI, evT, evTAnd, evTOr, evAnd, evOr, evIfs, evArgs, lendIx, lendOut, lendBack, forGo, R.bind_ok, R.bind_exc, R.bind_stuck, q_addI, q_addS, q_addL, q_addT, q_sub, q_mul, q_fdiv, q_mod, q_pow, q_neg, q_ltI, q_ltS, q_lt', q_le, q_gt, q_ge, q_eqI, q_neI, q_eqS, q_neS, q_eqB, q_neB, q_isN, q_notN, q_isi, q_lst, q_tup, q_dnK, q_dnT, q_ixL, q_ixT, q_ixC, q_ixS, r_ixL, r_ixT, r_ixS, q_lenL, q_lenT, q_lenC, q_lenD, q_lenS, q_listL, q_listT, q_listD, q_tupOf, q_max, q_min, q_intB, q_intI, q_all, q_any, q_slL, q_slT, q_slS, q_inS1, q_ninS1, CV.val, Val.truth, Tgt.bind, Tgt.bindL, storable, fz?, Def.outs, Val.noOwn, noOwnL, pureL, ME.pure, IK.items, IK.stays, List.range_succ, List.replicate, MOp.sem, isLst, parts?, b6__law_empty, b5__law_empty, b4__law_empty, b3__law_empty, b2__law_empty, b1__law_empty, b0__law_empty, s1__law_empty, s3__law_empty, s5__law_empty, s7__law_empty, s6__law_empty, s2__law_empty, s4__law_empty, tupS_ix0, e_none, e_again, e_ahead, e_not, e_row, e_first, okw, o4, o5, i4, q0, q1, n0, n1, eqL_nn, neL_nn, ni, c3, c5, c6, hl2, -List.filter_eq_nil_iff]
    · simp [small_line, q_nil, exL, exS, evE, evL, evI, evT, evTAnd, evTOr, evAnd, evOr, evIfs, evArgs, lendIx, lendOut, lendBack, forGo, R.bind_ok, R.bind_exc, R.bind_stuck, q_addI, q_addS, q_addL, q_addT, q_sub, q_mul, q_fdiv, q_mod, q_pow, q_neg, q_ltI, q_ltS, q_lt', q_le, q_gt, q_ge, q_eqI, q_neI, q_eqS, q_neS, q_eqB, q_neB, q_isN, q_notN, q_isi, q_lst, q_tup, q_dnK, q_dnT, q_ixL, q_ixT, q_ixC, q_ixS, r_ixL, r_ixT, r_ixS, q_lenL, q_lenT, q_lenC, q_lenD, q_lenS, q_listL, q_listT, q_listD, q_tupOf, q_max, q_min, q_intB, q_intI, q_all, q_any, q_slL, q_slT, q_slS, q_inS1, q_ninS1, CV.val, Val.truth, Tgt.bind, Tgt.bindL, storable, fz?, Def.outs, Val.noOwn, noOwnL, pureL, ME.pure, IK.items, IK.stays, List.range_succ, List.replicate, MOp.sem, isLst, parts?, b6__law_empty, b5__law_empty, b4__law_empty, b3__law_empty, b2__law_empty, b1__law_empty, b0__law_empty, s1__law_empty, s3__law_empty, s5__law_empty, s7__law_empty, s6__law_empty, s2__law_empty, s4__law_empty, tupS_ix0, e_none, e_again, e_ahead, e_not, e_row, e_first, okw, o4, o5, i4, q0, q1, n0, n1, eqL_nn, neL_nn, ni, c3, c5, hl2, -List.filter_eq_nil_iff]
  by_cases c2 : w = kFirst
  · subst c2
    rw [hst, mbe_first]
    by_cases c5 : (ps.filter fun z => decide (z ∈ F)) = []
    · simp [small_line, q_nil, exL, exS, evE, evL, evI, evT, evTAnd, evTOr, evAnd, evOr, evIfs, evArgs, lendIx, lendOut, lendBack, forGo, R.bind_ok, R.bind_exc, R.bind_stuck, q_addI, q_addS, q_addL, q_addT, q_sub, q_mul, q_fdiv, q_mod, q_pow, q_neg, q_ltI, q_ltS, q_lt', q_le, q_gt, q_ge, q_eqI, q_neI, q_eqS, q_neS, q_eqB, q_neB, q_isN, q_notN, q_isi, q_lst, q_tup, q_dnK, q_dnT, q_ixL, q_ixT, q_ixC, q_ixS, r_ixL, r_ixT, r_ixS, q_lenL, q_lenT, q_lenC, q_lenD, q_lenS, q_listL, q_listT, q_listD, q_tupOf, q_max, q_min, q_intB, q_intI, q_all, q_any, q_slL, q_slT, q_slS, q_inS1, q_ninS1, CV.val, Val.truth, Tgt.bind, Tgt.bindL, storable, fz?, Def.outs, Val.noOwn, noOwnL, pureL, ME.pure, IK.items, IK.stays, List.range_succ, List.replicate, MOp.sem, isLst, parts?, b6__law_empty, b5__law_empty, b4__law_empty, b3__law_empty, b2__law_empty, b1__law_empty, b0__law_empty, s1__law_empty, s3__law_empty, s5__law_empty, s7__law_empty, s6__law_empty, s2__law_empty, s4__law_empty, tupS_ix0, e_none, e_again, e_ahead, e_not, e_row, e_first, okw, o4, o5, i4, q0, q1, n0, n1, eqL_nn, neL_nn, ni, c1, c5, hl2, -List.filter_eq_nil_iff]
    · by_cases c6 : nm ∈ F
      · simp [small_line, q_nil, exL, exS, evE, evL, evI, evT, evTAnd, evTOr, evAnd, evOr, evIfs, evArgs, lendIx, lendOut, lendBack, forGo, R.bind_ok, R.bind_exc, R.bind_stuck, q_addI, q_addS, q_addL, q_addT, q_sub, q_mul, q_fdiv, q_mod, q_pow, q_neg, q_ltI, q_ltS, q_lt', q_le, q_gt, q_ge, q_eqI, q_neI, q_eqS, q_neS, q_eqB, q_neB, q_isN, q_notN, q_isi, q_lst, q_tup, q_dnK, q_dnT, q_ixL, q_ixT, q_ixC, q_ixS, r_ixL, r_ixT, r_ixS, q_lenL, q_lenT, q_lenC, q_lenD, q_lenS, q_listL, q_listT, q_listD, q_tupOf, q_max, q_min, q_intB, q_intI, q_all, q_any, q_slL, q_slT, q_slS, q_inS1, q_ninS1, CV.val, Val.truth, Tgt.bind, Tgt.bindL, storable, fz?, Def.outs, Val.noOwn, noOwnL, pureL, ME.pure, IK.items, IK.stays, List.range_succ, List.replicate, MOp.sem, isLst, parts?, b6__law_empty, b5__law_empty, b4__law_empty, b3__law_empty, b2__law_empty, b1__law_empty, b0__law_empty, s1__law_empty, s3__law_empty, s5__law_empty, s7__law_empty, s6__law_empty, s2__law_empty, s4__law_empty, tupS_ix0, e_none, e_again, e_ahead, e_not, e_row, e_first, okw, o4, o5, i4, q0, q1, n0, n1, eqL_nn, neL_nn, ni, c1, c5, c6, hl2, -List.filter_eq_nil_iff]
      · simp [small_line, q_nil, exL, exS, evE, evL, evI, evT, evTAnd, evTOr, evAnd, evOr, evIfs, evArgs, lendIx, lendOut, lendBack, forGo, R.bind_ok, R.bind_exc, R.bind_stuck, q_addI, q_addS, q_addL, q_addT, q_sub, q_mul, q_fdiv, q_mod, q_pow, q_neg, q_ltI, q_ltS, q_lt', q_le, q_gt, q_ge, q_eqI, q_neI, q_eqS, q_neS, q_eqB, q_neB, q_isN, q_notN, q_isi, q_lst, q_tup, q_dnK, q_dnT, q_ixL, q_ixT, q_ixC, q_ixS, r_ixL, r_ixT, r_ixS, q_lenL, q_lenT, q_lenC, q_lenD, q_lenS, q_listL, q_listT, q_listD, q_tupOf, q_max, q_min, q_intB, q_intI, q_all, q_any, q_slL, q_slT, q_slS, q_inS1, q_ninS1, CV.val, Val.truth, Tgt.bind, Tgt.bindL, storable, fz?, Def.outs, Val.noOwn, noOwnL, pureL, ME.pure, IK.items, IK.stays, List.range_succ, List.replicate, MOp.sem, isLst, parts?, b6__law_empty, b5__law_empty, b4__law_empty, b3__law_empty, b2__law_empty, b1__law_empty, b0__law_empty, s1__law_empty, s3__law_empty, s5__law_empty, s7__law_empty, s6__law_empty, s2__law_empty, s4__law_empty, tupS_ix0, e_none, e_again, e_ahead, e_not, e_row, e_first, okw, o4, o5, i4, q0, q1, n0, n1, eqL_nn, neL_nn, ni, c1, c5, c6, hl2, -List.filter_eq_nil_iff]
  · rw [hst, mbe_else hR.2 c1 c2]
    by_cases c5 : w = kNone ∨ w = kAgain ∨ w = kAhead ∨ w = kNot
    · by_cases c6 : nm ∈ F
      · simp [small_line, q_nil, exL, exS, evE, evL, evI, evT, evTAnd, evTOr, evAnd, evOr, evIfs, evArgs, lendIx, lendOut, lendBack, forGo, R.bind_ok, R.bind_exc, R.bind_stuck, q_addI, q_addS, q_addL, q_addT, q_sub, q_mul, q_fdiv, q_mod, q_pow, q_neg, q_ltI, q_ltS, q_lt', q_le, q_gt, q_ge, q_eqI, q_neI, q_eqS, q_neS, q_eqB, q_neB, q_isN, q_notN, q_isi, q_lst, q_tup, q_dnK, q_dnT, q_ixL, q_ixT, q_ixC, q_ixS, r_ixL, r_ixT, r_ixS, q_lenL, q_lenT, q_lenC, q_lenD, q_lenS, q_listL, q_listT, q_listD, q_tupOf, q_max, q_min, q_intB, q_intI, q_all, q_any, q_slL, q_slT, q_slS, q_inS1, q_ninS1, CV.val, Val.truth, Tgt.bind, Tgt.bindL, storable, fz?, Def.outs, Val.noOwn, noOwnL, pureL, ME.pure, IK.items, IK.stays, List.range_succ, List.replicate, MOp.sem, isLst, parts?, b6__law_empty, b5__law_empty, b4__law_empty, b3__law_empty, b2__law_empty, b1__law_empty, b0__law_empty, s1__law_empty, s3__law_empty, s5__law_empty, s7__law_empty, s6__law_empty, s2__law_empty, s4__law_empty, tupS_ix0, e_none, e_again, e_ahead, e_not, e_row, e_first, okw, o4, o5, i4, ni, c1, c2, c5, c6, hl2, -List.filter_eq_nil_iff]
      · simp [small_line, q_nil, exL, exS, evE, evL, evI, evT, evTAnd, evTOr, evAnd, evOr, evIfs, evArgs, lendIx, lendOut, lendBack, forGo, R.bind_ok, R.bind_exc, R.bind_stuck, q_addI, q_addS, q_addL, q_addT, q_sub, q_mul, q_fdiv, q_mod, q_pow, q_neg, q_ltI, q_ltS, q_lt', q_le, q_gt, q_ge, q_eqI, q_neI, q_eqS, q_neS, q_eqB, q_neB, q_isN, q_notN, q_isi, q_lst, q_tup, q_dnK, q_dnT, q_ixL, q_ixT, q_ixC, q_ixS, r_ixL, r_ixT, r_ixS, q_lenL, q_lenT, q_lenC, q_lenD, q_lenS, q_listL, q_listT, q_listD, q_tupOf, q_max, q_min, q_intB, q_intI, q_all, q_any, q_slL, q_slT, q_slS, q_inS1, q_ninS1, CV.val, Val.truth, Tgt.bind, Tgt.bindL, storable, fz?, Def.outs, Val.noOwn, noOwnL, pureL, ME.pure, IK.items, IK.stays, List.range_succ, List.replicate, MOp.sem, isLst, parts?, b6__law_empty, b5__law_empty, b4__law_empty, b3__law_empty, b2__law_empty, b1__law_empty, b0__law_empty, s1__law_empty, s3__law_empty, s5__law_empty, s7__law_empty, s6__law_empty, s2__law_empty, s4__law_empty, tupS_ix0, e_none, e_again, e_ahead, e_not, e_row, e_first, okw, o4, o5, i4, ni, c1, c2, c5, c6, hl2, -List.filter_eq_nil_iff]
    · simp [small_line, q_nil, exL, exS, evE, evL, evI, evT, evTAnd, evTOr, evAnd, evOr, evIfs, evArgs, lendIx, lendOut, lendBack, forGo, R.bind_ok, R.bind_exc, R.bind_stuck, q_addI, q_addS, q_addL, q_addT, q_sub, q_mul, q_fdiv, q_mod, q_pow, q_neg, q_ltI, q_ltS, q_lt', q_le, q_gt, q_ge, q_eqI, q_neI, q_eqS, q_neS, q_eqB, q_neB, q_isN, q_notN, q_isi, q_lst, q_tup, q_dnK, q_dnT, q_ixL, q_ixT, q_ixC, q_ixS, r_ixL, r_ixT, r_ixS, q_lenL, q_lenT, q_lenC, q_lenD, q_lenS, q_listL, q_listT, q_listD, q_tupOf, q_max, q_min, q_intB, q_intI, q_all, q_any, q_slL, q_slT, q_slS, q_inS1, q_ninS1, CV.val, Val.truth, Tgt.bind, Tgt.bindL, storable, fz?, Def.outs, Val.noOwn, noOwnL, pureL, ME.pure, IK.items, IK.stays, List.range_succ, List.replicate, MOp.sem, isLst, parts?, b6__law_empty, b5__law_empty, b4__law_empty, b3__law_empty, b2__law_empty, b1__law_empty, b0__law_empty, s1__law_empty, s3__law_empty, s5__law_empty, s7__law_empty, s6__law_empty, s2__law_empty, s4__law_empty, tupS_ix0, e_none, e_again, e_ahead, e_not, e_row, e_first, okw, o4, o5, i4, ni, c1, c2, c5, hl2, -List.filter_eq_nil_iff]
theorem le_pass {rs : List R3} (hb : ∀ r ∈ rs, IsRule r) {F : List Str} (hF : FOk rs F) (hl : rs.length ≤ 1000) {x2 x3 x4 x5 : Option Val} :
    ∃ y3 y4 y5, exS T__law_empty s8__law_empty [some (.lst false (rs.map ruleV)), some (.lst true (F.map Val.str)), x2, x3, x4, x5, none] = .ok (none, [some (.lst false (rs.map ruleV)), some (.lst true ((passE rs F).map Val.str)), x2, y3, y4, y5, none]) := by
  obtain ⟨envF, q1, ⟨y3, y4, y5, rfl⟩, _⟩ := forGo_fold (bt := g1__law_empty.bind) (b := exL T__law_empty b6__law_empty) (fun G env => (∃ y3 y4 y5, env = [some (.lst false (rs.map ruleV)), some (.lst true (G.map Val.str)), x2, y3, y4, y5, none]) ∧ FOk rs G) stepE ruleV (as := rs) (s := F)
    (env := [some (.lst false (rs.map ruleV)), some (.lst true (F.map Val.str)), x2, x3, x4, x5, none]) (by
      rintro r hr G env ⟨⟨y3, y4, y5, rfl⟩, hG⟩
      obtain ⟨env1, env2, e1, e2, e3⟩ := le_turn hb hr hG hl (x2 := x2) (x3 := y3) (x4 := y4) (x5 := y5)
      exact ⟨env1, env2, e1, e2, e3, stepE_ok hr hG⟩) ⟨⟨_, _, _, rfl⟩, hF⟩
  refine ⟨y3, y4, y5, ?_⟩
  have nr := noOwn_rules rs
  simp [small_line, q_nil, exL, exS, evE, evL, evI, evT, evTAnd, evTOr, evAnd, evOr, evIfs, evArgs, lendIx, lendOut, lendBack, forGo, R.bind_ok, R.bind_exc, R.bind_stuck, q_addI, q_addS, q_addL, q_addT, q_sub, q_mul, q_fdiv, q_mod, q_pow, q_neg, q_ltI, q_ltS, q_lt', q_le, q_gt, q_ge, q_eqI, q_neI, q_eqS, q_neS, q_eqB, q_neB, q_isN, q_notN, q_isi, q_lst, q_tup, q_dnK, q_dnT, q_ixL, q_ixT, q_ixC, q_ixS, r_ixL, r_ixT, r_ixS, q_lenL, q_lenT, q_lenC, q_lenD, q_lenS, q_listL, q_listT, q_listD, q_tupOf, q_max, q_min, q_intB, q_intI, q_all, q_any, q_slL, q_slT, q_slS, q_inS1, q_ninS1, CV.val, Val.truth, Tgt.bind, Tgt.bindL, storable, fz?, Def.outs, Val.noOwn, noOwnL, pureL, ME.pure, IK.items, IK.stays, List.range_succ, List.replicate, MOp.sem, isLst, parts?, s8__law_empty, nr, -forGo]
  exact q1
theorem lawempty_ok {rs : List R3} (hb : ∀ r ∈ rs, IsRule r) (hl : rs.length ≤ 1000) : d__law_empty.run T__law_empty [.lst false (rs.map ruleV)] = .ok (.lst true ((sortS (fixE rs)).map Val.str)) [none] := by
  obtain ⟨envF, q1, y2, y3, y4, y5, rfl⟩ := forGo_ix (bt := g0__law_empty.bind) (b := exL T__law_empty b7__law_empty) (fun i env => ∃ y2 y3 y4 y5, env = [some (.lst false (rs.map ruleV)), some (.lst true ((itE rs i).map Val.str)), y2, y3, y4, y5, none]) (items := rangeV 0 rs.length) (i := 0)
    (env := [some (.lst false (rs.map ruleV)), some (.lst true ((itE rs 0).map Val.str)), none, none, none, none, none]) (by
      rintro j x env hx ⟨y2, y3, y4, y5, rfl⟩
      obtain ⟨z3, z4, z5, e⟩ := le_pass hb (itE_ok rs (0 + j)) hl (x2 := some x) (x3 := y3) (x4 := y4) (x5 := y5)
      refine ⟨_, _, rfl, ?_, some x, z3, z4, z5, rfl⟩
      simp [small_line, q_nil, exL, exS, evE, evL, evI, evT, evTAnd, evTOr, evAnd, evOr, evIfs, evArgs, lendIx, lendOut, lendBack, forGo, R.bind_ok, R.bind_exc, R.bind_stuck, q_addI, q_addS, q_addL, q_addT, q_sub, q_mul, q_fdiv, q_mod, q_pow, q_neg, q_ltI, q_ltS, q_lt', q_le, q_gt, q_ge, q_eqI, q_neI, q_eqS, q_neS, q_eqB, q_neB, q_isN, q_notN, q_isi, q_lst, q_tup, q_dnK, q_dnT, q_ixL, q_ixT, q_ixC, q_ixS, r_ixL, r_ixT, r_ixS, q_lenL, q_lenT, q_lenC, q_lenD, q_lenS, q_listL, q_listT, q_listD, q_tupOf, q_max, q_min, q_intB, q_intI, q_all, q_any, q_slL, q_slT, q_slS, q_inS1, q_ninS1, CV.val, Val.truth, Tgt.bind, Tgt.bindL, storable, fz?, Def.outs, Val.noOwn, noOwnL, pureL, ME.pure, IK.items, IK.stays, List.range_succ, List.replicate, MOp.sem, isLst, parts?, b7__law_empty]
      simp only [Nat.zero_add] at e ⊢
      rw [e]; rfl) ⟨_, _, _, _, rfl⟩
  rw [rangeV_len, Nat.zero_add] at q1
  have hs : small62 (rs.length : Int) = true := small62_of
  have q2 : forGo g0__law_empty.bind (exL T__law_empty b7__law_empty) (rangeV 0 ((rs.length : Int)).toNat) [some (.lst false (rs.map ruleV)), some (.lst true []), none, none, none, none, none] = .ok (none, [some (.lst false (rs.map ruleV)), some (.lst true ((fixE rs).map Val.str)), y2, y3, y4, y5, none]) := q1
  have e0 : exS T__law_empty s9__law_empty [some (.lst false (rs.map ruleV)), some (.lst true []), none, none, none, none, none] = .ok (none, [some (.lst false (rs.map ruleV)), some (.lst true ((fixE rs).map Val.str)), y2, y3, y4, y5, none]) := by
    refine for_range1 (j := (rs.length : Int)) (u := true) ?_ hs q2
    simp [small_line, q_nil, exL, exS, evE, evL, evI, evT, evTAnd, evTOr, evAnd, evOr, evIfs, evArgs, lendIx, lendOut, lendBack, forGo, R.bind_ok, R.bind_exc, R.bind_stuck, q_addI, q_addS, q_addL, q_addT, q_sub, q_mul, q_fdiv, q_mod, q_pow, q_neg, q_ltI, q_ltS, q_lt', q_le, q_gt, q_ge, q_eqI, q_neI, q_eqS, q_neS, q_eqB, q_neB, q_isN, q_notN, q_isi, q_lst, q_tup, q_dnK, q_dnT, q_ixL, q_ixT, q_ixC, q_ixS, r_ixL, r_ixT, r_ixS, q_lenL, q_lenT, q_lenC, q_lenD, q_lenS, q_listL, q_listT, q_listD, q_tupOf, q_max, q_min, q_intB, q_intI, q_all, q_any, q_slL, q_slT, q_slS, q_inS1, q_ninS1, CV.val, Val.truth, Tgt.bind, Tgt.bindL, storable, fz?, Def.outs, Val.noOwn, noOwnL, pureL, ME.pure, IK.items, IK.stays, List.range_succ, List.replicate, MOp.sem, isLst, parts?, ]
  have hsr := p_sortL (zs := fixE rs) (o := true) (u := false) ((fixE_ok rs).oks hb)
  rw [Def.run]
  simp [small_line, q_nil, exL, exS, evE, evL, evI, evT, evTAnd, evTOr, evAnd, evOr, evIfs, evArgs, lendIx, lendOut, lendBack, forGo, R.bind_ok, R.bind_exc, R.bind_stuck, q_addI, q_addS, q_addL, q_addT, q_sub, q_mul, q_fdiv, q_mod, q_pow, q_neg, q_ltI, q_ltS, q_lt', q_le, q_gt, q_ge, q_eqI, q_neI, q_eqS, q_neS, q_eqB, q_neB, q_isN, q_notN, q_isi, q_lst, q_tup, q_dnK, q_dnT, q_ixL, q_ixT, q_ixC, q_ixS, r_ixL, r_ixT, r_ixS, q_lenL, q_lenT, q_lenC, q_lenD, q_lenS, q_listL, q_listT, q_listD, q_tupOf, q_max, q_min, q_intB, q_intI, q_all, q_any, q_slL, q_slT, q_slS, q_inS1, q_ninS1, CV.val, Val.truth, Tgt.bind, Tgt.bindL, storable, fz?, Def.outs, Val.noOwn, noOwnL, pureL, ME.pure, IK.items, IK.stays, List.range_succ, List.replicate, MOp.sem, isLst, parts?, d__law_empty, b10__law_empty, b9__law_empty, b8__law_empty, s0__law_empty, s10__law_empty, e0, hsr, p_rcSD, -forGo]
end Law

set_option Elab.async false
set_option maxRecDepth 100000
set_option maxHeartbeats 0
set_option linter.all false
namespace Law
open PySem L2 Mn
theorem rangeV_at {lo : Int} {n j : Nat} {x : Val} (h : (rangeV lo n)[j]? = some x) : j < n ∧ x = .int (lo + j) := by
  by_cases c : j < n
  · refine ⟨c, ?_⟩
    unfold rangeV at h
    rw [List.getElem?_map, List.getElem?_range c] at h
    exact (Option.some.inj h).symm
  · rw [List.getElem?_eq_none (by rw [rangeV_len]; omega)] at h
    cases h
theorem pick2 {a b r : Int} (h0 : 0 ≤ r) (h1 : r < 2) : ∃ m : Int, (m = a ∨ m = b) ∧ ∀ o u v, ixO.sem [(.lst o [.int a, .int b], u), (.int r, v)] = some (.int m, false) := by
  by_cases h : r = 1
  · subst h; exact ⟨b, .inr rfl, fun _ _ _ => rfl⟩
  · obtain rfl : r = 0 := by omega
    exact ⟨a, .inl rfl, fun _ _ _ => rfl⟩
theorem take_snoc {α : Type} {l : List α} {i : Nat} (h : i < l.length) : l.take (i + 1) = l.take i ++ [l[i]] := by
  rw [List.take_succ, List.getElem?_eq_getElem h]; rfl
theorem book_turn {w : Val} {n : Nat} {zs : List Str} {lt ms mn : Int} {i : Nat} {rs : List R3} (hb : Bag w n) (hn : n ≤ 600000) (hl0 : 0 ≤ lt) (hl1 : lt < 2) (hi : i < zs.length) (hz : zs.length ≤ 40) (hN : ∀ z ∈ zs, IsName z) (hrs : rs.length ≤ 100) {x6 : Option Val} :
    ∃ (wd : Str) (ps : List Str) (w' : Val), IsForm wd ps ∧ (wd ≠ kSigns → ∀ p ∈ ps, p ∈ zs) ∧ Bag w' (n + 200) ∧
      exL T__law_book b0__law_book [some w, some (.int lt), some (.int ms), some (.int mn), some (.lst false (zs.map Val.str)), some (.lst true (rs.map ruleV)), some (.int i)] = .ok (none, [some w', some (.int lt), some (.int ms), some (.int mn), some (.lst false (zs.map Val.str)), some (.lst true ((rs ++ [(zs[i], wd, ps)]).map ruleV)), some (.int i)]) := by
  have hs := big_line
  have hs2 : rs.length < sizeLine := by omega
  have ns := noOwn_strs zs
  have lt1 : (i : Int) < (zs.length : Int) := by omega
  have g1 : ((i : Int) + 1).natAbs.log2 + lt.natAbs.log2 < 1000000 := by
    have h1 : ((i : Int) + 1).natAbs.log2 < 20 := log2_lt (k := 10) (by omega) (by decide)
    have h2 : lt.natAbs.log2 < 20 := log2_lt (k := 10) (by omega) (by decide)
    omega
  have hp : 0 ≤ ((i : Int) + 1) * lt := Int.mul_nonneg (by omega) hl0
  have hsl : cutL (zs.map Val.str) (some (((i : Int) + 1) * lt)) none = (zs.drop (((i : Int) + 1) * lt).toNat).map Val.str := by
    rw [cutL_drop hp, ← List.map_drop]
  have hsub : ∀ z ∈ zs.drop (((i : Int) + 1) * lt).toNat, z ∈ zs := fun z hz => List.mem_of_mem_drop hz
  have hlen : (zs.drop (((i : Int) + 1) * lt).toNat).length ≤ 1000 := by rw [List.length_drop]; omega
  generalize zs.drop (((i : Int) + 1) * lt).toNat = ns2 at hsl hsub hlen
  by_cases c : ns2 = []
  · subst c
    obtain ⟨wd, ps, w', h1, h2, h3, e1⟩ := form_ok (names := zs) (o := false) hb (by omega) (by rintro rfl; simp at hi) (by omega) hN
    refine ⟨wd, ps, w', h1, h2, h3, ?_⟩
    have nt := noOwn_tupS (wd :: ps)
    simp [small_line, q_nil, exL, exS, evE, evL, evI, evT, evTAnd, evTOr, evAnd, evOr, evIfs, evArgs, lendIx, lendOut, lendBack, forGo, R.bind_ok, R.bind_exc, R.bind_stuck, q_addI, q_addS, q_addL, q_addT, q_sub, q_mul, q_fdiv, q_mod, q_pow, q_neg, q_ltI, q_ltS, q_lt', q_le, q_gt, q_ge, q_eqI, q_neI, q_eqS, q_neS, q_eqB, q_neB, q_isN, q_notN, q_isi, q_lst, q_tup, q_dnK, q_dnT, q_ixL, q_ixT, q_ixC, q_ixS, r_ixL, r_ixT, r_ixS, q_lenL, q_lenT, q_lenC, q_lenD, q_lenS, q_listL, q_listT, q_listD, q_tupOf, q_max, q_min, q_intB, q_intI, q_all, q_any, q_slL, q_slT, q_slS, q_inS1, q_ninS1, CV.val, Val.truth, Tgt.bind, Tgt.bindL, storable, fz?, Def.outs, Val.noOwn, noOwnL, pureL, ME.pure, IK.items, IK.stays, List.range_succ, List.replicate, MOp.sem, isLst, parts?, b0__law_book, s6__law_book, tf0__law_book, tf1__law_book, tf2__law_book, e1, hsl, ns, nt, lt1, g1, hs2, ruleV]
  · obtain ⟨wd, ps, w', h1, h2, h3, e1⟩ := form_ok (names := ns2) (o := true) hb (by omega) c hlen (fun z hz => hN z (hsub z hz))
    refine ⟨wd, ps, w', h1, fun h p hp => hsub p (h2 h p hp), h3, ?_⟩
    have nt := noOwn_tupS (wd :: ps)
    have ce : ns2.isEmpty = false := by cases ns2 with | nil => exact absurd rfl c | cons => rfl
    simp [small_line, q_nil, exL, exS, evE, evL, evI, evT, evTAnd, evTOr, evAnd, evOr, evIfs, evArgs, lendIx, lendOut, lendBack, forGo, R.bind_ok, R.bind_exc, R.bind_stuck, q_addI, q_addS, q_addL, q_addT, q_sub, q_mul, q_fdiv, q_mod, q_pow, q_neg, q_ltI, q_ltS, q_lt', q_le, q_gt, q_ge, q_eqI, q_neI, q_eqS, q_neS, q_eqB, q_neB, q_isN, q_notN, q_isi, q_lst, q_tup, q_dnK, q_dnT, q_ixL, q_ixT, q_ixC, q_ixS, r_ixL, r_ixT, r_ixS, q_lenL, q_lenT, q_lenC, q_lenD, q_lenS, q_listL, q_listT, q_listD, q_tupOf, q_max, q_min, q_intB, q_intI, q_all, q_any, q_slL, q_slT, q_slS, q_inS1, q_ninS1, CV.val, Val.truth, Tgt.bind, Tgt.bindL, storable, fz?, Def.outs, Val.noOwn, noOwnL, pureL, ME.pure, IK.items, IK.stays, List.range_succ, List.replicate, MOp.sem, isLst, parts?, b0__law_book, s6__law_book, tf0__law_book, tf1__law_book, tf2__law_book, e1, hsl, ns, nt, lt1, g1, hs2, ruleV, ce]
theorem book_h1 {w : Val} {n : Nat} (hb : Bag w n) (hn : n ≤ 300000) : ∃ (w' : Val) (lt ms mn : Int), 0 ≤ lt ∧ lt < 2 ∧ 0 ≤ mn ∧ mn ≤ 30 ∧ Bag w' (n + 3) ∧
    exL T__law_book b8__law_book [some w, none, none, none, none, none, none] = exL T__law_book b5__law_book [some w', some (.int lt), some (.int ms), some (.int mn), none, none, none] := by
  have hl7 : Nat.log2 7 < 9000 := by decide +kernel
  obtain ⟨lt, w1, a1, a2, a3, e1⟩ := draw_ok (m := 2) hb
  obtain ⟨r2, w2, b1, b2, b3, e2⟩ := draw_ok (m := 8) a3
  obtain ⟨ms, m1, m2⟩ := pick2 (a := 9) (b := 31) (r := r2 / 7) (by omega) (by omega)
  obtain ⟨mn, w3, c1, c2, c3, e3⟩ := draw_ok (m := ms) b3
  refine ⟨w3, lt, ms, mn, a1, a2, c1, by omega, c3.mono, ?_⟩
  have x0 : exS T__law_book s0__law_book [some w, none, none, none, none, none, none] = .ok (none, [some w1, some (.int lt), none, none, none, none, none]) := by
    simp [small_line, q_nil, exL, exS, evE, evL, evI, evT, evTAnd, evTOr, evAnd, evOr, evIfs, evArgs, lendIx, lendOut, lendBack, forGo, R.bind_ok, R.bind_exc, R.bind_stuck, q_addI, q_addS, q_addL, q_addT, q_sub, q_mul, q_fdiv, q_mod, q_pow, q_neg, q_ltI, q_ltS, q_lt', q_le, q_gt, q_ge, q_eqI, q_neI, q_eqS, q_neS, q_eqB, q_neB, q_isN, q_notN, q_isi, q_lst, q_tup, q_dnK, q_dnT, q_ixL, q_ixT, q_ixC, q_ixS, r_ixL, r_ixT, r_ixS, q_lenL, q_lenT, q_lenC, q_lenD, q_lenS, q_listL, q_listT, q_listD, q_tupOf, q_max, q_min, q_intB, q_intI, q_all, q_any, q_slL, q_slT, q_slS, q_inS1, q_ninS1, CV.val, Val.truth, Tgt.bind, Tgt.bindL, storable, fz?, Def.outs, Val.noOwn, noOwnL, pureL, ME.pure, IK.items, IK.stays, List.range_succ, List.replicate, MOp.sem, isLst, parts?, s0__law_book, tf0__law_book, tf1__law_book, tf2__law_book, e1]
  have x1 : exS T__law_book s1__law_book [some w1, some (.int lt), none, none, none, none, none] = .ok (none, [some w2, some (.int lt), some (.int ms), none, none, none, none]) := by
    simp [small_line, q_nil, exL, exS, evE, evL, evI, evT, evTAnd, evTOr, evAnd, evOr, evIfs, evArgs, lendIx, lendOut, lendBack, forGo, R.bind_ok, R.bind_exc, R.bind_stuck, q_addI, q_addS, q_addL, q_addT, q_sub, q_mul, q_fdiv, q_mod, q_pow, q_neg, q_ltI, q_ltS, q_lt', q_le, q_gt, q_ge, q_eqI, q_neI, q_eqS, q_neS, q_eqB, q_neB, q_isN, q_notN, q_isi, q_lst, q_tup, q_dnK, q_dnT, q_ixL, q_ixT, q_ixC, q_ixS, r_ixL, r_ixT, r_ixS, q_lenL, q_lenT, q_lenC, q_lenD, q_lenS, q_listL, q_listT, q_listD, q_tupOf, q_max, q_min, q_intB, q_intI, q_all, q_any, q_slL, q_slT, q_slS, q_inS1, q_ninS1, CV.val, Val.truth, Tgt.bind, Tgt.bindL, storable, fz?, Def.outs, Val.noOwn, noOwnL, pureL, ME.pure, IK.items, IK.stays, List.range_succ, List.replicate, MOp.sem, isLst, parts?, s1__law_book, tf0__law_book, tf1__law_book, tf2__law_book, e2, m2, hl7]
  have x2 : exS T__law_book s2__law_book [some w2, some (.int lt), some (.int ms), none, none, none, none] = .ok (none, [some w3, some (.int lt), some (.int ms), some (.int mn), none, none, none]) := by
    simp [small_line, q_nil, exL, exS, evE, evL, evI, evT, evTAnd, evTOr, evAnd, evOr, evIfs, evArgs, lendIx, lendOut, lendBack, forGo, R.bind_ok, R.bind_exc, R.bind_stuck, q_addI, q_addS, q_addL, q_addT, q_sub, q_mul, q_fdiv, q_mod, q_pow, q_neg, q_ltI, q_ltS, q_lt', q_le, q_gt, q_ge, q_eqI, q_neI, q_eqS, q_neS, q_eqB, q_neB, q_isN, q_notN, q_isi, q_lst, q_tup, q_dnK, q_dnT, q_ixL, q_ixT, q_ixC, q_ixS, r_ixL, r_ixT, r_ixS, q_lenL, q_lenT, q_lenC, q_lenD, q_lenS, q_listL, q_listT, q_listD, q_tupOf, q_max, q_min, q_intB, q_intI, q_all, q_any, q_slL, q_slT, q_slS, q_inS1, q_ninS1, CV.val, Val.truth, Tgt.bind, Tgt.bindL, storable, fz?, Def.outs, Val.noOwn, noOwnL, pureL, ME.pure, IK.items, IK.stays, List.range_succ, List.replicate, MOp.sem, isLst, parts?, s2__law_book, tf0__law_book, tf1__law_book, tf2__law_book, e3]
  exact (exL_step x0).trans ((exL_step x1).trans (exL_step x2))
theorem book_h2 {w : Val} {n : Nat} {lt ms mn : Int} (hb : Bag w n) (hn : n ≤ 300010) (h0 : 0 ≤ mn) (h1 : mn ≤ 30) : ∃ (zs : List Str) (w' : Val) (k : Nat), zs.Nodup ∧ (∀ z ∈ zs, IsName z) ∧ zs.length ≤ 40 ∧ k ≤ zs.length ∧ k ≤ 30 ∧ Bag w' (n + 20001) ∧
    exL T__law_book b5__law_book [some w, some (.int lt), some (.int ms), some (.int mn), none, none, none] = exL T__law_book b2__law_book [some w', some (.int lt), some (.int ms), some (.int k), some (.lst false (zs.map Val.str)), some (.lst true []), none] := by
  have hl3 : Nat.log2 3 < 9000 := by decide +kernel
  obtain ⟨r4, w4, d1, d2, d3, e4⟩ := draw_ok (m := 4) hb
  obtain ⟨mo, o1, o2⟩ := pick2 (a := 2) (b := 10) (r := r4 / 3) (by omega) (by omega)
  obtain ⟨zs, w5, hnd, hN, hzl, hne, hb5, e5⟩ := names_ok d3 (by omega) (many := mn + mo) (by omega) (by omega)
  have hzl2 : zs.length ≤ 40 := by omega
  have ns := noOwn_strs zs
  have fz := frzL_strs zs
  obtain ⟨k, hk, hk1, hk2⟩ : ∃ k : Nat, (if (zs.length : Int) < mn then (zs.length : Int) else mn) = (k : Int) ∧ k ≤ zs.length ∧ k ≤ 30 := by
    split
    · exact ⟨zs.length, rfl, by omega, by omega⟩
    · exact ⟨mn.toNat, by omega, by omega, by omega⟩
  refine ⟨zs, w5, k, hnd, hN, hzl2, hk1, hk2, hb5.mono, ?_⟩
  have x3 : exS T__law_book s3__law_book [some w, some (.int lt), some (.int ms), some (.int mn), none, none, none] = .ok (none, [some w5, some (.int lt), some (.int ms), some (.int mn), some (.lst false (zs.map Val.str)), none, none]) := by
    simp [small_line, q_nil, exL, exS, evE, evL, evI, evT, evTAnd, evTOr, evAnd, evOr, evIfs, evArgs, lendIx, lendOut, lendBack, forGo, R.bind_ok, R.bind_exc, R.bind_stuck, q_addI, q_addS, q_addL, q_addT, q_sub, q_mul, q_fdiv, q_mod, q_pow, q_neg, q_ltI, q_ltS, q_lt', q_le, q_gt, q_ge, q_eqI, q_neI, q_eqS, q_neS, q_eqB, q_neB, q_isN, q_notN, q_isi, q_lst, q_tup, q_dnK, q_dnT, q_ixL, q_ixT, q_ixC, q_ixS, r_ixL, r_ixT, r_ixS, q_lenL, q_lenT, q_lenC, q_lenD, q_lenS, q_listL, q_listT, q_listD, q_tupOf, q_max, q_min, q_intB, q_intI, q_all, q_any, q_slL, q_slT, q_slS, q_inS1, q_ninS1, CV.val, Val.truth, Tgt.bind, Tgt.bindL, storable, fz?, Def.outs, Val.noOwn, noOwnL, pureL, ME.pure, IK.items, IK.stays, List.range_succ, List.replicate, MOp.sem, isLst, parts?, s3__law_book, tf0__law_book, tf1__law_book, tf2__law_book, e4, e5, o2, hl3, Val.frz, fz]
  have x4 : exS T__law_book s4__law_book [some w5, some (.int lt), some (.int ms), some (.int mn), some (.lst false (zs.map Val.str)), none, none] = .ok (none, [some w5, some (.int lt), some (.int ms), some (.int k), some (.lst false (zs.map Val.str)), none, none]) := by
    simp [small_line, q_nil, exL, exS, evE, evL, evI, evT, evTAnd, evTOr, evAnd, evOr, evIfs, evArgs, lendIx, lendOut, lendBack, forGo, R.bind_ok, R.bind_exc, R.bind_stuck, q_addI, q_addS, q_addL, q_addT, q_sub, q_mul, q_fdiv, q_mod, q_pow, q_neg, q_ltI, q_ltS, q_lt', q_le, q_gt, q_ge, q_eqI, q_neI, q_eqS, q_neS, q_eqB, q_neB, q_isN, q_notN, q_isi, q_lst, q_tup, q_dnK, q_dnT, q_ixL, q_ixT, q_ixC, q_ixS, r_ixL, r_ixT, r_ixS, q_lenL, q_lenT, q_lenC, q_lenD, q_lenS, q_listL, q_listT, q_listD, q_tupOf, q_max, q_min, q_intB, q_intI, q_all, q_any, q_slL, q_slT, q_slS, q_inS1, q_ninS1, CV.val, Val.truth, Tgt.bind, Tgt.bindL, storable, fz?, Def.outs, Val.noOwn, noOwnL, pureL, ME.pure, IK.items, IK.stays, List.range_succ, List.replicate, MOp.sem, isLst, parts?, s4__law_book, tf0__law_book, tf1__law_book, tf2__law_book, hk]
  have x5 : exS T__law_book s5__law_book [some w5, some (.int lt), some (.int ms), some (.int k), some (.lst false (zs.map Val.str)), none, none] = .ok (none, [some w5, some (.int lt), some (.int ms), some (.int k), some (.lst false (zs.map Val.str)), some (.lst true []), none]) := by
    simp [small_line, q_nil, exL, exS, evE, evL, evI, evT, evTAnd, evTOr, evAnd, evOr, evIfs, evArgs, lendIx, lendOut, lendBack, forGo, R.bind_ok, R.bind_exc, R.bind_stuck, q_addI, q_addS, q_addL, q_addT, q_sub, q_mul, q_fdiv, q_mod, q_pow, q_neg, q_ltI, q_ltS, q_lt', q_le, q_gt, q_ge, q_eqI, q_neI, q_eqS, q_neS, q_eqB, q_neB, q_isN, q_notN, q_isi, q_lst, q_tup, q_dnK, q_dnT, q_ixL, q_ixT, q_ixC, q_ixS, r_ixL, r_ixT, r_ixS, q_lenL, q_lenT, q_lenC, q_lenD, q_lenS, q_listL, q_listT, q_listD, q_tupOf, q_max, q_min, q_intB, q_intI, q_all, q_any, q_slL, q_slT, q_slS, q_inS1, q_ninS1, CV.val, Val.truth, Tgt.bind, Tgt.bindL, storable, fz?, Def.outs, Val.noOwn, noOwnL, pureL, ME.pure, IK.items, IK.stays, List.range_succ, List.replicate, MOp.sem, isLst, parts?, s5__law_book]
  exact (exL_step x3).trans ((exL_step x4).trans (exL_step x5))
theorem book_loop {w : Val} {n : Nat} {zs : List Str} {lt ms : Int} {k : Nat} (hb : Bag w n) (hn : n ≤ 500000) (hnd : zs.Nodup) (hN : ∀ z ∈ zs, IsName z) (hz : zs.length ≤ 40) (hk1 : k ≤ zs.length) (hk2 : k ≤ 30) (a1 : 0 ≤ lt) (a2 : lt < 2) :
    ∃ (rs : List R3) (w' : Val) (y6 : Option Val), (∀ r ∈ rs, IsRule r) ∧ (rs.map (·.1)) = zs.take k ∧ Bag w' (n + 6000) ∧
      exS T__law_book s7__law_book [some w, some (.int lt), some (.int ms), some (.int k), some (.lst false (zs.map Val.str)), some (.lst true []), none] = .ok (none, [some w', some (.int lt), some (.int ms), some (.int k), some (.lst false (zs.map Val.str)), some (.lst true (rs.map ruleV)), y6]) := by
  obtain ⟨envF, q1, w6, rs, y6, rfl, hb6, hrn, hrr⟩ := forGo_ix (bt := g0__law_book.bind) (b := exL T__law_book b0__law_book)
    (fun i env => ∃ w' rs y6, env = [some w', some (.int lt), some (.int ms), some (.int k), some (.lst false (zs.map Val.str)), some (.lst true (rs.map ruleV)), y6] ∧ Bag w' (n + 200 * i) ∧ (rs.map (·.1)) = zs.take i ∧ ∀ r ∈ rs, IsRule r)
    (items := rangeV 0 k) (i := 0) (env := [some w, some (.int lt), some (.int ms), some (.int k), some (.lst false (zs.map Val.str)), some (.lst true []), none]) (by
      rintro j x env hx ⟨w', rs, y6, rfl, h1, h2, h3⟩
      obtain ⟨hj, rfl⟩ := rangeV_at hx
      have hlr : rs.length ≤ 100 := by
        have := congrArg List.length h2
        rw [List.length_map, List.length_take] at this
        omega
      obtain ⟨wd, ps, w'', f1, f2, f3, f4⟩ := book_turn (lt := lt) (ms := ms) (mn := k) (i := j) (rs := rs) h1 (by omega) a1 a2 (by omega) hz hN hlr (x6 := y6)
      rw [show (0 : Int) + (j : Int) = (j : Int) by omega]
      refine ⟨_, _, rfl, f4, w'', _, _, rfl, f3.mono, ?_, fun r hr => ?_⟩
      · rw [show 0 + j + 1 = j + 1 by omega, take_snoc (by omega), List.map_append, h2]; simp
      · rcases List.mem_append.mp hr with h | h
        · exact h3 r h
        · rw [List.mem_singleton.mp h]; exact ⟨hN _ (List.getElem_mem _), f1⟩) ⟨w, [], none, rfl, hb.mono, rfl, nofun⟩
  rw [rangeV_len, Nat.zero_add] at hrn hb6
  have hsm : small62 (k : Int) = true := small62_of
  refine ⟨rs, w6, y6, hrr, hrn, hb6.mono, ?_⟩
  refine for_range1 (j := (k : Int)) (u := false) ?_ hsm (by simpa using q1)
  simp [small_line, q_nil, exL, exS, evE, evL, evI, evT, evTAnd, evTOr, evAnd, evOr, evIfs, evArgs, lendIx, lendOut, lendBack, forGo, R.bind_ok, R.bind_exc, R.bind_stuck, q_addI, q_addS, q_addL, q_addT, q_sub, q_mul, q_fdiv, q_mod, q_pow, q_neg, q_ltI, q_ltS, q_lt', q_le, q_gt, q_ge, q_eqI, q_neI, q_eqS, q_neS, q_eqB, q_neB, q_isN, q_notN, q_isi, q_lst, q_tup, q_dnK, q_dnT, q_ixL, q_ixT, q_ixC, q_ixS, r_ixL, r_ixT, r_ixS, q_lenL, q_lenT, q_lenC, q_lenD, q_lenS, q_listL, q_listT, q_listD, q_tupOf, q_max, q_min, q_intB, q_intI, q_all, q_any, q_slL, q_slT, q_slS, q_inS1, q_ninS1, CV.val, Val.truth, Tgt.bind, Tgt.bindL, storable, fz?, Def.outs, Val.noOwn, noOwnL, pureL, ME.pure, IK.items, IK.stays, List.range_succ, List.replicate, MOp.sem, isLst, parts?, ]
theorem book_ok {w : Val} {n : Nat} (hb : Bag w n) (hn : n ≤ 300000) : ∃ (rs : List R3) (w' : Val), IsBook rs ∧ Bag w' (n + 30000) ∧ d__law_book.run T__law_book [w] = .ok (.lst true (rs.map ruleV)) [some w'] := by
  obtain ⟨w0, lt, ms, mn, a1, a2, a3, a4, hb0, e0⟩ := book_h1 hb hn
  obtain ⟨zs, w1, k, hnd, hN, hz, hk1, hk2, hb1, e1⟩ := book_h2 (lt := lt) (ms := ms) hb0 (by omega) a3 a4
  obtain ⟨rs, w2, y6, hrr, hrn, hb2, e2⟩ := book_loop (ms := ms) hb1 (by omega) hnd hN hz hk1 hk2 a1 a2
  have nd : (rs.map (·.1)).Nodup := by rw [hrn]; exact hnd.sublist (List.take_sublist _ _)
  have hlr : rs.length ≤ 31 := by
    have := congrArg List.length hrn
    rw [List.length_map, List.length_take] at this
    omega
  have hsr := p_sortR (o := true) (u := false) hrr nd
  refine ⟨sortR rs, w2, sortR_book hrr nd hlr, hb2.mono, ?_⟩
  have x8 : exS T__law_book s8__law_book [some w2, some (.int lt), some (.int ms), some (.int k), some (.lst false (zs.map Val.str)), some (.lst true (rs.map ruleV)), y6] = .ok (some (.lst true ((sortR rs).map ruleV)), [some w2, some (.int lt), some (.int ms), some (.int k), some (.lst false (zs.map Val.str)), some (.lst true (rs.map ruleV)), y6]) := by
    simp [small_line, q_nil, exL, exS, evE, evL, evI, evT, evTAnd, evTOr, evAnd, evOr, evIfs, evArgs, lendIx, lendOut, lendBack, forGo, R.bind_ok, R.bind_exc, R.bind_stuck, q_addI, q_addS, q_addL, q_addT, q_sub, q_mul, q_fdiv, q_mod, q_pow, q_neg, q_ltI, q_ltS, q_lt', q_le, q_gt, q_ge, q_eqI, q_neI, q_eqS, q_neS, q_eqB, q_neB, q_isN, q_notN, q_isi, q_lst, q_tup, q_dnK, q_dnT, q_ixL, q_ixT, q_ixC, q_ixS, r_ixL, r_ixT, r_ixS, q_lenL, q_lenT, q_lenC, q_lenD, q_lenS, q_listL, q_listT, q_listD, q_tupOf, q_max, q_min, q_intB, q_intI, q_all, q_any, q_slL, q_slT, q_slS, q_inS1, q_ninS1, CV.val, Val.truth, Tgt.bind, Tgt.bindL, storable, fz?, Def.outs, Val.noOwn, noOwnL, pureL, ME.pure, IK.items, IK.stays, List.range_succ, List.replicate, MOp.sem, isLst, parts?, s8__law_book, hsr, p_rcSD]
  exact run_ret (d := d__law_book) (xs := [w]) (env0 := [some w, none, none, none, none, none, none]) rfl rfl (e0.trans (e1.trans ((exL_step e2).trans (exL_end x8))))
end Law

set_option Elab.async false
set_option maxRecDepth 100000
set_option maxHeartbeats 0
set_option linter.all false
namespace Law
open PySem L2 Mn
theorem ab_signs : IsSigns (Str.ofString "ab") := by
  have e : tx (Str.ofString "ab") = [97, 98] := by decide +kernel
  refine ⟨by decide +kernel, by decide +kernel, fun c hc => ?_, ?_⟩
  · rw [e] at hc; unfold SignC; simp at hc; omega
  · rw [e]; decide
/-- the last rule's form, drawn out of five -/
theorem pick5 {z : Str} (hz : IsName z) {r : Int} (h0 : 0 ≤ r) (h1 : r < 5) : ∃ (wd : Str) (ps : List Str), IsForm wd ps ∧ ∀ o u v, ixO.sem [(.lst o [.tup [.str kNone], .tup [.str kAny], .tup [.str kSigns, .str (Str.ofString "ab")], .tup [.str kFirst, .str z], .tup [.str kNot, .str z]], u), (.int r, v)] = some (tupS (wd :: ps), false) := by
  have one : ∀ p ∈ [z], IsName p := fun p hp => by rw [List.mem_singleton.mp hp]; exact hz
  rcases (show r = 0 ∨ r = 1 ∨ r = 2 ∨ r = 3 ∨ r = 4 by omega) with rfl | rfl | rfl | rfl | rfl
  · exact ⟨kNone, [], .inl ⟨rfl, rfl⟩, fun _ _ _ => rfl⟩
  · exact ⟨kAny, [], .inr (.inl ⟨rfl, rfl⟩), fun _ _ _ => rfl⟩
  · exact ⟨kSigns, [Str.ofString "ab"], .inr (.inr (.inl ⟨rfl, _, rfl, ab_signs⟩)), fun _ _ _ => rfl⟩
  · exact ⟨kFirst, [z], .inr (.inr (.inr (.inl ⟨.inr rfl, by simp, by simp, one⟩))), fun _ _ _ => rfl⟩
  · exact ⟨kNot, [z], .inr (.inr (.inr (.inr ⟨.inr (.inr rfl), by simp, one⟩))), fun _ _ _ => rfl⟩
theorem chain_h1 {w : Val} {n : Nat} (hb : Bag w n) (hn : n ≤ 300000) : ∃ (zs : List Str) (w' : Val) (last : Val) (bk : Str) (wd : Str) (ps : List Str), zs.Nodup ∧ (∀ z ∈ zs, IsName z) ∧ zs.length ≤ 30 ∧ zs ≠ [] ∧ IsForm wd ps ∧ Bag w' (n + 20005) ∧
    exL T__law_chain b12__law_chain [some w, none, none, none, none, none, none, none, none] = exL T__law_chain b8__law_chain [some w', some (.lst false (zs.map Val.str)), some (tupS (wd :: ps)), some (.str bk), none, none, none, none, none] := by
  obtain ⟨r1, w1, a1, a2, a3, e1⟩ := draw_ok (m := 29) hb
  obtain ⟨zs, w2, hnd, hN, hzl, hne, hb2, e2⟩ := names_ok a3 (by omega) (many := 2 + r1) (by omega) (by omega)
  have hzl2 : zs.length ≤ 30 := by omega
  have hpos := List.length_pos_iff.mpr hne
  have fz := frzL_strs zs
  obtain ⟨r3, w3, b1, b2, b3, e3⟩ := draw_ok (m := 5) hb2
  obtain ⟨wd, ps, hf, e5⟩ := pick5 (z := zs[0]) (hN _ (List.getElem_mem _)) b1 b2
  obtain ⟨r4, w4, c1, c2, c3, e4⟩ := draw_ok (m := zs.length) b3
  have hj : r4.toNat < zs.length := by omega
  obtain ⟨r6, w6, d1, d2, d3, e6⟩ := draw_ok (m := 3) c3
  have l0 : (0 : Int) < (zs.length : Int) := by omega
  have nt := noOwn_tupS (wd :: ps)
  have x0 : exS T__law_chain s0__law_chain [some w, none, none, none, none, none, none, none, none] = .ok (none, [some w2, some (.lst false (zs.map Val.str)), none, none, none, none, none, none, none]) := by
    simp [small_line, q_nil, exL, exS, evE, evL, evI, evT, evTAnd, evTOr, evAnd, evOr, evIfs, evArgs, lendIx, lendOut, lendBack, forGo, R.bind_ok, R.bind_exc, R.bind_stuck, q_addI, q_addS, q_addL, q_addT, q_sub, q_mul, q_fdiv, q_mod, q_pow, q_neg, q_ltI, q_ltS, q_lt', q_le, q_gt, q_ge, q_eqI, q_neI, q_eqS, q_neS, q_eqB, q_neB, q_isN, q_notN, q_isi, q_lst, q_tup, q_dnK, q_dnT, q_ixL, q_ixT, q_ixC, q_ixS, r_ixL, r_ixT, r_ixS, q_lenL, q_lenT, q_lenC, q_lenD, q_lenS, q_listL, q_listT, q_listD, q_tupOf, q_max, q_min, q_intB, q_intI, q_all, q_any, q_slL, q_slT, q_slS, q_inS1, q_ninS1, CV.val, Val.truth, Tgt.bind, Tgt.bindL, storable, fz?, Def.outs, Val.noOwn, noOwnL, pureL, ME.pure, IK.items, IK.stays, List.range_succ, List.replicate, MOp.sem, isLst, parts?, s0__law_chain, tf0__law_chain, tf1__law_chain, e1, e2, Val.frz, fz]
  have x1 : exS T__law_chain s1__law_chain [some w2, some (.lst false (zs.map Val.str)), none, none, none, none, none, none, none] = .ok (none, [some w3, some (.lst false (zs.map Val.str)), some (tupS (wd :: ps)), none, none, none, none, none, none]) := by
    simp [small_line, q_nil, exL, exS, evE, evL, evI, evT, evTAnd, evTOr, evAnd, evOr, evIfs, evArgs, lendIx, lendOut, lendBack, forGo, R.bind_ok, R.bind_exc, R.bind_stuck, q_addI, q_addS, q_addL, q_addT, q_sub, q_mul, q_fdiv, q_mod, q_pow, q_neg, q_ltI, q_ltS, q_lt', q_le, q_gt, q_ge, q_eqI, q_neI, q_eqS, q_neS, q_eqB, q_neB, q_isN, q_notN, q_isi, q_lst, q_tup, q_dnK, q_dnT, q_ixL, q_ixT, q_ixC, q_ixS, r_ixL, r_ixT, r_ixS, q_lenL, q_lenT, q_lenC, q_lenD, q_lenS, q_listL, q_listT, q_listD, q_tupOf, q_max, q_min, q_intB, q_intI, q_all, q_any, q_slL, q_slT, q_slS, q_inS1, q_ninS1, CV.val, Val.truth, Tgt.bind, Tgt.bindL, storable, fz?, Def.outs, Val.noOwn, noOwnL, pureL, ME.pure, IK.items, IK.stays, List.range_succ, List.replicate, MOp.sem, isLst, parts?, s1__law_chain, tf0__law_chain, tf1__law_chain, e_none, e_any, e_signs, e_first, e_not, e3, l0, hpos, e5, nt]
  have x2 : exS T__law_chain s2__law_chain [some w3, some (.lst false (zs.map Val.str)), some (tupS (wd :: ps)), none, none, none, none, none, none] = .ok (none, [some w4, some (.lst false (zs.map Val.str)), some (tupS (wd :: ps)), some (.str zs[r4.toNat]), none, none, none, none, none]) := by
    simp [small_line, q_nil, exL, exS, evE, evL, evI, evT, evTAnd, evTOr, evAnd, evOr, evIfs, evArgs, lendIx, lendOut, lendBack, forGo, R.bind_ok, R.bind_exc, R.bind_stuck, q_addI, q_addS, q_addL, q_addT, q_sub, q_mul, q_fdiv, q_mod, q_pow, q_neg, q_ltI, q_ltS, q_lt', q_le, q_gt, q_ge, q_eqI, q_neI, q_eqS, q_neS, q_eqB, q_neB, q_isN, q_notN, q_isi, q_lst, q_tup, q_dnK, q_dnT, q_ixL, q_ixT, q_ixC, q_ixS, r_ixL, r_ixT, r_ixS, q_lenL, q_lenT, q_lenC, q_lenD, q_lenS, q_listL, q_listT, q_listD, q_tupOf, q_max, q_min, q_intB, q_intI, q_all, q_any, q_slL, q_slT, q_slS, q_inS1, q_ninS1, CV.val, Val.truth, Tgt.bind, Tgt.bindL, storable, fz?, Def.outs, Val.noOwn, noOwnL, pureL, ME.pure, IK.items, IK.stays, List.range_succ, List.replicate, MOp.sem, isLst, parts?, s2__law_chain, tf0__law_chain, tf1__law_chain, e4, c1, c2]
  by_cases c : r6 = 2
  · refine ⟨zs, w6, .non, zs[r4.toNat], kRow, [zs[r4.toNat]], hnd, hN, hzl2, hne, .inr (.inr (.inr (.inl ⟨.inl rfl, by simp, by simp, fun p hp => by rw [List.mem_singleton.mp hp]; exact hN _ (List.getElem_mem _)⟩))), d3.mono, ?_⟩
    have x4 : exS T__law_chain s4__law_chain [some w4, some (.lst false (zs.map Val.str)), some (tupS (wd :: ps)), some (.str zs[r4.toNat]), none, none, none, none, none] = .ok (none, [some w6, some (.lst false (zs.map Val.str)), some (tupS [kRow, zs[r4.toNat]]), some (.str zs[r4.toNat]), none, none, none, none, none]) := by
      simp [small_line, q_nil, exL, exS, evE, evL, evI, evT, evTAnd, evTOr, evAnd, evOr, evIfs, evArgs, lendIx, lendOut, lendBack, forGo, R.bind_ok, R.bind_exc, R.bind_stuck, q_addI, q_addS, q_addL, q_addT, q_sub, q_mul, q_fdiv, q_mod, q_pow, q_neg, q_ltI, q_ltS, q_lt', q_le, q_gt, q_ge, q_eqI, q_neI, q_eqS, q_neS, q_eqB, q_neB, q_isN, q_notN, q_isi, q_lst, q_tup, q_dnK, q_dnT, q_ixL, q_ixT, q_ixC, q_ixS, r_ixL, r_ixT, r_ixS, q_lenL, q_lenT, q_lenC, q_lenD, q_lenS, q_listL, q_listT, q_listD, q_tupOf, q_max, q_min, q_intB, q_intI, q_all, q_any, q_slL, q_slT, q_slS, q_inS1, q_ninS1, CV.val, Val.truth, Tgt.bind, Tgt.bindL, storable, fz?, Def.outs, Val.noOwn, noOwnL, pureL, ME.pure, IK.items, IK.stays, List.range_succ, List.replicate, MOp.sem, isLst, parts?, s4__law_chain, b0__law_chain, s3__law_chain, tf0__law_chain, tf1__law_chain, e_row, e6, c, tupS]
    exact (exL_step x0).trans ((exL_step x1).trans ((exL_step x2).trans (exL_step x4)))
  · refine ⟨zs, w6, .non, zs[r4.toNat], wd, ps, hnd, hN, hzl2, hne, hf, d3.mono, ?_⟩
    have x4 : exS T__law_chain s4__law_chain [some w4, some (.lst false (zs.map Val.str)), some (tupS (wd :: ps)), some (.str zs[r4.toNat]), none, none, none, none, none] = .ok (none, [some w6, some (.lst false (zs.map Val.str)), some (tupS (wd :: ps)), some (.str zs[r4.toNat]), none, none, none, none, none]) := by
      simp [small_line, q_nil, exL, exS, evE, evL, evI, evT, evTAnd, evTOr, evAnd, evOr, evIfs, evArgs, lendIx, lendOut, lendBack, forGo, R.bind_ok, R.bind_exc, R.bind_stuck, q_addI, q_addS, q_addL, q_addT, q_sub, q_mul, q_fdiv, q_mod, q_pow, q_neg, q_ltI, q_ltS, q_lt', q_le, q_gt, q_ge, q_eqI, q_neI, q_eqS, q_neS, q_eqB, q_neB, q_isN, q_notN, q_isi, q_lst, q_tup, q_dnK, q_dnT, q_ixL, q_ixT, q_ixC, q_ixS, r_ixL, r_ixT, r_ixS, q_lenL, q_lenT, q_lenC, q_lenD, q_lenS, q_listL, q_listT, q_listD, q_tupOf, q_max, q_min, q_intB, q_intI, q_all, q_any, q_slL, q_slT, q_slS, q_inS1, q_ninS1, CV.val, Val.truth, Tgt.bind, Tgt.bindL, storable, fz?, Def.outs, Val.noOwn, noOwnL, pureL, ME.pure, IK.items, IK.stays, List.range_succ, List.replicate, MOp.sem, isLst, parts?, s4__law_chain, b0__law_chain, s3__law_chain, tf0__law_chain, tf1__law_chain, e_row, e6, c]
    exact (exL_step x0).trans ((exL_step x1).trans ((exL_step x2).trans (exL_step x4)))
/-- names drawn in a chain's comprehension -/
theorem chain_comp {w : Val} {n : Nat} {zs : List Str} (hb : Bag w n) (hn : n ≤ 900000) (hne : zs ≠ []) (hl : zs.length ≤ 1000) {x2 x3 x4 x5 x6 x7 : Option Val} :
    ∃ (ys : List Str) (w' : Val), evE T__law_chain c0__law_chain [some w, some (.lst false (zs.map Val.str)), x2, x3, x4, x5, x6, x7, none] = .ok (.lst true (ys.map Val.str), true, [some w', some (.lst false (zs.map Val.str)), x2, x3, x4, x5, x6, x7, none]) ∧ (∀ y ∈ ys, y ∈ zs) ∧ ys.length ≤ 2 ∧ Bag w' (n + 5) := by
  have hpos := List.length_pos_iff.mpr hne
  obtain ⟨m, w1, a1, a2, a3, e1⟩ := draw_ok (m := 3) hb
  obtain ⟨ys, envF, q1, q2, q3, q4⟩ := lcGo_inv (vs := [8]) (bt := g1__law_chain.bind) (c := evIfs T__law_chain i0__law_chain) (f := evE T__law_chain e0__law_chain) 3
    (fun i env => ∃ w', env = [some w', some (.lst false (zs.map Val.str)), x2, x3, x4, x5, x6, x7, none] ∧ Bag w' (n + 1 + i)) (fun y => ∃ z : Str, y = .str z ∧ z ∈ zs)
    (items := rangeV 0 m.toNat) (i := 0) (env := [some w1, some (.lst false (zs.map Val.str)), x2, x3, x4, x5, x6, x7, none]) (by rw [rangeV_len]; omega) (by
      rintro i x env hi hx ⟨w', rfl, h1⟩
      obtain ⟨r2, w2, s1, s2, s3, e2⟩ := draw_ok (m := zs.length) h1
      have hj : r2.toNat < zs.length := by omega
      have l2 : r2 < ((zs.map Val.str).length : Int) := by rw [List.length_map]; omega
      refine ⟨_, _, .str zs[r2.toNat], false, [some w2, some (.lst false (zs.map Val.str)), x2, x3, x4, x5, x6, x7, some x], rfl, rfl, ?_, rfl, ⟨_, rfl, List.getElem_mem hj⟩, w2, rfl, s3⟩
      simp [small_line, q_nil, exL, exS, evE, evL, evI, evT, evTAnd, evTOr, evAnd, evOr, evIfs, evArgs, lendIx, lendOut, lendBack, forGo, R.bind_ok, R.bind_exc, R.bind_stuck, q_addI, q_addS, q_addL, q_addT, q_sub, q_mul, q_fdiv, q_mod, q_pow, q_neg, q_ltI, q_ltS, q_lt', q_le, q_gt, q_ge, q_eqI, q_neI, q_eqS, q_neS, q_eqB, q_neB, q_isN, q_notN, q_isi, q_lst, q_tup, q_dnK, q_dnT, q_ixL, q_ixT, q_ixC, q_ixS, r_ixL, r_ixT, r_ixS, q_lenL, q_lenT, q_lenC, q_lenD, q_lenS, q_listL, q_listT, q_listD, q_tupOf, q_max, q_min, q_intB, q_intI, q_all, q_any, q_slL, q_slT, q_slS, q_inS1, q_ninS1, CV.val, Val.truth, Tgt.bind, Tgt.bindL, storable, fz?, Def.outs, Val.noOwn, noOwnL, pureL, ME.pure, IK.items, IK.stays, List.range_succ, List.replicate, MOp.sem, isLst, parts?, e0__law_chain, tf0__law_chain, tf1__law_chain, g1__law_chain, wipeE, e2, r_ixL s1 l2]) ⟨w1, rfl, a3⟩
  obtain ⟨w', rfl, h1⟩ := q4
  rw [rangeV_len] at h1 q3
  obtain ⟨ys, rfl, hz⟩ : ∃ zs' : List Str, ys = zs'.map Val.str ∧ ∀ z ∈ zs', z ∈ zs := strs_of q2
  rw [List.length_map] at q3
  refine ⟨ys, w', ?_, hz, by omega, h1.mono⟩
  have hs : small62 m = true := small62_of
  have hl : ys.length ≤ sizeLine := by have := big_line; omega
  simp [small_line, q_nil, exL, exS, evE, evL, evI, evT, evTAnd, evTOr, evAnd, evOr, evIfs, evArgs, lendIx, lendOut, lendBack, forGo, R.bind_ok, R.bind_exc, R.bind_stuck, q_addI, q_addS, q_addL, q_addT, q_sub, q_mul, q_fdiv, q_mod, q_pow, q_neg, q_ltI, q_ltS, q_lt', q_le, q_gt, q_ge, q_eqI, q_neI, q_eqS, q_neS, q_eqB, q_neB, q_isN, q_notN, q_isi, q_lst, q_tup, q_dnK, q_dnT, q_ixL, q_ixT, q_ixC, q_ixS, r_ixL, r_ixT, r_ixS, q_lenL, q_lenT, q_lenC, q_lenD, q_lenS, q_listL, q_listT, q_listD, q_tupOf, q_max, q_min, q_intB, q_intI, q_all, q_any, q_slL, q_slT, q_slS, q_inS1, q_ninS1, CV.val, Val.truth, Tgt.bind, Tgt.bindL, storable, fz?, Def.outs, Val.noOwn, noOwnL, pureL, ME.pure, IK.items, IK.stays, List.range_succ, List.replicate, MOp.sem, isLst, parts?, c0__law_chain, tf0__law_chain, tf1__law_chain, e1, hs, wipeOk, wipeE, q1, hl]
end Law

set_option Elab.async false
set_option maxRecDepth 100000
set_option maxHeartbeats 0
set_option linter.all false
namespace Law
open PySem L2 Mn
def words6 : List Str := [kRow, kRow, kFirst, kAgain, kAhead, kNot]
theorem words6_mem : ∀ w ∈ words6, (w = kRow ∨ w = kFirst) ∨ ((¬ w = kRow ∧ ¬ w = kFirst) ∧ (w = kAgain ∨ w = kAhead ∨ w = kNot)) := by decide +kernel
theorem words6_ok : ∀ w ∈ words6, PyData.strOk w = true := by decide +kernel
theorem cut_one {zs : List Str} {j : Nat} (h : j + 1 < zs.length) : cutL (zs.map Val.str) (some ((j : Int) + 1)) (some ((j : Int) + 2)) = [Val.str zs[j + 1]] := by
  rw [cutL_mid (by omega) (by omega), ← List.map_drop, ← List.map_take]
  have e1 : ((j : Int) + 1).toNat = j + 1 := by omega
  have e2 : ((j : Int) + 2).toNat = j + 2 := by omega
  rw [e1, e2, show j + 2 - (j + 1) = 1 by omega, List.drop_eq_getElem_cons h]
  rfl
theorem chain_turn {w : Val} {n : Nat} {zs : List Str} {j : Nat} {rs : List R3} (hb : Bag w n) (hn : n ≤ 600000) (hi : j + 1 < zs.length) (hz : zs.length ≤ 40) (hN : ∀ z ∈ zs, IsName z) (hrs : rs.length ≤ 100) {x2 x3 x6 x7 : Option Val} :
    ∃ (wd : Str) (ps : List Str) (w' : Val) (y6 y7 : Option Val), IsForm wd ps ∧ Bag w' (n + 10) ∧
      exL T__law_chain b5__law_chain [some w, some (.lst false (zs.map Val.str)), x2, x3, some (.lst true (rs.map ruleV)), some (.int j), x6, x7, none] = .ok (none, [some w', some (.lst false (zs.map Val.str)), x2, x3, some (.lst true ((rs ++ [(zs[j], wd, ps)]).map ruleV)), some (.int j), y6, y7, none]) := by
  have hs := big_line
  have hs2 : rs.length < sizeLine := by omega
  have ns := noOwn_strs zs
  have lt1 : (j : Int) < (zs.length : Int) := by omega
  have lt2 : j < zs.length := by omega
  obtain ⟨r, w1, a1, a2, a3, e1⟩ := draw_ok (m := 6) hb
  have hj : r.toNat < words6.length := by show r.toNat < 6; omega
  obtain ⟨wd, hwd, hix⟩ : ∃ wd : Str, wd ∈ words6 ∧ ∀ o u v, ixO.sem [(.lst o [.str kRow, .str kRow, .str kFirst, .str kAgain, .str kAhead, .str kNot], u), (.int r, v)] = some (.str wd, false) := by
    refine ⟨words6[r.toNat], List.getElem_mem hj, fun o u v => ?_⟩
    have := q_ixL (xs := words6.map Val.str) (o := o) (u := u) (v := v) a1 (by rw [List.length_map]; show r < 6; omega)
    rw [strs_get] at this
    exact this
  have okw := words6_ok wd hwd
  have o4 : PyData.strOk kRow = true := by decide +kernel
  have o5 : PyData.strOk kFirst = true := by decide +kernel
  have x6' : exS T__law_chain s6__law_chain [some w, some (.lst false (zs.map Val.str)), x2, x3, some (.lst true (rs.map ruleV)), some (.int j), x6, x7, none] = .ok (none, [some w1, some (.lst false (zs.map Val.str)), x2, x3, some (.lst true (rs.map ruleV)), some (.int j), some (.str wd), x7, none]) := by
    simp [small_line, q_nil, exL, exS, evE, evL, evI, evT, evTAnd, evTOr, evAnd, evOr, evIfs, evArgs, lendIx, lendOut, lendBack, forGo, R.bind_ok, R.bind_exc, R.bind_stuck, q_addI, q_addS, q_addL, q_addT, q_sub, q_mul, q_fdiv, q_mod, q_pow, q_neg, q_ltI, q_ltS, q_lt', q_le, q_gt, q_ge, q_eqI, q_neI, q_eqS, q_neS, q_eqB, q_neB, q_isN, q_notN, q_isi, q_lst, q_tup, q_dnK, q_dnT, q_ixL, q_ixT, q_ixC, q_ixS, r_ixL, r_ixT, r_ixS, q_lenL, q_lenT, q_lenC, q_lenD, q_lenS, q_listL, q_listT, q_listD, q_tupOf, q_max, q_min, q_intB, q_intI, q_all, q_any, q_slL, q_slT, q_slS, q_inS1, q_ninS1, CV.val, Val.truth, Tgt.bind, Tgt.bindL, storable, fz?, Def.outs, Val.noOwn, noOwnL, pureL, ME.pure, IK.items, IK.stays, List.range_succ, List.replicate, MOp.sem, isLst, parts?, s6__law_chain, tf0__law_chain, tf1__law_chain, e_row, e_first, e_again, e_ahead, e_not, e1, hix]
  have hc := cut_one hi
  have x7' : exS T__law_chain s7__law_chain [some w1, some (.lst false (zs.map Val.str)), x2, x3, some (.lst true (rs.map ruleV)), some (.int j), some (.str wd), x7, none] = .ok (none, [some w1, some (.lst false (zs.map Val.str)), x2, x3, some (.lst true (rs.map ruleV)), some (.int j), some (.str wd), some (.lst false [.str zs[j + 1]]), none]) := by
    simp [small_line, q_nil, exL, exS, evE, evL, evI, evT, evTAnd, evTOr, evAnd, evOr, evIfs, evArgs, lendIx, lendOut, lendBack, forGo, R.bind_ok, R.bind_exc, R.bind_stuck, q_addI, q_addS, q_addL, q_addT, q_sub, q_mul, q_fdiv, q_mod, q_pow, q_neg, q_ltI, q_ltS, q_lt', q_le, q_gt, q_ge, q_eqI, q_neI, q_eqS, q_neS, q_eqB, q_neB, q_isN, q_notN, q_isi, q_lst, q_tup, q_dnK, q_dnT, q_ixL, q_ixT, q_ixC, q_ixS, r_ixL, r_ixT, r_ixS, q_lenL, q_lenT, q_lenC, q_lenD, q_lenS, q_listL, q_listT, q_listD, q_tupOf, q_max, q_min, q_intB, q_intI, q_all, q_any, q_slL, q_slT, q_slS, q_inS1, q_ninS1, CV.val, Val.truth, Tgt.bind, Tgt.bindL, storable, fz?, Def.outs, Val.noOwn, noOwnL, pureL, ME.pure, IK.items, IK.stays, List.range_succ, List.replicate, MOp.sem, isLst, parts?, s7__law_chain, ns, hc, Val.frz, frzL]
  have hm : zs[j + 1] ∈ zs := List.getElem_mem hi
  rcases words6_mem wd hwd with c | ⟨c, c2⟩
  · obtain ⟨ys, w2, e2, h1, h2, h3⟩ := chain_comp (zs := zs) a3 (by omega) (by rintro rfl; simp at hi) (by omega) (x2 := x2) (x3 := x3) (x4 := some (.lst true (rs.map ruleV))) (x5 := some (.int j)) (x6 := some (.str wd)) (x7 := some (.lst false [.str zs[j + 1]]))
    have nys := noOwn_strs ys
    have fys := frzL_strs ys
    have hly : ys.length + 1 ≤ sizeLine := by omega
    have hly2 : 1 + ys.length ≤ sizeLine := by omega
    have hly3 : 1 + (ys.length + 1) ≤ sizeLine := by omega
    have x9 : exS T__law_chain s9__law_chain [some w1, some (.lst false (zs.map Val.str)), x2, x3, some (.lst true (rs.map ruleV)), some (.int j), some (.str wd), some (.lst false [.str zs[j + 1]]), none] = .ok (none, [some w2, some (.lst false (zs.map Val.str)), x2, x3, some (.lst true (rs.map ruleV)), some (.int j), some (.str wd), some (.lst false (.str zs[j + 1] :: ys.map Val.str)), none]) := by
      rcases c with rfl | rfl
      · simp [small_line, q_nil, exL, exS, evE, evL, evI, evT, evTAnd, evTOr, evAnd, evOr, evIfs, evArgs, lendIx, lendOut, lendBack, forGo, R.bind_ok, R.bind_exc, R.bind_stuck, q_addI, q_addS, q_addL, q_addT, q_sub, q_mul, q_fdiv, q_mod, q_pow, q_neg, q_ltI, q_ltS, q_lt', q_le, q_gt, q_ge, q_eqI, q_neI, q_eqS, q_neS, q_eqB, q_neB, q_isN, q_notN, q_isi, q_lst, q_tup, q_dnK, q_dnT, q_ixL, q_ixT, q_ixC, q_ixS, r_ixL, r_ixT, r_ixS, q_lenL, q_lenT, q_lenC, q_lenD, q_lenS, q_listL, q_listT, q_listD, q_tupOf, q_max, q_min, q_intB, q_intI, q_all, q_any, q_slL, q_slT, q_slS, q_inS1, q_ninS1, CV.val, Val.truth, Tgt.bind, Tgt.bindL, storable, fz?, Def.outs, Val.noOwn, noOwnL, pureL, ME.pure, IK.items, IK.stays, List.range_succ, List.replicate, MOp.sem, isLst, parts?, s9__law_chain, b1__law_chain, s8__law_chain, e_row, e_first, o4, o5, e2, nys, fys, hly, hly2, Val.frz, frzL]
      · have c5 : ¬ kFirst = kRow := by decide +kernel
        simp [small_line, q_nil, exL, exS, evE, evL, evI, evT, evTAnd, evTOr, evAnd, evOr, evIfs, evArgs, lendIx, lendOut, lendBack, forGo, R.bind_ok, R.bind_exc, R.bind_stuck, q_addI, q_addS, q_addL, q_addT, q_sub, q_mul, q_fdiv, q_mod, q_pow, q_neg, q_ltI, q_ltS, q_lt', q_le, q_gt, q_ge, q_eqI, q_neI, q_eqS, q_neS, q_eqB, q_neB, q_isN, q_notN, q_isi, q_lst, q_tup, q_dnK, q_dnT, q_ixL, q_ixT, q_ixC, q_ixS, r_ixL, r_ixT, r_ixS, q_lenL, q_lenT, q_lenC, q_lenD, q_lenS, q_listL, q_listT, q_listD, q_tupOf, q_max, q_min, q_intB, q_intI, q_all, q_any, q_slL, q_slT, q_slS, q_inS1, q_ninS1, CV.val, Val.truth, Tgt.bind, Tgt.bindL, storable, fz?, Def.outs, Val.noOwn, noOwnL, pureL, ME.pure, IK.items, IK.stays, List.range_succ, List.replicate, MOp.sem, isLst, parts?, s9__law_chain, b1__law_chain, s8__law_chain, e_row, e_first, o4, o5, c5, e2, nys, fys, hly, hly2, Val.frz, frzL]
    refine ⟨wd, zs[j + 1] :: ys, w2, some (.str wd), some (.lst false (.str zs[j + 1] :: ys.map Val.str)), .inr (.inr (.inr (.inl ⟨c, by simp, by simp; omega, fun p hp => ?_⟩))), h3.mono, ?_⟩
    · rcases List.mem_cons.mp hp with rfl | hp
      · exact hN _ hm
      · exact hN _ (h1 p hp)
    · have x10 : exS T__law_chain s10__law_chain [some w2, some (.lst false (zs.map Val.str)), x2, x3, some (.lst true (rs.map ruleV)), some (.int j), some (.str wd), some (.lst false (.str zs[j + 1] :: ys.map Val.str)), none] = .ok (none, [some w2, some (.lst false (zs.map Val.str)), x2, x3, some (.lst true ((rs ++ [(zs[j], wd, zs[j + 1] :: ys)]).map ruleV)), some (.int j), some (.str wd), some (.lst false (.str zs[j + 1] :: ys.map Val.str)), none]) := by
        simp [small_line, q_nil, exL, exS, evE, evL, evI, evT, evTAnd, evTOr, evAnd, evOr, evIfs, evArgs, lendIx, lendOut, lendBack, forGo, R.bind_ok, R.bind_exc, R.bind_stuck, q_addI, q_addS, q_addL, q_addT, q_sub, q_mul, q_fdiv, q_mod, q_pow, q_neg, q_ltI, q_ltS, q_lt', q_le, q_gt, q_ge, q_eqI, q_neI, q_eqS, q_neS, q_eqB, q_neB, q_isN, q_notN, q_isi, q_lst, q_tup, q_dnK, q_dnT, q_ixL, q_ixT, q_ixC, q_ixS, r_ixL, r_ixT, r_ixS, q_lenL, q_lenT, q_lenC, q_lenD, q_lenS, q_listL, q_listT, q_listD, q_tupOf, q_max, q_min, q_intB, q_intI, q_all, q_any, q_slL, q_slT, q_slS, q_inS1, q_ninS1, CV.val, Val.truth, Tgt.bind, Tgt.bindL, storable, fz?, Def.outs, Val.noOwn, noOwnL, pureL, ME.pure, IK.items, IK.stays, List.range_succ, List.replicate, MOp.sem, isLst, parts?, s10__law_chain, lt1, lt2, nys, hly3, hs2, ruleV, tupS]
      exact (exL_step x6').trans ((exL_step x7').trans ((exL_step x9).trans (exL_step x10)))
  · have x9 : exS T__law_chain s9__law_chain [some w1, some (.lst false (zs.map Val.str)), x2, x3, some (.lst true (rs.map ruleV)), some (.int j), some (.str wd), some (.lst false [.str zs[j + 1]]), none] = .ok (none, [some w1, some (.lst false (zs.map Val.str)), x2, x3, some (.lst true (rs.map ruleV)), some (.int j), some (.str wd), some (.lst false [.str zs[j + 1]]), none]) := by
      simp [small_line, q_nil, exL, exS, evE, evL, evI, evT, evTAnd, evTOr, evAnd, evOr, evIfs, evArgs, lendIx, lendOut, lendBack, forGo, R.bind_ok, R.bind_exc, R.bind_stuck, q_addI, q_addS, q_addL, q_addT, q_sub, q_mul, q_fdiv, q_mod, q_pow, q_neg, q_ltI, q_ltS, q_lt', q_le, q_gt, q_ge, q_eqI, q_neI, q_eqS, q_neS, q_eqB, q_neB, q_isN, q_notN, q_isi, q_lst, q_tup, q_dnK, q_dnT, q_ixL, q_ixT, q_ixC, q_ixS, r_ixL, r_ixT, r_ixS, q_lenL, q_lenT, q_lenC, q_lenD, q_lenS, q_listL, q_listT, q_listD, q_tupOf, q_max, q_min, q_intB, q_intI, q_all, q_any, q_slL, q_slT, q_slS, q_inS1, q_ninS1, CV.val, Val.truth, Tgt.bind, Tgt.bindL, storable, fz?, Def.outs, Val.noOwn, noOwnL, pureL, ME.pure, IK.items, IK.stays, List.range_succ, List.replicate, MOp.sem, isLst, parts?, s9__law_chain, e_row, e_first, okw, o4, o5, c.1, c.2]
    refine ⟨wd, [zs[j + 1]], w1, some (.str wd), some (.lst false [.str zs[j + 1]]), .inr (.inr (.inr (.inr ⟨c2, by simp, fun p hp => ?_⟩))), a3.mono, ?_⟩
    · rw [List.mem_singleton.mp hp]; exact hN _ hm
    · have x10 : exS T__law_chain s10__law_chain [some w1, some (.lst false (zs.map Val.str)), x2, x3, some (.lst true (rs.map ruleV)), some (.int j), some (.str wd), some (.lst false [.str zs[j + 1]]), none] = .ok (none, [some w1, some (.lst false (zs.map Val.str)), x2, x3, some (.lst true ((rs ++ [(zs[j], wd, [zs[j + 1]])]).map ruleV)), some (.int j), some (.str wd), some (.lst false [.str zs[j + 1]]), none]) := by
        simp [small_line, q_nil, exL, exS, evE, evL, evI, evT, evTAnd, evTOr, evAnd, evOr, evIfs, evArgs, lendIx, lendOut, lendBack, forGo, R.bind_ok, R.bind_exc, R.bind_stuck, q_addI, q_addS, q_addL, q_addT, q_sub, q_mul, q_fdiv, q_mod, q_pow, q_neg, q_ltI, q_ltS, q_lt', q_le, q_gt, q_ge, q_eqI, q_neI, q_eqS, q_neS, q_eqB, q_neB, q_isN, q_notN, q_isi, q_lst, q_tup, q_dnK, q_dnT, q_ixL, q_ixT, q_ixC, q_ixS, r_ixL, r_ixT, r_ixS, q_lenL, q_lenT, q_lenC, q_lenD, q_lenS, q_listL, q_listT, q_listD, q_tupOf, q_max, q_min, q_intB, q_intI, q_all, q_any, q_slL, q_slT, q_slS, q_inS1, q_ninS1, CV.val, Val.truth, Tgt.bind, Tgt.bindL, storable, fz?, Def.outs, Val.noOwn, noOwnL, pureL, ME.pure, IK.items, IK.stays, List.range_succ, List.replicate, MOp.sem, isLst, parts?, s10__law_chain, lt1, lt2, hs2, ruleV, tupS]
      exact (exL_step x6').trans ((exL_step x7').trans ((exL_step x9).trans (exL_step x10)))
theorem chain_loop {w : Val} {n : Nat} {zs : List Str} {r0 : R3} (hb : Bag w n) (hn : n ≤ 500000) (hN : ∀ z ∈ zs, IsName z) (hz : zs.length ≤ 30) (hne : zs ≠ []) (h0 : IsRule r0) {x2 x3 : Option Val} :
    ∃ (rs : List R3) (w' : Val) (y5 y6 y7 : Option Val), (∀ r ∈ rs, IsRule r) ∧ (rs.map (·.1)) = r0.1 :: zs.take (zs.length - 1) ∧ Bag w' (n + 300) ∧
      exS T__law_chain s11__law_chain [some w, some (.lst false (zs.map Val.str)), x2, x3, some (.lst true ([r0].map ruleV)), none, none, none, none] = .ok (none, [some w', some (.lst false (zs.map Val.str)), x2, x3, some (.lst true (rs.map ruleV)), y5, y6, y7, none]) := by
  have hpos := List.length_pos_iff.mpr hne
  obtain ⟨envF, q1, w6, rs, y5, y6, y7, rfl, hb6, hrn, hrr⟩ := forGo_ix (bt := g0__law_chain.bind) (b := exL T__law_chain b5__law_chain)
    (fun i env => ∃ w' rs y5 y6 y7, env = [some w', some (.lst false (zs.map Val.str)), x2, x3, some (.lst true (rs.map ruleV)), y5, y6, y7, none] ∧ Bag w' (n + 10 * i) ∧ (rs.map (·.1)) = r0.1 :: zs.take i ∧ ∀ r ∈ rs, IsRule r)
    (items := rangeV 0 (zs.length - 1)) (i := 0) (env := [some w, some (.lst false (zs.map Val.str)), x2, x3, some (.lst true ([r0].map ruleV)), none, none, none, none]) (by
      rintro j x env hx ⟨w', rs, y5, y6, y7, rfl, h1, h2, h3⟩
      obtain ⟨hj, rfl⟩ := rangeV_at hx
      have hlr : rs.length ≤ 100 := by
        have := congrArg List.length h2
        rw [List.length_map, List.length_cons, List.length_take] at this
        omega
      obtain ⟨wd, ps, w'', z6, z7, f1, f3, f4⟩ := chain_turn (j := j) (rs := rs) h1 (by omega) (by omega) (by omega) hN hlr (x2 := x2) (x3 := x3) (x6 := y6) (x7 := y7)
      rw [show (0 : Int) + (j : Int) = (j : Int) by omega]
      refine ⟨_, _, rfl, f4, w'', _, _, _, _, rfl, f3.mono, ?_, fun r hr => ?_⟩
      · rw [show 0 + j + 1 = j + 1 by omega, take_snoc (by omega), List.map_append, h2]; simp
      · rcases List.mem_append.mp hr with h | h
        · exact h3 r h
        · rw [List.mem_singleton.mp h]; exact ⟨hN _ (List.getElem_mem _), f1⟩) ⟨w, [r0], none, none, none, rfl, hb.mono, rfl, fun r hr => by rw [List.mem_singleton.mp hr]; exact h0⟩
  rw [rangeV_len, Nat.zero_add] at hrn hb6
  have hsm : small62 ((zs.length : Int) - 1) = true := small62_of
  refine ⟨rs, w6, y5, y6, y7, hrr, hrn, hb6.mono, ?_⟩
  refine for_range1 (j := (zs.length : Int) - 1) (u := true) ?_ hsm (by rw [show ((zs.length : Int) - 1).toNat = zs.length - 1 by omega]; exact q1)
  simp [small_line, q_nil, exL, exS, evE, evL, evI, evT, evTAnd, evTOr, evAnd, evOr, evIfs, evArgs, lendIx, lendOut, lendBack, forGo, R.bind_ok, R.bind_exc, R.bind_stuck, q_addI, q_addS, q_addL, q_addT, q_sub, q_mul, q_fdiv, q_mod, q_pow, q_neg, q_ltI, q_ltS, q_lt', q_le, q_gt, q_ge, q_eqI, q_neI, q_eqS, q_neS, q_eqB, q_neB, q_isN, q_notN, q_isi, q_lst, q_tup, q_dnK, q_dnT, q_ixL, q_ixT, q_ixC, q_ixS, r_ixL, r_ixT, r_ixS, q_lenL, q_lenT, q_lenC, q_lenD, q_lenS, q_listL, q_listT, q_listD, q_tupOf, q_max, q_min, q_intB, q_intI, q_all, q_any, q_slL, q_slT, q_slS, q_inS1, q_ninS1, CV.val, Val.truth, Tgt.bind, Tgt.bindL, storable, fz?, Def.outs, Val.noOwn, noOwnL, pureL, ME.pure, IK.items, IK.stays, List.range_succ, List.replicate, MOp.sem, isLst, parts?, ]
theorem rot_nd {zs : List Str} (hne : zs ≠ []) (h : zs.Nodup) : (zs[zs.length - 1]'(by have := List.length_pos_iff.mpr hne; omega) :: zs.take (zs.length - 1)).Nodup := by
  have hpos := List.length_pos_iff.mpr hne
  have e := take_snoc (l := zs) (i := zs.length - 1) (by omega)
  rw [show zs.length - 1 + 1 = zs.length by omega, List.take_length] at e
  have p : (zs[zs.length - 1]'(by omega) :: zs.take (zs.length - 1)).Perm zs := by
    conv => rhs; rw [e]
    exact (List.perm_append_singleton _ _).symm
  exact p.nodup_iff.mpr h
theorem chain_ok {w : Val} {n : Nat} (hb : Bag w n) (hn : n ≤ 300000) : ∃ (rs : List R3) (w' : Val), IsBook rs ∧ Bag w' (n + 30000) ∧ d__law_chain.run T__law_chain [w] = .ok (.lst true (rs.map ruleV)) [some w'] := by
  obtain ⟨zs, w1, last, bk, wd, ps, hnd, hN, hz, hne, hf, hb1, e1⟩ := chain_h1 hb hn
  have hpos := List.length_pos_iff.mpr hne
  have hlast : IsName (zs[zs.length - 1]'(by omega)) := hN _ (List.getElem_mem _)
  obtain ⟨rs, w2, y5, y6, y7, hrr, hrn, hb2, e2⟩ := chain_loop (r0 := (zs[zs.length - 1]'(by omega), wd, ps)) hb1 (by omega) hN hz hne ⟨hlast, hf⟩ (x2 := some (tupS (wd :: ps))) (x3 := some (.str bk))
  have nd : (rs.map (·.1)).Nodup := by rw [hrn]; exact rot_nd hne hnd
  have hlr : rs.length ≤ 31 := by
    have := congrArg List.length hrn
    rw [List.length_map, List.length_cons, List.length_take] at this
    omega
  have hsr := p_sortR (o := true) (u := false) hrr nd
  refine ⟨sortR rs, w2, sortR_book hrr nd hlr, hb2.mono, ?_⟩
  have nt := noOwn_tupS (wd :: ps)
  have hix := q_ixLm (xs := zs.map Val.str) (o := false) (u := false) (v := true) (by simpa using hne)
  have x5 : exS T__law_chain s5__law_chain [some w1, some (.lst false (zs.map Val.str)), some (tupS (wd :: ps)), some (.str bk), none, none, none, none, none] = .ok (none, [some w1, some (.lst false (zs.map Val.str)), some (tupS (wd :: ps)), some (.str bk), some (.lst true ([(zs[zs.length - 1]'(by omega), wd, ps)].map ruleV)), none, none, none, none]) := by
    simp [small_line, q_nil, exL, exS, evE, evL, evI, evT, evTAnd, evTOr, evAnd, evOr, evIfs, evArgs, lendIx, lendOut, lendBack, forGo, R.bind_ok, R.bind_exc, R.bind_stuck, q_addI, q_addS, q_addL, q_addT, q_sub, q_mul, q_fdiv, q_mod, q_pow, q_neg, q_ltI, q_ltS, q_lt', q_le, q_gt, q_ge, q_eqI, q_neI, q_eqS, q_neS, q_eqB, q_neB, q_isN, q_notN, q_isi, q_lst, q_tup, q_dnK, q_dnT, q_ixL, q_ixT, q_ixC, q_ixS, r_ixL, r_ixT, r_ixS, q_lenL, q_lenT, q_lenC, q_lenD, q_lenS, q_listL, q_listT, q_listD, q_tupOf, q_max, q_min, q_intB, q_intI, q_all, q_any, q_slL, q_slT, q_slS, q_inS1, q_ninS1, CV.val, Val.truth, Tgt.bind, Tgt.bindL, storable, fz?, Def.outs, Val.noOwn, noOwnL, pureL, ME.pure, IK.items, IK.stays, List.range_succ, List.replicate, MOp.sem, isLst, parts?, s5__law_chain, hix, nt, ruleV]
  have x12 : exS T__law_chain s12__law_chain [some w2, some (.lst false (zs.map Val.str)), some (tupS (wd :: ps)), some (.str bk), some (.lst true (rs.map ruleV)), y5, y6, y7, none] = .ok (some (.lst true ((sortR rs).map ruleV)), [some w2, some (.lst false (zs.map Val.str)), some (tupS (wd :: ps)), some (.str bk), some (.lst true (rs.map ruleV)), y5, y6, y7, none]) := by
    simp [small_line, q_nil, exL, exS, evE, evL, evI, evT, evTAnd, evTOr, evAnd, evOr, evIfs, evArgs, lendIx, lendOut, lendBack, forGo, R.bind_ok, R.bind_exc, R.bind_stuck, q_addI, q_addS, q_addL, q_addT, q_sub, q_mul, q_fdiv, q_mod, q_pow, q_neg, q_ltI, q_ltS, q_lt', q_le, q_gt, q_ge, q_eqI, q_neI, q_eqS, q_neS, q_eqB, q_neB, q_isN, q_notN, q_isi, q_lst, q_tup, q_dnK, q_dnT, q_ixL, q_ixT, q_ixC, q_ixS, r_ixL, r_ixT, r_ixS, q_lenL, q_lenT, q_lenC, q_lenD, q_lenS, q_listL, q_listT, q_listD, q_tupOf, q_max, q_min, q_intB, q_intI, q_all, q_any, q_slL, q_slT, q_slS, q_inS1, q_ninS1, CV.val, Val.truth, Tgt.bind, Tgt.bindL, storable, fz?, Def.outs, Val.noOwn, noOwnL, pureL, ME.pure, IK.items, IK.stays, List.range_succ, List.replicate, MOp.sem, isLst, parts?, s12__law_chain, hsr, p_rcSD]
  exact run_ret (d := d__law_chain) (xs := [w]) (env0 := [some w, none, none, none, none, none, none, none, none]) rfl rfl (e1.trans ((exL_step x5).trans ((exL_step e2).trans (exL_end x12))))
end Law

set_option Elab.async false
set_option maxRecDepth 100000
set_option maxHeartbeats 0
set_option linter.all false
namespace Law
open PySem L2 Mn
/-! what a form may begin with -/
def upto (F : List Str) : List Str → List Str
  | [] => []
  | p :: r => if p ∈ F then p :: upto F r else [p]
def fpL (F : List Str) (w : Str) (ps : List Str) : List Str := if w = kRow then upto F ps else partsL w ps
theorem upto_sub {F : List Str} : ∀ {ps : List Str}, ∀ z ∈ upto F ps, z ∈ ps
  | [], z, h => by cases h
  | p :: r, z, h => by
    simp only [upto] at h
    split at h
    · rcases List.mem_cons.mp h with rfl | h
      · simp
      · exact List.mem_cons_of_mem _ (upto_sub z h)
    · rw [List.mem_singleton.mp h]; simp
theorem upto_len {F : List Str} : ∀ {ps : List Str}, (upto F ps).length ≤ ps.length
  | [] => Nat.le_refl _
  | p :: r => by
    simp only [upto]
    split
    · have := upto_len (F := F) (ps := r)
      simp only [List.length_cons]; omega
    · simp
theorem fpL_sub {F : List Str} {w : Str} {ps : List Str} : ∀ z ∈ fpL F w ps, z ∈ ps := fun z h => by
  unfold fpL at h
  split at h
  · exact upto_sub z h
  · unfold partsL at h
    split at h
    · cases h
    · exact h
theorem fpL_len {F : List Str} {w : Str} {ps : List Str} : (fpL F w ps).length ≤ ps.length := by
  unfold fpL
  split
  · exact upto_len
  · unfold partsL
    split
    · simp
    · exact Nat.le_refl _
theorem upto_congr {F G : List Str} (h : ∀ z, z ∈ F ↔ z ∈ G) : ∀ ps, upto F ps = upto G ps
  | [] => rfl
  | p :: r => by
    simp only [upto, upto_congr h r]
    by_cases c : p ∈ F
    · rw [if_pos c, if_pos ((h p).mp c)]
    · rw [if_neg c, if_neg fun q => c ((h p).mpr q)]
theorem upto_take {F : List Str} : ∀ {ps : List Str} {i : Nat} (hi : i < ps.length), (∀ j (h : j < i), ps[j]'(by omega) ∈ F) → (i + 1 = ps.length ∨ ¬ ps[i] ∈ F) → upto F ps = ps.take (i + 1)
  | [], i, hi, _, _ => by simp at hi
  | p :: r, 0, hi, h1, h2 => by
    simp only [upto]
    split
    · rename_i c
      rcases h2 with h2 | h2
      · have : r = [] := List.length_eq_zero_iff.mp (by rw [List.length_cons] at h2; omega)
        subst this; rfl
      · exact absurd c h2
    · rfl
  | p :: r, i + 1, hi, h1, h2 => by
    have c : p ∈ F := h1 0 (by omega)
    have ih := upto_take (F := F) (ps := r) (i := i) (by simpa using hi) (fun j h => h1 (j + 1) (by omega)) (by simpa using h2)
    simp only [upto, if_pos c, ih, List.take_succ_cons]
/-! the program's -/
theorem fp_loop {T : Tbl} {fm : Option Val} {F : List Str} {o : Bool} : ∀ {ps : List Str} {acc : List Str} {x3 : Option Val}, (∀ p ∈ ps, PyData.strOk p = true) → acc.length + ps.length ≤ 1000 →
    ∃ y3, forGo g0_first_parts.bind (exL T b3_first_parts) (ps.map Val.str) [fm, some (.dK o (dset F)), some (.lst true (acc.map Val.str)), x3] = .ok (none, [fm, some (.dK o (dset F)), some (.lst true ((acc ++ upto F ps).map Val.str)), y3]) ∨
      forGo g0_first_parts.bind (exL T b3_first_parts) (ps.map Val.str) [fm, some (.dK o (dset F)), some (.lst true (acc.map Val.str)), x3] = .ok (some (.lst true ((acc ++ upto F ps).map Val.str)), [fm, some (.dK o (dset F)), none, y3])
  | [], acc, x3, _, _ => ⟨x3, .inl (by simp [forGo, upto])⟩
  | p :: r, acc, x3, hk, hl => by
    have hs := big_line
    have h1 : acc.length < sizeLine := by simp at hl; omega
    by_cases c : p ∈ F
    · obtain ⟨y3, h⟩ := fp_loop (T := T) (fm := fm) (F := F) (o := o) (ps := r) (acc := acc ++ [p]) (x3 := some (.str p)) (fun q hq => hk q (by simp [hq])) (by simp at hl ⊢; omega)
      have e1 : exL T b3_first_parts [fm, some (.dK o (dset F)), some (.lst true (acc.map Val.str)), some (.str p)] = .ok (none, [fm, some (.dK o (dset F)), some (.lst true ((acc ++ [p]).map Val.str)), some (.str p)]) := by
        simp [small_line, q_nil, exL, exS, evE, evL, evI, evT, evTAnd, evTOr, evAnd, evOr, evIfs, evArgs, lendIx, lendOut, lendBack, forGo, R.bind_ok, R.bind_exc, R.bind_stuck, q_addI, q_addS, q_addL, q_addT, q_sub, q_mul, q_fdiv, q_mod, q_pow, q_neg, q_ltI, q_ltS, q_lt', q_le, q_gt, q_ge, q_eqI, q_neI, q_eqS, q_neS, q_eqB, q_neB, q_isN, q_notN, q_isi, q_lst, q_tup, q_dnK, q_dnT, q_ixL, q_ixT, q_ixC, q_ixS, r_ixL, r_ixT, r_ixS, q_lenL, q_lenT, q_lenC, q_lenD, q_lenS, q_listL, q_listT, q_listD, q_tupOf, q_max, q_min, q_intB, q_intI, q_all, q_any, q_slL, q_slT, q_slS, q_inS1, q_ninS1, CV.val, Val.truth, Tgt.bind, Tgt.bindL, storable, fz?, Def.outs, Val.noOwn, noOwnL, pureL, ME.pure, IK.items, IK.stays, List.range_succ, List.replicate, MOp.sem, isLst, parts?, b3_first_parts, b2_first_parts, b1_first_parts, s3_first_parts, s4_first_parts, s5_first_parts, q_ninDS, h1, c]
      have e2 : acc ++ upto F (p :: r) = acc ++ [p] ++ upto F r := by simp [upto, c]
      refine ⟨y3, ?_⟩
      rw [List.map_cons, e2]
      simp only [forGo]
      show (match exL T b3_first_parts [fm, some (.dK o (dset F)), some (.lst true (acc.map Val.str)), some (.str p)] with | .ok (none, env2) => _ | r => r) = _ ∨ (match exL T b3_first_parts [fm, some (.dK o (dset F)), some (.lst true (acc.map Val.str)), some (.str p)] with | .ok (none, env2) => _ | r => r) = _
      rw [e1]
      exact h
    · refine ⟨some (.str p), .inr ?_⟩
      have e1 : exL T b3_first_parts [fm, some (.dK o (dset F)), some (.lst true (acc.map Val.str)), some (.str p)] = .ok (some (.lst true ((acc ++ [p]).map Val.str)), [fm, some (.dK o (dset F)), none, some (.str p)]) := by
        simp [small_line, q_nil, exL, exS, evE, evL, evI, evT, evTAnd, evTOr, evAnd, evOr, evIfs, evArgs, lendIx, lendOut, lendBack, forGo, R.bind_ok, R.bind_exc, R.bind_stuck, q_addI, q_addS, q_addL, q_addT, q_sub, q_mul, q_fdiv, q_mod, q_pow, q_neg, q_ltI, q_ltS, q_lt', q_le, q_gt, q_ge, q_eqI, q_neI, q_eqS, q_neS, q_eqB, q_neB, q_isN, q_notN, q_isi, q_lst, q_tup, q_dnK, q_dnT, q_ixL, q_ixT, q_ixC, q_ixS, r_ixL, r_ixT, r_ixS, q_lenL, q_lenT, q_lenC, q_lenD, q_lenS, q_listL, q_listT, q_listD, q_tupOf, q_max, q_min, q_intB, q_intI, q_all, q_any, q_slL, q_slT, q_slS, q_inS1, q_ninS1, CV.val, Val.truth, Tgt.bind, Tgt.bindL, storable, fz?, Def.outs, Val.noOwn, noOwnL, pureL, ME.pure, IK.items, IK.stays, List.range_succ, List.replicate, MOp.sem, isLst, parts?, b3_first_parts, b2_first_parts, b1_first_parts, s3_first_parts, s4_first_parts, s5_first_parts, q_ninDS, h1, c]
      have e2 : acc ++ upto F (p :: r) = acc ++ [p] := by simp [upto, c]
      rw [List.map_cons, e2]
      simp only [forGo]
      show (match exL T b3_first_parts [fm, some (.dK o (dset F)), some (.lst true (acc.map Val.str)), some (.str p)] with | .ok (none, env2) => _ | r => r) = _
      rw [e1]
theorem first_ok {w : Str} {ps F : List Str} {o : Bool} (h : IsForm w ps) : d_first_parts.run T_first_parts [tupS (w :: ps), .dK o (dset F)] = .ok (.lst true ((fpL F w ps).map Val.str)) [none, some (.dK o (dset F))] := by
  have hl := h.len
  have okw := h.okw
  have okp := h.okp
  have o4 : PyData.strOk kRow = true := by decide +kernel
  have nt := noOwn_tupS (w :: ps)
  have ns := noOwn_strs ps
  have e1 := parts_ok (w := w) (ps := ps) (by omega)
  by_cases c : w = kRow
  · subst c
    rw [partsL_row] at e1
    have ef : fpL F kRow ps = upto F ps := if_pos rfl
    rw [ef]
    obtain ⟨y3, q⟩ := fp_loop (T := T_first_parts) (fm := some (tupS (kRow :: ps))) (F := F) (o := o) (ps := ps) (acc := []) (x3 := none) okp (by simp; omega)
    have x1 : exS T_first_parts s1_first_parts [some (tupS (kRow :: ps)), some (.dK o (dset F)), none, none] = .ok (none, [some (tupS (kRow :: ps)), some (.dK o (dset F)), none, none]) := by
      simp [small_line, q_nil, exL, exS, evE, evL, evI, evT, evTAnd, evTOr, evAnd, evOr, evIfs, evArgs, lendIx, lendOut, lendBack, forGo, R.bind_ok, R.bind_exc, R.bind_stuck, q_addI, q_addS, q_addL, q_addT, q_sub, q_mul, q_fdiv, q_mod, q_pow, q_neg, q_ltI, q_ltS, q_lt', q_le, q_gt, q_ge, q_eqI, q_neI, q_eqS, q_neS, q_eqB, q_neB, q_isN, q_notN, q_isi, q_lst, q_tup, q_dnK, q_dnT, q_ixL, q_ixT, q_ixC, q_ixS, r_ixL, r_ixT, r_ixS, q_lenL, q_lenT, q_lenC, q_lenD, q_lenS, q_listL, q_listT, q_listD, q_tupOf, q_max, q_min, q_intB, q_intI, q_all, q_any, q_slL, q_slT, q_slS, q_inS1, q_ninS1, CV.val, Val.truth, Tgt.bind, Tgt.bindL, storable, fz?, Def.outs, Val.noOwn, noOwnL, pureL, ME.pure, IK.items, IK.stays, List.range_succ, List.replicate, MOp.sem, isLst, parts?, s1_first_parts, tupS_ix0, e_row, o4]
    have x2 : exS T_first_parts s2_first_parts [some (tupS (kRow :: ps)), some (.dK o (dset F)), none, none] = .ok (none, [some (tupS (kRow :: ps)), some (.dK o (dset F)), some (.lst true []), none]) := by
      simp [small_line, q_nil, exL, exS, evE, evL, evI, evT, evTAnd, evTOr, evAnd, evOr, evIfs, evArgs, lendIx, lendOut, lendBack, forGo, R.bind_ok, R.bind_exc, R.bind_stuck, q_addI, q_addS, q_addL, q_addT, q_sub, q_mul, q_fdiv, q_mod, q_pow, q_neg, q_ltI, q_ltS, q_lt', q_le, q_gt, q_ge, q_eqI, q_neI, q_eqS, q_neS, q_eqB, q_neB, q_isN, q_notN, q_isi, q_lst, q_tup, q_dnK, q_dnT, q_ixL, q_ixT, q_ixC, q_ixS, r_ixL, r_ixT, r_ixS, q_lenL, q_lenT, q_lenC, q_lenD, q_lenS, q_listL, q_listT, q_listD, q_tupOf, q_max, q_min, q_intB, q_intI, q_all, q_any, q_slL, q_slT, q_slS, q_inS1, q_ninS1, CV.val, Val.truth, Tgt.bind, Tgt.bindL, storable, fz?, Def.outs, Val.noOwn, noOwnL, pureL, ME.pure, IK.items, IK.stays, List.range_succ, List.replicate, MOp.sem, isLst, parts?, s2_first_parts]
    have x6 : exS T_first_parts s6_first_parts [some (tupS (kRow :: ps)), some (.dK o (dset F)), some (.lst true []), none] = forGo g0_first_parts.bind (exL T_first_parts b3_first_parts) (ps.map Val.str) [some (tupS (kRow :: ps)), some (.dK o (dset F)), some (.lst true (([] : List Str).map Val.str)), none] := by
      simp [small_line, q_nil, exL, exS, evE, evL, evI, evT, evTAnd, evTOr, evAnd, evOr, evIfs, evArgs, lendIx, lendOut, lendBack, forGo, R.bind_ok, R.bind_exc, R.bind_stuck, q_addI, q_addS, q_addL, q_addT, q_sub, q_mul, q_fdiv, q_mod, q_pow, q_neg, q_ltI, q_ltS, q_lt', q_le, q_gt, q_ge, q_eqI, q_neI, q_eqS, q_neS, q_eqB, q_neB, q_isN, q_notN, q_isi, q_lst, q_tup, q_dnK, q_dnT, q_ixL, q_ixT, q_ixC, q_ixS, r_ixL, r_ixT, r_ixS, q_lenL, q_lenT, q_lenC, q_lenD, q_lenS, q_listL, q_listT, q_listD, q_tupOf, q_max, q_min, q_intB, q_intI, q_all, q_any, q_slL, q_slT, q_slS, q_inS1, q_ninS1, CV.val, Val.truth, Tgt.bind, Tgt.bindL, storable, fz?, Def.outs, Val.noOwn, noOwnL, pureL, ME.pure, IK.items, IK.stays, List.range_succ, List.replicate, MOp.sem, isLst, parts?, s6_first_parts, tf0_first_parts, e1, ns, nt, -forGo]
    rcases q with q | q
    · rw [q] at x6
      have x7 : exS T_first_parts s7_first_parts [some (tupS (kRow :: ps)), some (.dK o (dset F)), some (.lst true (([] ++ upto F ps).map Val.str)), y3] = .ok (some (.lst true ((upto F ps).map Val.str)), [some (tupS (kRow :: ps)), some (.dK o (dset F)), none, y3]) := by
        simp [small_line, q_nil, exL, exS, evE, evL, evI, evT, evTAnd, evTOr, evAnd, evOr, evIfs, evArgs, lendIx, lendOut, lendBack, forGo, R.bind_ok, R.bind_exc, R.bind_stuck, q_addI, q_addS, q_addL, q_addT, q_sub, q_mul, q_fdiv, q_mod, q_pow, q_neg, q_ltI, q_ltS, q_lt', q_le, q_gt, q_ge, q_eqI, q_neI, q_eqS, q_neS, q_eqB, q_neB, q_isN, q_notN, q_isi, q_lst, q_tup, q_dnK, q_dnT, q_ixL, q_ixT, q_ixC, q_ixS, r_ixL, r_ixT, r_ixS, q_lenL, q_lenT, q_lenC, q_lenD, q_lenS, q_listL, q_listT, q_listD, q_tupOf, q_max, q_min, q_intB, q_intI, q_all, q_any, q_slL, q_slT, q_slS, q_inS1, q_ninS1, CV.val, Val.truth, Tgt.bind, Tgt.bindL, storable, fz?, Def.outs, Val.noOwn, noOwnL, pureL, ME.pure, IK.items, IK.stays, List.range_succ, List.replicate, MOp.sem, isLst, parts?, s7_first_parts]
      exact run_ret (d := d_first_parts) (xs := [tupS (kRow :: ps), .dK o (dset F)]) (env0 := [some (tupS (kRow :: ps)), some (.dK o (dset F)), none, none]) rfl rfl ((exL_step x1).trans ((exL_step x2).trans ((exL_step x6).trans (exL_end x7))))
    · rw [q] at x6
      exact run_ret (d := d_first_parts) (xs := [tupS (kRow :: ps), .dK o (dset F)]) (env0 := [some (tupS (kRow :: ps)), some (.dK o (dset F)), none, none]) rfl rfl ((exL_step x1).trans ((exL_step x2).trans (exL_end x6)))
  · have ef : fpL F w ps = partsL w ps := if_neg c
    rw [ef]
    have x1 : exS T_first_parts s1_first_parts [some (tupS (w :: ps)), some (.dK o (dset F)), none, none] = .ok (some (.lst true ((partsL w ps).map Val.str)), [some (tupS (w :: ps)), some (.dK o (dset F)), none, none]) := by
      simp [small_line, q_nil, exL, exS, evE, evL, evI, evT, evTAnd, evTOr, evAnd, evOr, evIfs, evArgs, lendIx, lendOut, lendBack, forGo, R.bind_ok, R.bind_exc, R.bind_stuck, q_addI, q_addS, q_addL, q_addT, q_sub, q_mul, q_fdiv, q_mod, q_pow, q_neg, q_ltI, q_ltS, q_lt', q_le, q_gt, q_ge, q_eqI, q_neI, q_eqS, q_neS, q_eqB, q_neB, q_isN, q_notN, q_isi, q_lst, q_tup, q_dnK, q_dnT, q_ixL, q_ixT, q_ixC, q_ixS, r_ixL, r_ixT, r_ixS, q_lenL, q_lenT, q_lenC, q_lenD, q_lenS, q_listL, q_listT, q_listD, q_tupOf, q_max, q_min, q_intB, q_intI, q_all, q_any, q_slL, q_slT, q_slS, q_inS1, q_ninS1, CV.val, Val.truth, Tgt.bind, Tgt.bindL, storable, fz?, Def.outs, Val.noOwn, noOwnL, pureL, ME.pure, IK.items, IK.stays, List.range_succ, List.replicate, MOp.sem, isLst, parts?, s1_first_parts, b0_first_parts, s0_first_parts, tf0_first_parts, tupS_ix0, e_row, okw, o4, c, e1, nt]
    exact run_ret (d := d_first_parts) (xs := [tupS (w :: ps), .dK o (dset F)]) (env0 := [some (tupS (w :: ps)), some (.dK o (dset F)), none, none]) rfl rfl (exL_end x1)
end Law

set_option Elab.async false
set_option maxRecDepth 100000
set_option maxHeartbeats 0
set_option linter.all false
namespace Law
open PySem L2 Mn
/-! the law's -/
theorem in3L {w : Str} {o u v : Bool} (h : PyData.strOk w = true) : inO.sem [(.str w, u), (.lst o [.str kNone, .str kAny, .str kSigns], v)] = some (.bl (decide (w = kNone ∨ w = kAny ∨ w = kSigns)), true) := by
  have := q_inLS (o := o) (u := u) (v := v) (z := w) (zs := [kNone, kAny, kSigns]) h (by decide +kernel)
  simpa using this
theorem lb_while {w : Str} {ps F : List Str} {o : Bool} (hF : ∀ z ∈ F, PyData.strOk z = true) (hp : ∀ z ∈ ps, PyData.strOk z = true) (h1 : 1 ≤ ps.length) (h8 : ps.length ≤ 8) :
    exS T__law_begins s5__law_begins [some (tupS (w :: ps)), some (.lst o (F.map Val.str)), some (.int 2)] = .ok (none, [some (tupS (w :: ps)), some (.lst o (F.map Val.str)), some (.int (1 + (upto F ps).length))]) := by
  have hs := big_line
  obtain ⟨envF, q1, q2⟩ := whileGo_rel (c := evT T__law_begins t0__law_begins) (b := exL T__law_begins b1__law_begins)
    (fun k env => ∃ i : Nat, env = [some (tupS (w :: ps)), some (.lst o (F.map Val.str)), some (.int (2 + i))] ∧ k + i = ps.length ∧ ∃ hi : i < ps.length, ∀ j (h : j < i), ps[j]'(by omega) ∈ F)
    (fun env => env = [some (tupS (w :: ps)), some (.lst o (F.map Val.str)), some (.int (1 + (upto F ps).length))]) (by
      rintro k env ⟨i, rfl, hk, hi, hj⟩
      have hlen : (tupS (w :: ps)) = .tup ((w :: ps).map Val.str) := rfl
      have hix : ∀ u v, ixO.sem [(.tup ((w :: ps).map Val.str), u), (.int (2 + (i : Int) - 1), v)] = some (.str ps[i], false) := by
        intro u v
        rw [q_ixT (by omega) (by simp; omega)]
        have e : (2 + (i : Int) - 1).toNat = i + 1 := by omega
        simp [e]
      have hin := fun o u v => q_inLS (o := o) (u := u) (v := v) (hp _ (List.getElem_mem hi)) hF
      have hll : ((w :: ps).map Val.str).length = ps.length + 1 := by simp
      have nt : noOwnL ((w :: ps).map Val.str) = true := noOwn_strs _
      by_cases c : i + 1 < ps.length
      · have c1 : 2 + (i : Int) < ((ps.length + 1 : Nat) : Int) := by omega
        by_cases c2 : ps[i] ∈ F
        · left
          refine ⟨[some (tupS (w :: ps)), some (.lst o (F.map Val.str)), some (.int (2 + i))], _, k - 1, ?_, ?_, ⟨i + 1, rfl, by omega, c, fun j h => ?_⟩, by omega⟩
          · rw [hlen]
            generalize (w :: ps).map Val.str = xs at hix hll nt ⊢
            have c3 : 2 + (i : Int) < (xs.length : Int) := by omega
            simp [small_line, q_nil, exL, exS, evE, evL, evI, evT, evTAnd, evTOr, evAnd, evOr, evIfs, evArgs, lendIx, lendOut, lendBack, forGo, R.bind_ok, R.bind_exc, R.bind_stuck, q_addI, q_addS, q_addL, q_addT, q_sub, q_mul, q_fdiv, q_mod, q_pow, q_neg, q_ltI, q_ltS, q_lt', q_le, q_gt, q_ge, q_eqI, q_neI, q_eqS, q_neS, q_eqB, q_neB, q_isN, q_notN, q_isi, q_lst, q_tup, q_dnK, q_dnT, q_ixL, q_ixT, q_ixC, q_ixS, r_ixL, r_ixT, r_ixS, q_lenL, q_lenT, q_lenC, q_lenD, q_lenS, q_listL, q_listT, q_listD, q_tupOf, q_max, q_min, q_intB, q_intI, q_all, q_any, q_slL, q_slT, q_slS, q_inS1, q_ninS1, CV.val, Val.truth, Tgt.bind, Tgt.bindL, storable, fz?, Def.outs, Val.noOwn, noOwnL, pureL, ME.pure, IK.items, IK.stays, List.range_succ, List.replicate, MOp.sem, isLst, parts?, t0__law_begins, hix, hin, c2, c3]
          · simp [small_line, q_nil, exL, exS, evE, evL, evI, evT, evTAnd, evTOr, evAnd, evOr, evIfs, evArgs, lendIx, lendOut, lendBack, forGo, R.bind_ok, R.bind_exc, R.bind_stuck, q_addI, q_addS, q_addL, q_addT, q_sub, q_mul, q_fdiv, q_mod, q_pow, q_neg, q_ltI, q_ltS, q_lt', q_le, q_gt, q_ge, q_eqI, q_neI, q_eqS, q_neS, q_eqB, q_neB, q_isN, q_notN, q_isi, q_lst, q_tup, q_dnK, q_dnT, q_ixL, q_ixT, q_ixC, q_ixS, r_ixL, r_ixT, r_ixS, q_lenL, q_lenT, q_lenC, q_lenD, q_lenS, q_listL, q_listT, q_listD, q_tupOf, q_max, q_min, q_intB, q_intI, q_all, q_any, q_slL, q_slT, q_slS, q_inS1, q_ninS1, CV.val, Val.truth, Tgt.bind, Tgt.bindL, storable, fz?, Def.outs, Val.noOwn, noOwnL, pureL, ME.pure, IK.items, IK.stays, List.range_succ, List.replicate, MOp.sem, isLst, parts?, b1__law_begins, s4__law_begins]
            omega
          · by_cases e : j = i
            · subst e; exact c2
            · exact hj j (by omega)
        · right
          refine ⟨[some (tupS (w :: ps)), some (.lst o (F.map Val.str)), some (.int (2 + i))], ?_, ?_⟩
          · rw [hlen]
            generalize (w :: ps).map Val.str = xs at hix hll nt ⊢
            have c3 : 2 + (i : Int) < (xs.length : Int) := by omega
            simp [small_line, q_nil, exL, exS, evE, evL, evI, evT, evTAnd, evTOr, evAnd, evOr, evIfs, evArgs, lendIx, lendOut, lendBack, forGo, R.bind_ok, R.bind_exc, R.bind_stuck, q_addI, q_addS, q_addL, q_addT, q_sub, q_mul, q_fdiv, q_mod, q_pow, q_neg, q_ltI, q_ltS, q_lt', q_le, q_gt, q_ge, q_eqI, q_neI, q_eqS, q_neS, q_eqB, q_neB, q_isN, q_notN, q_isi, q_lst, q_tup, q_dnK, q_dnT, q_ixL, q_ixT, q_ixC, q_ixS, r_ixL, r_ixT, r_ixS, q_lenL, q_lenT, q_lenC, q_lenD, q_lenS, q_listL, q_listT, q_listD, q_tupOf, q_max, q_min, q_intB, q_intI, q_all, q_any, q_slL, q_slT, q_slS, q_inS1, q_ninS1, CV.val, Val.truth, Tgt.bind, Tgt.bindL, storable, fz?, Def.outs, Val.noOwn, noOwnL, pureL, ME.pure, IK.items, IK.stays, List.range_succ, List.replicate, MOp.sem, isLst, parts?, t0__law_begins, hix, hin, c2, c3]
          · rw [upto_take hi hj (.inr c2), List.length_take]
            have : (2 + (i : Int)) = 1 + ((min (i + 1) ps.length : Nat) : Int) := by omega
            rw [this]
      · right
        refine ⟨[some (tupS (w :: ps)), some (.lst o (F.map Val.str)), some (.int (2 + i))], ?_, ?_⟩
        · have c1 : ¬ 2 + (i : Int) < (ps.length : Int) + 1 := by omega
          rw [hlen]
          generalize (w :: ps).map Val.str = xs at hix hll nt ⊢
          have c3 : ¬ 2 + (i : Int) < (xs.length : Int) := by omega
          simp [small_line, q_nil, exL, exS, evE, evL, evI, evT, evTAnd, evTOr, evAnd, evOr, evIfs, evArgs, lendIx, lendOut, lendBack, forGo, R.bind_ok, R.bind_exc, R.bind_stuck, q_addI, q_addS, q_addL, q_addT, q_sub, q_mul, q_fdiv, q_mod, q_pow, q_neg, q_ltI, q_ltS, q_lt', q_le, q_gt, q_ge, q_eqI, q_neI, q_eqS, q_neS, q_eqB, q_neB, q_isN, q_notN, q_isi, q_lst, q_tup, q_dnK, q_dnT, q_ixL, q_ixT, q_ixC, q_ixS, r_ixL, r_ixT, r_ixS, q_lenL, q_lenT, q_lenC, q_lenD, q_lenS, q_listL, q_listT, q_listD, q_tupOf, q_max, q_min, q_intB, q_intI, q_all, q_any, q_slL, q_slT, q_slS, q_inS1, q_ninS1, CV.val, Val.truth, Tgt.bind, Tgt.bindL, storable, fz?, Def.outs, Val.noOwn, noOwnL, pureL, ME.pure, IK.items, IK.stays, List.range_succ, List.replicate, MOp.sem, isLst, parts?, t0__law_begins, c3]
        · rw [upto_take hi hj (.inl (by omega)), List.length_take]
          have : (2 + (i : Int)) = 1 + ((min (i + 1) ps.length : Nat) : Int) := by omega
          rw [this]) (n := 1000000) (k := ps.length) (env := [some (tupS (w :: ps)), some (.lst o (F.map Val.str)), some (.int 2)]) ⟨0, rfl, by omega, by omega, nofun⟩ (by omega)
  subst q2
  exact q1
theorem upto_eq {F : List Str} : ∀ {ps : List Str}, upto F ps = ps.take (upto F ps).length
  | [] => rfl
  | p :: r => by
    simp only [upto]
    split
    · rw [List.length_cons, List.take_succ_cons, ← upto_eq]
    · rfl
theorem lawbegins_ok {w : Str} {ps F : List Str} {o : Bool} (h : IsForm w ps) (hF : ∀ z ∈ F, PyData.strOk z = true) : d__law_begins.run T__law_begins [tupS (w :: ps), .lst o (F.map Val.str)] = .ok (.lst true ((usort (fpL F w ps)).map Val.str)) [none, none] := by
  have hl := h.len
  have okw := h.okw
  have okp := h.okp
  have o4 : PyData.strOk kRow = true := by decide +kernel
  have i3 := fun o u v => in3L (o := o) (u := u) (v := v) okw
  have nt := noOwn_strs (w :: ps)
  by_cases c : w = kNone ∨ w = kAny ∨ w = kSigns
  · have ef : fpL F w ps = [] := by
      have c2 : ¬ w = kRow := by rcases c with rfl | rfl | rfl <;> decide +kernel
      rw [fpL, if_neg c2, partsL, if_pos c]
    have u0 : usort [] = [] := by simp [usort, sortS, onceS]
    rw [ef, u0]
    have x1 : exS T__law_begins s1__law_begins [some (tupS (w :: ps)), some (.lst o (F.map Val.str)), none] = .ok (some (.lst true (([] : List Str).map Val.str)), [some (tupS (w :: ps)), some (.lst o (F.map Val.str)), none]) := by
      simp [small_line, q_nil, exL, exS, evE, evL, evI, evT, evTAnd, evTOr, evAnd, evOr, evIfs, evArgs, lendIx, lendOut, lendBack, forGo, R.bind_ok, R.bind_exc, R.bind_stuck, q_addI, q_addS, q_addL, q_addT, q_sub, q_mul, q_fdiv, q_mod, q_pow, q_neg, q_ltI, q_ltS, q_lt', q_le, q_gt, q_ge, q_eqI, q_neI, q_eqS, q_neS, q_eqB, q_neB, q_isN, q_notN, q_isi, q_lst, q_tup, q_dnK, q_dnT, q_ixL, q_ixT, q_ixC, q_ixS, r_ixL, r_ixT, r_ixS, q_lenL, q_lenT, q_lenC, q_lenD, q_lenS, q_listL, q_listT, q_listD, q_tupOf, q_max, q_min, q_intB, q_intI, q_all, q_any, q_slL, q_slT, q_slS, q_inS1, q_ninS1, CV.val, Val.truth, Tgt.bind, Tgt.bindL, storable, fz?, Def.outs, Val.noOwn, noOwnL, pureL, ME.pure, IK.items, IK.stays, List.range_succ, List.replicate, MOp.sem, isLst, parts?, s1__law_begins, b0__law_begins, s0__law_begins, tupS_ix0, e_none, e_any, e_signs, i3, c]
    exact run_ret (d := d__law_begins) (xs := [tupS (w :: ps), .lst o (F.map Val.str)]) (env0 := [some (tupS (w :: ps)), some (.lst o (F.map Val.str)), none]) rfl rfl (exL_end x1)
  · have x1 : exS T__law_begins s1__law_begins [some (tupS (w :: ps)), some (.lst o (F.map Val.str)), none] = .ok (none, [some (tupS (w :: ps)), some (.lst o (F.map Val.str)), none]) := by
      simp [small_line, q_nil, exL, exS, evE, evL, evI, evT, evTAnd, evTOr, evAnd, evOr, evIfs, evArgs, lendIx, lendOut, lendBack, forGo, R.bind_ok, R.bind_exc, R.bind_stuck, q_addI, q_addS, q_addL, q_addT, q_sub, q_mul, q_fdiv, q_mod, q_pow, q_neg, q_ltI, q_ltS, q_lt', q_le, q_gt, q_ge, q_eqI, q_neI, q_eqS, q_neS, q_eqB, q_neB, q_isN, q_notN, q_isi, q_lst, q_tup, q_dnK, q_dnT, q_ixL, q_ixT, q_ixC, q_ixS, r_ixL, r_ixT, r_ixS, q_lenL, q_lenT, q_lenC, q_lenD, q_lenS, q_listL, q_listT, q_listD, q_tupOf, q_max, q_min, q_intB, q_intI, q_all, q_any, q_slL, q_slT, q_slS, q_inS1, q_ninS1, CV.val, Val.truth, Tgt.bind, Tgt.bindL, storable, fz?, Def.outs, Val.noOwn, noOwnL, pureL, ME.pure, IK.items, IK.stays, List.range_succ, List.replicate, MOp.sem, isLst, parts?, s1__law_begins, b0__law_begins, s0__law_begins, tupS_ix0, e_none, e_any, e_signs, i3, c]
    have x2 : exS T__law_begins s2__law_begins [some (tupS (w :: ps)), some (.lst o (F.map Val.str)), none] = .ok (none, [some (tupS (w :: ps)), some (.lst o (F.map Val.str)), some (.int (1 + ps.length))]) := by
      have e : tupS (w :: ps) = .tup ((w :: ps).map Val.str) := rfl
      have e3 : (((w :: ps).map Val.str).length : Int) = 1 + ps.length := by simp; omega
      rw [e]
      generalize (w :: ps).map Val.str = xs at e3 ⊢
      simp [small_line, q_nil, exL, exS, evE, evL, evI, evT, evTAnd, evTOr, evAnd, evOr, evIfs, evArgs, lendIx, lendOut, lendBack, forGo, R.bind_ok, R.bind_exc, R.bind_stuck, q_addI, q_addS, q_addL, q_addT, q_sub, q_mul, q_fdiv, q_mod, q_pow, q_neg, q_ltI, q_ltS, q_lt', q_le, q_gt, q_ge, q_eqI, q_neI, q_eqS, q_neS, q_eqB, q_neB, q_isN, q_notN, q_isi, q_lst, q_tup, q_dnK, q_dnT, q_ixL, q_ixT, q_ixC, q_ixS, r_ixL, r_ixT, r_ixS, q_lenL, q_lenT, q_lenC, q_lenD, q_lenS, q_listL, q_listT, q_listD, q_tupOf, q_max, q_min, q_intB, q_intI, q_all, q_any, q_slL, q_slT, q_slS, q_inS1, q_ninS1, CV.val, Val.truth, Tgt.bind, Tgt.bindL, storable, fz?, Def.outs, Val.noOwn, noOwnL, pureL, ME.pure, IK.items, IK.stays, List.range_succ, List.replicate, MOp.sem, isLst, parts?, s2__law_begins, e3]
    have fin : ∀ n : Nat, n ≤ ps.length → exS T__law_begins s7__law_begins [some (tupS (w :: ps)), some (.lst o (F.map Val.str)), some (.int (1 + n))] = .ok (some (.lst true ((usort (ps.take n)).map Val.str)), [some (tupS (w :: ps)), some (.lst o (F.map Val.str)), some (.int (1 + n))]) := by
      intro n hn
      have hc : cutL ((w :: ps).map Val.str) (some 1) (some (1 + (n : Int))) = (ps.take n).map Val.str := by
        rw [cutL_mid (by decide) (by omega), ← List.map_drop, ← List.map_take]
        have e1 : (1 + (n : Int)).toNat = n + 1 := by omega
        rw [e1]
        show List.map Val.str (ps.take (n + 1 - 1)) = _
        rw [Nat.add_sub_cancel]
      have e : tupS (w :: ps) = .tup ((w :: ps).map Val.str) := rfl
      have hq := fun p q u => p_ssetT (L := ps.take n) (u := u) (p := p) (q := q) (by rw [List.length_take]; omega)
      have nn := noOwn_strs (ps.take n)
      have nt2 := nt
      rw [e]
      generalize (w :: ps).map Val.str = xs at hc nt2 ⊢
      simp only [List.map_take] at hc hq nn
      simp [small_line, q_nil, exL, exS, evE, evL, evI, evT, evTAnd, evTOr, evAnd, evOr, evIfs, evArgs, lendIx, lendOut, lendBack, forGo, R.bind_ok, R.bind_exc, R.bind_stuck, q_addI, q_addS, q_addL, q_addT, q_sub, q_mul, q_fdiv, q_mod, q_pow, q_neg, q_ltI, q_ltS, q_lt', q_le, q_gt, q_ge, q_eqI, q_neI, q_eqS, q_neS, q_eqB, q_neB, q_isN, q_notN, q_isi, q_lst, q_tup, q_dnK, q_dnT, q_ixL, q_ixT, q_ixC, q_ixS, r_ixL, r_ixT, r_ixS, q_lenL, q_lenT, q_lenC, q_lenD, q_lenS, q_listL, q_listT, q_listD, q_tupOf, q_max, q_min, q_intB, q_intI, q_all, q_any, q_slL, q_slT, q_slS, q_inS1, q_ninS1, CV.val, Val.truth, Tgt.bind, Tgt.bindL, storable, fz?, Def.outs, Val.noOwn, noOwnL, pureL, ME.pure, IK.items, IK.stays, List.range_succ, List.replicate, MOp.sem, isLst, parts?, s7__law_begins, nt2, hc, hq, p_rcSS, nn]
    by_cases c2 : w = kRow
    · subst c2
      have hps : 1 ≤ ps.length := by
        rcases h with ⟨h, _⟩ | ⟨h, _⟩ | ⟨h, _⟩ | ⟨_, h, _⟩ | ⟨_, h, _⟩
        · exact absurd h (by decide +kernel)
        · exact absurd h (by decide +kernel)
        · exact absurd h (by decide +kernel)
        · exact h
        · omega
      have x5 := lb_while (w := kRow) (o := o) hF okp hps hl
      have x6 : exS T__law_begins s6__law_begins [some (tupS (kRow :: ps)), some (.lst o (F.map Val.str)), some (.int (1 + ps.length))] = .ok (none, [some (tupS (kRow :: ps)), some (.lst o (F.map Val.str)), some (.int (1 + (upto F ps).length))]) := by
        have x3 : exS T__law_begins s3__law_begins [some (tupS (kRow :: ps)), some (.lst o (F.map Val.str)), some (.int (1 + ps.length))] = .ok (none, [some (tupS (kRow :: ps)), some (.lst o (F.map Val.str)), some (.int 2)]) := by
          simp [small_line, q_nil, exL, exS, evE, evL, evI, evT, evTAnd, evTOr, evAnd, evOr, evIfs, evArgs, lendIx, lendOut, lendBack, forGo, R.bind_ok, R.bind_exc, R.bind_stuck, q_addI, q_addS, q_addL, q_addT, q_sub, q_mul, q_fdiv, q_mod, q_pow, q_neg, q_ltI, q_ltS, q_lt', q_le, q_gt, q_ge, q_eqI, q_neI, q_eqS, q_neS, q_eqB, q_neB, q_isN, q_notN, q_isi, q_lst, q_tup, q_dnK, q_dnT, q_ixL, q_ixT, q_ixC, q_ixS, r_ixL, r_ixT, r_ixS, q_lenL, q_lenT, q_lenC, q_lenD, q_lenS, q_listL, q_listT, q_listD, q_tupOf, q_max, q_min, q_intB, q_intI, q_all, q_any, q_slL, q_slT, q_slS, q_inS1, q_ninS1, CV.val, Val.truth, Tgt.bind, Tgt.bindL, storable, fz?, Def.outs, Val.noOwn, noOwnL, pureL, ME.pure, IK.items, IK.stays, List.range_succ, List.replicate, MOp.sem, isLst, parts?, s3__law_begins]
        have xb := (exL_step (ss := b2__law_begins) x3).trans ((exL_step (ss := []) x5).trans exL_nil)
        simp [small_line, q_nil, exL, exS, evE, evL, evI, evT, evTAnd, evTOr, evAnd, evOr, evIfs, evArgs, lendIx, lendOut, lendBack, forGo, R.bind_ok, R.bind_exc, R.bind_stuck, q_addI, q_addS, q_addL, q_addT, q_sub, q_mul, q_fdiv, q_mod, q_pow, q_neg, q_ltI, q_ltS, q_lt', q_le, q_gt, q_ge, q_eqI, q_neI, q_eqS, q_neS, q_eqB, q_neB, q_isN, q_notN, q_isi, q_lst, q_tup, q_dnK, q_dnT, q_ixL, q_ixT, q_ixC, q_ixS, r_ixL, r_ixT, r_ixS, q_lenL, q_lenT, q_lenC, q_lenD, q_lenS, q_listL, q_listT, q_listD, q_tupOf, q_max, q_min, q_intB, q_intI, q_all, q_any, q_slL, q_slT, q_slS, q_inS1, q_ninS1, CV.val, Val.truth, Tgt.bind, Tgt.bindL, storable, fz?, Def.outs, Val.noOwn, noOwnL, pureL, ME.pure, IK.items, IK.stays, List.range_succ, List.replicate, MOp.sem, isLst, parts?, s6__law_begins, tupS_ix0, e_row, o4, -exL]
        exact xb
      have x7 := fin (upto F ps).length upto_len
      rw [← upto_eq] at x7
      have ef : fpL F kRow ps = upto F ps := if_pos rfl
      rw [ef]
      exact run_ret (d := d__law_begins) (xs := [tupS (kRow :: ps), .lst o (F.map Val.str)]) (env0 := [some (tupS (kRow :: ps)), some (.lst o (F.map Val.str)), none]) rfl rfl ((exL_step x1).trans ((exL_step x2).trans ((exL_step x6).trans (exL_end x7))))
    · have x6 : exS T__law_begins s6__law_begins [some (tupS (w :: ps)), some (.lst o (F.map Val.str)), some (.int (1 + ps.length))] = .ok (none, [some (tupS (w :: ps)), some (.lst o (F.map Val.str)), some (.int (1 + ps.length))]) := by
        simp [small_line, q_nil, exL, exS, evE, evL, evI, evT, evTAnd, evTOr, evAnd, evOr, evIfs, evArgs, lendIx, lendOut, lendBack, forGo, R.bind_ok, R.bind_exc, R.bind_stuck, q_addI, q_addS, q_addL, q_addT, q_sub, q_mul, q_fdiv, q_mod, q_pow, q_neg, q_ltI, q_ltS, q_lt', q_le, q_gt, q_ge, q_eqI, q_neI, q_eqS, q_neS, q_eqB, q_neB, q_isN, q_notN, q_isi, q_lst, q_tup, q_dnK, q_dnT, q_ixL, q_ixT, q_ixC, q_ixS, r_ixL, r_ixT, r_ixS, q_lenL, q_lenT, q_lenC, q_lenD, q_lenS, q_listL, q_listT, q_listD, q_tupOf, q_max, q_min, q_intB, q_intI, q_all, q_any, q_slL, q_slT, q_slS, q_inS1, q_ninS1, CV.val, Val.truth, Tgt.bind, Tgt.bindL, storable, fz?, Def.outs, Val.noOwn, noOwnL, pureL, ME.pure, IK.items, IK.stays, List.range_succ, List.replicate, MOp.sem, isLst, parts?, s6__law_begins, tupS_ix0, e_row, o4, okw, c2]
      have x7 := fin ps.length (Nat.le_refl _)
      rw [List.take_length] at x7
      have ef : fpL F w ps = ps := by rw [fpL, if_neg c2, partsL, if_neg c]
      rw [ef]
      exact run_ret (d := d__law_begins) (xs := [tupS (w :: ps), .lst o (F.map Val.str)]) (env0 := [some (tupS (w :: ps)), some (.lst o (F.map Val.str)), none]) rfl rfl ((exL_step x1).trans ((exL_step x2).trans ((exL_step x6).trans (exL_end x7))))
end Law

set_option Elab.async false
set_option maxRecDepth 100000
set_option maxHeartbeats 0
set_option linter.all false
namespace Law
open PySem L2 Mn
def nmsL (rs : List R3) : List Str := rs.map (·.1)
theorem mem_sortS {L : List Str} {z : Str} : z ∈ sortS L ↔ z ∈ L := (sortS_perm L).mem_iff
theorem fpL_congr {F G : List Str} (h : ∀ z, z ∈ F ↔ z ∈ G) (w : Str) (ps : List Str) : fpL F w ps = fpL G w ps := by
  unfold fpL
  rw [upto_congr h]
/-! begins -/
theorem bg_loop {bk : Option Val} {n : Str} {F : List Str} : ∀ {t : List R3} {x3 x4 : Option Val}, (∀ r ∈ t, IsRule r) → PyData.strOk n = true → n ∈ nmsL t → ∃ r ∈ t, r.1 = n ∧ ∃ envF, forGo g0_begins.bind (exL T_begins b1_begins) (t.map ruleV) [bk, some (.str n), some (.dK true (dset F)), x3, x4] = .ok (some (.lst true ((usort (fpL F r.2.1 r.2.2)).map Val.str)), envF) ∧ envF.length = 5
  | [], _, _, _, _, h => by cases h
  | a :: t, x3, x4, hk, hn, h => by
    have ha := hk a (by simp)
    have oka := ha.1.ok
    have nt := noOwn_tupS (a.2.1 :: a.2.2)
    by_cases c : a.1 = n
    · subst c
      refine ⟨a, by simp, rfl, [bk, some (.str a.1), some (.dK true (dset F)), some (.str a.1), some (tupS (a.2.1 :: a.2.2))], ?_, rfl⟩
      have e1 := first_ok (F := F) (o := true) ha.2
      have e2 := fun p q u => p_sset (o := true) (u := u) (p := p) (q := q) (L := fpL F a.2.1 a.2.2) (by have := fpL_len (F := F) (w := a.2.1) (ps := a.2.2); have := ha.2.len; omega)
      have x : exL T_begins b1_begins [bk, some (.str a.1), some (.dK true (dset F)), some (.str a.1), some (tupS (a.2.1 :: a.2.2))] = .ok (some (.lst true ((usort (fpL F a.2.1 a.2.2)).map Val.str)), [bk, some (.str a.1), some (.dK true (dset F)), some (.str a.1), some (tupS (a.2.1 :: a.2.2))]) := by
        simp [small_line, q_nil, exL, exS, evE, evL, evI, evT, evTAnd, evTOr, evAnd, evOr, evIfs, evArgs, lendIx, lendOut, lendBack, forGo, R.bind_ok, R.bind_exc, R.bind_stuck, q_addI, q_addS, q_addL, q_addT, q_sub, q_mul, q_fdiv, q_mod, q_pow, q_neg, q_ltI, q_ltS, q_lt', q_le, q_gt, q_ge, q_eqI, q_neI, q_eqS, q_neS, q_eqB, q_neB, q_isN, q_notN, q_isi, q_lst, q_tup, q_dnK, q_dnT, q_ixL, q_ixT, q_ixC, q_ixS, r_ixL, r_ixT, r_ixS, q_lenL, q_lenT, q_lenC, q_lenD, q_lenS, q_listL, q_listT, q_listD, q_tupOf, q_max, q_min, q_intB, q_intI, q_all, q_any, q_slL, q_slT, q_slS, q_inS1, q_ninS1, CV.val, Val.truth, Tgt.bind, Tgt.bindL, storable, fz?, Def.outs, Val.noOwn, noOwnL, pureL, ME.pure, IK.items, IK.stays, List.range_succ, List.replicate, MOp.sem, isLst, parts?, b1_begins, s2_begins, b0_begins, s1_begins, tf0_begins, tf1_begins, oka, e1, e2, p_rcSS, nt]
      rw [List.map_cons]
      simp only [forGo]
      show (match exL T_begins b1_begins [bk, some (.str a.1), some (.dK true (dset F)), some (.str a.1), some (tupS (a.2.1 :: a.2.2))] with | .ok (none, env2) => _ | r => r) = _
      rw [x]
    · have hm : n ∈ nmsL t := (List.mem_cons.mp h).elim (fun q => absurd q.symm c) id
      obtain ⟨r, h1, h2, envF, h3, h4⟩ := bg_loop (bk := bk) (F := F) (t := t) (x3 := some (.str a.1)) (x4 := some (tupS (a.2.1 :: a.2.2))) (fun r hr => hk r (by simp [hr])) hn hm
      refine ⟨r, by simp [h1], h2, envF, ?_, h4⟩
      have x : exL T_begins b1_begins [bk, some (.str n), some (.dK true (dset F)), some (.str a.1), some (tupS (a.2.1 :: a.2.2))] = .ok (none, [bk, some (.str n), some (.dK true (dset F)), some (.str a.1), some (tupS (a.2.1 :: a.2.2))]) := by
        simp [small_line, q_nil, exL, exS, evE, evL, evI, evT, evTAnd, evTOr, evAnd, evOr, evIfs, evArgs, lendIx, lendOut, lendBack, forGo, R.bind_ok, R.bind_exc, R.bind_stuck, q_addI, q_addS, q_addL, q_addT, q_sub, q_mul, q_fdiv, q_mod, q_pow, q_neg, q_ltI, q_ltS, q_lt', q_le, q_gt, q_ge, q_eqI, q_neI, q_eqS, q_neS, q_eqB, q_neB, q_isN, q_notN, q_isi, q_lst, q_tup, q_dnK, q_dnT, q_ixL, q_ixT, q_ixC, q_ixS, r_ixL, r_ixT, r_ixS, q_lenL, q_lenT, q_lenC, q_lenD, q_lenS, q_listL, q_listT, q_listD, q_tupOf, q_max, q_min, q_intB, q_intI, q_all, q_any, q_slL, q_slT, q_slS, q_inS1, q_ninS1, CV.val, Val.truth, Tgt.bind, Tgt.bindL, storable, fz?, Def.outs, Val.noOwn, noOwnL, pureL, ME.pure, IK.items, IK.stays, List.range_succ, List.replicate, MOp.sem, isLst, parts?, b1_begins, s2_begins, oka, hn, c]
      rw [List.map_cons]
      simp only [forGo]
      show (match exL T_begins b1_begins [bk, some (.str n), some (.dK true (dset F)), some (.str a.1), some (tupS (a.2.1 :: a.2.2))] with | .ok (none, env2) => _ | r => r) = _
      rw [x]
      exact h3
theorem bg_none {bk : Option Val} {n : Str} {F : List Str} : ∀ {t : List R3} {x3 x4 : Option Val}, (∀ r ∈ t, IsRule r) → PyData.strOk n = true → ¬ n ∈ nmsL t → ∃ y3 y4, forGo g0_begins.bind (exL T_begins b1_begins) (t.map ruleV) [bk, some (.str n), some (.dK true (dset F)), x3, x4] = .ok (none, [bk, some (.str n), some (.dK true (dset F)), y3, y4])
  | [], x3, x4, _, _, _ => ⟨x3, x4, rfl⟩
  | a :: t, x3, x4, hk, hn, h => by
    have oka := (hk a (by simp)).1.ok
    have c : ¬ a.1 = n := fun e => h (by simp [nmsL, e])
    obtain ⟨y3, y4, h3⟩ := bg_none (bk := bk) (F := F) (t := t) (x3 := some (.str a.1)) (x4 := some (tupS (a.2.1 :: a.2.2))) (fun r hr => hk r (by simp [hr])) hn (fun q => h (List.mem_cons_of_mem _ q))
    refine ⟨y3, y4, ?_⟩
    have x : exL T_begins b1_begins [bk, some (.str n), some (.dK true (dset F)), some (.str a.1), some (tupS (a.2.1 :: a.2.2))] = .ok (none, [bk, some (.str n), some (.dK true (dset F)), some (.str a.1), some (tupS (a.2.1 :: a.2.2))]) := by
      simp [small_line, q_nil, exL, exS, evE, evL, evI, evT, evTAnd, evTOr, evAnd, evOr, evIfs, evArgs, lendIx, lendOut, lendBack, forGo, R.bind_ok, R.bind_exc, R.bind_stuck, q_addI, q_addS, q_addL, q_addT, q_sub, q_mul, q_fdiv, q_mod, q_pow, q_neg, q_ltI, q_ltS, q_lt', q_le, q_gt, q_ge, q_eqI, q_neI, q_eqS, q_neS, q_eqB, q_neB, q_isN, q_notN, q_isi, q_lst, q_tup, q_dnK, q_dnT, q_ixL, q_ixT, q_ixC, q_ixS, r_ixL, r_ixT, r_ixS, q_lenL, q_lenT, q_lenC, q_lenD, q_lenS, q_listL, q_listT, q_listD, q_tupOf, q_max, q_min, q_intB, q_intI, q_all, q_any, q_slL, q_slT, q_slS, q_inS1, q_ninS1, CV.val, Val.truth, Tgt.bind, Tgt.bindL, storable, fz?, Def.outs, Val.noOwn, noOwnL, pureL, ME.pure, IK.items, IK.stays, List.range_succ, List.replicate, MOp.sem, isLst, parts?, b1_begins, s2_begins, oka, hn, c]
    rw [List.map_cons]
    simp only [forGo]
    show (match exL T_begins b1_begins [bk, some (.str n), some (.dK true (dset F)), some (.str a.1), some (tupS (a.2.1 :: a.2.2))] with | .ok (none, env2) => _ | r => r) = _
    rw [x]
    exact h3
theorem bg_x0 {rs : List R3} (hB : IsBook rs) {n : Str} : exS T_begins s0_begins [some (.lst false (rs.map ruleV)), some (.str n), none, none, none] = .ok (none, [some (.lst false (rs.map ruleV)), some (.str n), some (.dK true (dset (fixE rs))), none, none]) := by
  have hln := hB.len
  have nr := noOwn_rules rs
  have e1 := empt_ok hB.ok (by omega)
  simp [small_line, q_nil, exL, exS, evE, evL, evI, evT, evTAnd, evTOr, evAnd, evOr, evIfs, evArgs, lendIx, lendOut, lendBack, forGo, R.bind_ok, R.bind_exc, R.bind_stuck, q_addI, q_addS, q_addL, q_addT, q_sub, q_mul, q_fdiv, q_mod, q_pow, q_neg, q_ltI, q_ltS, q_lt', q_le, q_gt, q_ge, q_eqI, q_neI, q_eqS, q_neS, q_eqB, q_neB, q_isN, q_notN, q_isi, q_lst, q_tup, q_dnK, q_dnT, q_ixL, q_ixT, q_ixC, q_ixS, r_ixL, r_ixT, r_ixS, q_lenL, q_lenT, q_lenC, q_lenD, q_lenS, q_listL, q_listT, q_listD, q_tupOf, q_max, q_min, q_intB, q_intI, q_all, q_any, q_slL, q_slT, q_slS, q_inS1, q_ninS1, CV.val, Val.truth, Tgt.bind, Tgt.bindL, storable, fz?, Def.outs, Val.noOwn, noOwnL, pureL, ME.pure, IK.items, IK.stays, List.range_succ, List.replicate, MOp.sem, isLst, parts?, s0_begins, tf0_begins, tf1_begins, e1, nr]
theorem begins_ok {rs : List R3} (hB : IsBook rs) {r : R3} (hr : r ∈ rs) : d_begins.run T_begins [.lst false (rs.map ruleV), .str r.1] = .ok (.lst true ((usort (fpL (fixE rs) r.2.1 r.2.2)).map Val.str)) [none, none] := by
  have nr := noOwn_rules rs
  have okn : PyData.strOk r.1 = true := (hB.ok r hr).1.ok
  obtain ⟨r', h1, h2, envF, h3, h4⟩ := bg_loop (bk := some (.lst false (rs.map ruleV))) (F := fixE rs) (x3 := none) (x4 := none) hB.ok okn (List.mem_map.mpr ⟨r, hr, rfl⟩)
  have e : r' = r := nd_inj hB.nd h1 hr h2
  subst e
  have x3 : exS T_begins s3_begins [some (.lst false (rs.map ruleV)), some (.str r'.1), some (.dK true (dset (fixE rs))), none, none] = .ok (some (.lst true ((usort (fpL (fixE rs) r'.2.1 r'.2.2)).map Val.str)), envF) := by
    simp [small_line, q_nil, exL, exS, evE, evL, evI, evT, evTAnd, evTOr, evAnd, evOr, evIfs, evArgs, lendIx, lendOut, lendBack, forGo, R.bind_ok, R.bind_exc, R.bind_stuck, q_addI, q_addS, q_addL, q_addT, q_sub, q_mul, q_fdiv, q_mod, q_pow, q_neg, q_ltI, q_ltS, q_lt', q_le, q_gt, q_ge, q_eqI, q_neI, q_eqS, q_neS, q_eqB, q_neB, q_isN, q_notN, q_isi, q_lst, q_tup, q_dnK, q_dnT, q_ixL, q_ixT, q_ixC, q_ixS, r_ixL, r_ixT, r_ixS, q_lenL, q_lenT, q_lenC, q_lenD, q_lenS, q_listL, q_listT, q_listD, q_tupOf, q_max, q_min, q_intB, q_intI, q_all, q_any, q_slL, q_slT, q_slS, q_inS1, q_ninS1, CV.val, Val.truth, Tgt.bind, Tgt.bindL, storable, fz?, Def.outs, Val.noOwn, noOwnL, pureL, ME.pure, IK.items, IK.stays, List.range_succ, List.replicate, MOp.sem, isLst, parts?, s3_begins, nr, -forGo]
    exact h3
  exact run_ret (d := d_begins) (xs := [.lst false (rs.map ruleV), .str r'.1]) (env0 := [some (.lst false (rs.map ruleV)), some (.str r'.1), none, none, none]) rfl rfl ((exL_step (bg_x0 hB)).trans (exL_end x3))
theorem begins_no {rs : List R3} (hB : IsBook rs) {n : Str} (okn : PyData.strOk n = true) (hn : ¬ n ∈ nmsL rs) : d_begins.run T_begins [.lst false (rs.map ruleV), .str n] = .exc 0 [none, none] := by
  have nr := noOwn_rules rs
  obtain ⟨y3, y4, h3⟩ := bg_none (bk := some (.lst false (rs.map ruleV))) (F := fixE rs) (x3 := none) (x4 := none) hB.ok okn hn
  have x3 : exS T_begins s3_begins [some (.lst false (rs.map ruleV)), some (.str n), some (.dK true (dset (fixE rs))), none, none] = .ok (none, [some (.lst false (rs.map ruleV)), some (.str n), some (.dK true (dset (fixE rs))), y3, y4]) := by
    simp [small_line, q_nil, exL, exS, evE, evL, evI, evT, evTAnd, evTOr, evAnd, evOr, evIfs, evArgs, lendIx, lendOut, lendBack, forGo, R.bind_ok, R.bind_exc, R.bind_stuck, q_addI, q_addS, q_addL, q_addT, q_sub, q_mul, q_fdiv, q_mod, q_pow, q_neg, q_ltI, q_ltS, q_lt', q_le, q_gt, q_ge, q_eqI, q_neI, q_eqS, q_neS, q_eqB, q_neB, q_isN, q_notN, q_isi, q_lst, q_tup, q_dnK, q_dnT, q_ixL, q_ixT, q_ixC, q_ixS, r_ixL, r_ixT, r_ixS, q_lenL, q_lenT, q_lenC, q_lenD, q_lenS, q_listL, q_listT, q_listD, q_tupOf, q_max, q_min, q_intB, q_intI, q_all, q_any, q_slL, q_slT, q_slS, q_inS1, q_ninS1, CV.val, Val.truth, Tgt.bind, Tgt.bindL, storable, fz?, Def.outs, Val.noOwn, noOwnL, pureL, ME.pure, IK.items, IK.stays, List.range_succ, List.replicate, MOp.sem, isLst, parts?, s3_begins, nr, -forGo]
    exact h3
  have xb : exL T_begins b4_begins [some (.lst false (rs.map ruleV)), some (.str n), none, none, none] = .exc 0 [some (.lst false (rs.map ruleV)), some (.str n), some (.dK true (dset (fixE rs))), y3, y4] :=
    (exL_step (bg_x0 hB)).trans ((exL_step x3).trans (by simp [small_line, q_nil, exL, exS, evE, evL, evI, evT, evTAnd, evTOr, evAnd, evOr, evIfs, evArgs, lendIx, lendOut, lendBack, forGo, R.bind_ok, R.bind_exc, R.bind_stuck, q_addI, q_addS, q_addL, q_addT, q_sub, q_mul, q_fdiv, q_mod, q_pow, q_neg, q_ltI, q_ltS, q_lt', q_le, q_gt, q_ge, q_eqI, q_neI, q_eqS, q_neS, q_eqB, q_neB, q_isN, q_notN, q_isi, q_lst, q_tup, q_dnK, q_dnT, q_ixL, q_ixT, q_ixC, q_ixS, r_ixL, r_ixT, r_ixS, q_lenL, q_lenT, q_lenC, q_lenD, q_lenS, q_listL, q_listT, q_listD, q_tupOf, q_max, q_min, q_intB, q_intI, q_all, q_any, q_slL, q_slT, q_slS, q_inS1, q_ninS1, CV.val, Val.truth, Tgt.bind, Tgt.bindL, storable, fz?, Def.outs, Val.noOwn, noOwnL, pureL, ME.pure, IK.items, IK.stays, List.range_succ, List.replicate, MOp.sem, isLst, parts?, b2_begins, s4_begins]))
  unfold Def.run
  show (match exL T_begins b4_begins [some (.lst false (rs.map ruleV)), some (.str n), none, none, none] with | .ok (some y, env) => FR.ok y (d_begins.outs env) | .ok (none, env) => FR.ok .non (d_begins.outs env) | .exc c env => FR.exc c (d_begins.outs env) | .stuck => FR.stuck) = _
  rw [xb]
  rfl
theorem refused_ok' {rs : List R3} (hB : IsBook rs) {n : Str} (okn : PyData.strOk n = true) (hn : ¬ n ∈ nmsL rs) : refF (d_begins.run T_begins) [.lst false (rs.map ruleV), .str n] = .ok (.bl true) [none, none] := by
  have nr := noOwn_rules rs
  unfold refF
  simp only [Val.noOwn, nr, Bool.not_false, Bool.and_self, if_true, begins_no hB okn hn]
/-! names that the book has, names that it lacks -/
theorem has_ok {rs : List R3} (hR : ∀ r ∈ rs, IsRule r) (hl : rs.length ≤ 31) {n : Str} (okn : PyData.strOk n = true) : d__law_has.run T__law_has [.lst false (rs.map ruleV), .str n] = .ok (.bl (decide (n ∈ nmsL rs))) [none, none] := by
  have q := lcGo_as (vs := [2, 3]) (bt := g0__law_has.bind) (c := evIfs T__law_has i0__law_has) (f := evE T__law_has e0__law_has) (E := [some (.lst false (rs.map ruleV)), some (.str n), none, none]) ruleV (fun _ => true) (fun r => Val.str r.1) (as := rs) (by
    intro r hr
    refine ⟨[some (.lst false (rs.map ruleV)), some (.str n), some (.str r.1), some (tupS (r.2.1 :: r.2.2))], [some (.lst false (rs.map ruleV)), some (.str n), some (.str r.1), some (tupS (r.2.1 :: r.2.2))], rfl, ?_, fun _ => ⟨false, [some (.lst false (rs.map ruleV)), some (.str n), some (.str r.1), some (tupS (r.2.1 :: r.2.2))], ?_, rfl, rfl⟩, nofun⟩
    · simp [small_line, q_nil, exL, exS, evE, evL, evI, evT, evTAnd, evTOr, evAnd, evOr, evIfs, evArgs, lendIx, lendOut, lendBack, forGo, R.bind_ok, R.bind_exc, R.bind_stuck, q_addI, q_addS, q_addL, q_addT, q_sub, q_mul, q_fdiv, q_mod, q_pow, q_neg, q_ltI, q_ltS, q_lt', q_le, q_gt, q_ge, q_eqI, q_neI, q_eqS, q_neS, q_eqB, q_neB, q_isN, q_notN, q_isi, q_lst, q_tup, q_dnK, q_dnT, q_ixL, q_ixT, q_ixC, q_ixS, r_ixL, r_ixT, r_ixS, q_lenL, q_lenT, q_lenC, q_lenD, q_lenS, q_listL, q_listT, q_listD, q_tupOf, q_max, q_min, q_intB, q_intI, q_all, q_any, q_slL, q_slT, q_slS, q_inS1, q_ninS1, CV.val, Val.truth, Tgt.bind, Tgt.bindL, storable, fz?, Def.outs, Val.noOwn, noOwnL, pureL, ME.pure, IK.items, IK.stays, List.range_succ, List.replicate, MOp.sem, isLst, parts?, i0__law_has]
    · simp [small_line, q_nil, exL, exS, evE, evL, evI, evT, evTAnd, evTOr, evAnd, evOr, evIfs, evArgs, lendIx, lendOut, lendBack, forGo, R.bind_ok, R.bind_exc, R.bind_stuck, q_addI, q_addS, q_addL, q_addT, q_sub, q_mul, q_fdiv, q_mod, q_pow, q_neg, q_ltI, q_ltS, q_lt', q_le, q_gt, q_ge, q_eqI, q_neI, q_eqS, q_neS, q_eqB, q_neB, q_isN, q_notN, q_isi, q_lst, q_tup, q_dnK, q_dnT, q_ixL, q_ixT, q_ixC, q_ixS, r_ixL, r_ixT, r_ixS, q_lenL, q_lenT, q_lenC, q_lenD, q_lenS, q_listL, q_listT, q_listD, q_tupOf, q_max, q_min, q_intB, q_intI, q_all, q_any, q_slL, q_slT, q_slS, q_inS1, q_ninS1, CV.val, Val.truth, Tgt.bind, Tgt.bindL, storable, fz?, Def.outs, Val.noOwn, noOwnL, pureL, ME.pure, IK.items, IK.stays, List.range_succ, List.replicate, MOp.sem, isLst, parts?, e0__law_has])
  rw [List.filter_eq_self.mpr (fun _ _ => rfl)] at q
  have e : (nmsL rs).map Val.str = rs.map fun r => Val.str r.1 := by simp [nmsL, Function.comp_def]
  rw [← e] at q
  have hs := big_line
  have hlen : (nmsL rs).length ≤ sizeLine := by unfold nmsL; rw [List.length_map]; omega
  have nr := noOwn_rules rs
  have okN : ∀ z ∈ nmsL rs, PyData.strOk z = true := fun z hz => by
    obtain ⟨r, hr, rfl⟩ := List.mem_map.mp hz
    exact (hR r hr).1.ok
  have ec : evE T__law_has c0__law_has [some (.lst false (rs.map ruleV)), some (.str n), none, none] = .ok (.lst true ((nmsL rs).map Val.str), true, [some (.lst false (rs.map ruleV)), some (.str n), none, none]) := by
    simp [small_line, q_nil, exL, exS, evE, evL, evI, evT, evTAnd, evTOr, evAnd, evOr, evIfs, evArgs, lendIx, lendOut, lendBack, forGo, R.bind_ok, R.bind_exc, R.bind_stuck, q_addI, q_addS, q_addL, q_addT, q_sub, q_mul, q_fdiv, q_mod, q_pow, q_neg, q_ltI, q_ltS, q_lt', q_le, q_gt, q_ge, q_eqI, q_neI, q_eqS, q_neS, q_eqB, q_neB, q_isN, q_notN, q_isi, q_lst, q_tup, q_dnK, q_dnT, q_ixL, q_ixT, q_ixC, q_ixS, r_ixL, r_ixT, r_ixS, q_lenL, q_lenT, q_lenC, q_lenD, q_lenS, q_listL, q_listT, q_listD, q_tupOf, q_max, q_min, q_intB, q_intI, q_all, q_any, q_slL, q_slT, q_slS, q_inS1, q_ninS1, CV.val, Val.truth, Tgt.bind, Tgt.bindL, storable, fz?, Def.outs, Val.noOwn, noOwnL, pureL, ME.pure, IK.items, IK.stays, List.range_succ, List.replicate, MOp.sem, isLst, parts?, c0__law_has, nr, wipeOk, wipeE, q, hlen]
  have ei := fun o u v => q_inLS (o := o) (u := u) (v := v) okn okN
  generalize (nmsL rs).map Val.str = xs at ec ei
  have x0 : exS T__law_has s0__law_has [some (.lst false (rs.map ruleV)), some (.str n), none, none] = .ok (some (.bl (decide (n ∈ nmsL rs))), [some (.lst false (rs.map ruleV)), some (.str n), none, none]) := by
    simp [small_line, q_nil, exL, exS, evE, evL, evI, evT, evTAnd, evTOr, evAnd, evOr, evIfs, evArgs, lendIx, lendOut, lendBack, forGo, R.bind_ok, R.bind_exc, R.bind_stuck, q_addI, q_addS, q_addL, q_addT, q_sub, q_mul, q_fdiv, q_mod, q_pow, q_neg, q_ltI, q_ltS, q_lt', q_le, q_gt, q_ge, q_eqI, q_neI, q_eqS, q_neS, q_eqB, q_neB, q_isN, q_notN, q_isi, q_lst, q_tup, q_dnK, q_dnT, q_ixL, q_ixT, q_ixC, q_ixS, r_ixL, r_ixT, r_ixS, q_lenL, q_lenT, q_lenC, q_lenD, q_lenS, q_listL, q_listT, q_listD, q_tupOf, q_max, q_min, q_intB, q_intI, q_all, q_any, q_slL, q_slT, q_slS, q_inS1, q_ninS1, CV.val, Val.truth, Tgt.bind, Tgt.bindL, storable, fz?, Def.outs, Val.noOwn, noOwnL, pureL, ME.pure, IK.items, IK.stays, List.range_succ, List.replicate, MOp.sem, isLst, parts?, s0__law_has, ec, ei]
  exact run_ret (d := d__law_has) (xs := [.lst false (rs.map ruleV), .str n]) (env0 := [some (.lst false (rs.map ruleV)), some (.str n), none, none]) rfl rfl (exL_end x0)
theorem lk_comp {rs : List R3} (hR : ∀ r ∈ rs, IsRule r) (hl : rs.length ≤ 31) {r : R3} (hr : IsRule r) {x1 x2 : Option Val} : ∃ L : List Str, (∀ z ∈ L, PyData.strOk z = true) ∧ L.length ≤ 8 ∧
    evE T__law_lacking c0__law_lacking [some (.lst false (rs.map ruleV)), x1, x2, some (tupS (r.2.1 :: r.2.2)), none] = .ok (.lst true (L.map Val.str), true, [some (.lst false (rs.map ruleV)), x1, x2, some (tupS (r.2.1 :: r.2.2)), none]) := by
  have okw := hr.2.okw
  have o3 : PyData.strOk kSigns = true := by decide +kernel
  have nr := noOwn_rules rs
  have nt := noOwn_tupS (r.2.1 :: r.2.2)
  have q := lcGo_as (vs := [4]) (bt := g1__law_lacking.bind) (c := evIfs T__law_lacking i0__law_lacking) (f := evE T__law_lacking e0__law_lacking) (E := [some (.lst false (rs.map ruleV)), x1, x2, some (tupS (r.2.1 :: r.2.2)), none]) Val.str (fun z => !decide (r.2.1 = kSigns) && !decide (z ∈ nmsL rs)) Val.str (as := r.2.2) (by
    intro z hz
    have e := has_ok hR hl (hr.2.okp z hz)
    refine ⟨[some (.lst false (rs.map ruleV)), x1, x2, some (tupS (r.2.1 :: r.2.2)), some (.str z)], [some (.lst false (rs.map ruleV)), x1, x2, some (tupS (r.2.1 :: r.2.2)), some (.str z)], rfl, ?_, fun _ => ⟨false, [some (.lst false (rs.map ruleV)), x1, x2, some (tupS (r.2.1 :: r.2.2)), some (.str z)], ?_, rfl, rfl⟩, fun _ => rfl⟩
    · by_cases c : r.2.1 = kSigns
      · simp [small_line, q_nil, exL, exS, evE, evL, evI, evT, evTAnd, evTOr, evAnd, evOr, evIfs, evArgs, lendIx, lendOut, lendBack, forGo, R.bind_ok, R.bind_exc, R.bind_stuck, q_addI, q_addS, q_addL, q_addT, q_sub, q_mul, q_fdiv, q_mod, q_pow, q_neg, q_ltI, q_ltS, q_lt', q_le, q_gt, q_ge, q_eqI, q_neI, q_eqS, q_neS, q_eqB, q_neB, q_isN, q_notN, q_isi, q_lst, q_tup, q_dnK, q_dnT, q_ixL, q_ixT, q_ixC, q_ixS, r_ixL, r_ixT, r_ixS, q_lenL, q_lenT, q_lenC, q_lenD, q_lenS, q_listL, q_listT, q_listD, q_tupOf, q_max, q_min, q_intB, q_intI, q_all, q_any, q_slL, q_slT, q_slS, q_inS1, q_ninS1, CV.val, Val.truth, Tgt.bind, Tgt.bindL, storable, fz?, Def.outs, Val.noOwn, noOwnL, pureL, ME.pure, IK.items, IK.stays, List.range_succ, List.replicate, MOp.sem, isLst, parts?, i0__law_lacking, tf0__law_lacking, tupS_ix0, e_signs, okw, o3, nt, e, c]
      · simp [small_line, q_nil, exL, exS, evE, evL, evI, evT, evTAnd, evTOr, evAnd, evOr, evIfs, evArgs, lendIx, lendOut, lendBack, forGo, R.bind_ok, R.bind_exc, R.bind_stuck, q_addI, q_addS, q_addL, q_addT, q_sub, q_mul, q_fdiv, q_mod, q_pow, q_neg, q_ltI, q_ltS, q_lt', q_le, q_gt, q_ge, q_eqI, q_neI, q_eqS, q_neS, q_eqB, q_neB, q_isN, q_notN, q_isi, q_lst, q_tup, q_dnK, q_dnT, q_ixL, q_ixT, q_ixC, q_ixS, r_ixL, r_ixT, r_ixS, q_lenL, q_lenT, q_lenC, q_lenD, q_lenS, q_listL, q_listT, q_listD, q_tupOf, q_max, q_min, q_intB, q_intI, q_all, q_any, q_slL, q_slT, q_slS, q_inS1, q_ninS1, CV.val, Val.truth, Tgt.bind, Tgt.bindL, storable, fz?, Def.outs, Val.noOwn, noOwnL, pureL, ME.pure, IK.items, IK.stays, List.range_succ, List.replicate, MOp.sem, isLst, parts?, i0__law_lacking, tf0__law_lacking, tupS_ix0, e_signs, okw, o3, nt, nr, e, c]
    · simp [small_line, q_nil, exL, exS, evE, evL, evI, evT, evTAnd, evTOr, evAnd, evOr, evIfs, evArgs, lendIx, lendOut, lendBack, forGo, R.bind_ok, R.bind_exc, R.bind_stuck, q_addI, q_addS, q_addL, q_addT, q_sub, q_mul, q_fdiv, q_mod, q_pow, q_neg, q_ltI, q_ltS, q_lt', q_le, q_gt, q_ge, q_eqI, q_neI, q_eqS, q_neS, q_eqB, q_neB, q_isN, q_notN, q_isi, q_lst, q_tup, q_dnK, q_dnT, q_ixL, q_ixT, q_ixC, q_ixS, r_ixL, r_ixT, r_ixS, q_lenL, q_lenT, q_lenC, q_lenD, q_lenS, q_listL, q_listT, q_listD, q_tupOf, q_max, q_min, q_intB, q_intI, q_all, q_any, q_slL, q_slT, q_slS, q_inS1, q_ninS1, CV.val, Val.truth, Tgt.bind, Tgt.bindL, storable, fz?, Def.outs, Val.noOwn, noOwnL, pureL, ME.pure, IK.items, IK.stays, List.range_succ, List.replicate, MOp.sem, isLst, parts?, e0__law_lacking])
  have hlen := hr.2.len
  have hle := List.length_filter_le (fun z => !decide (r.2.1 = kSigns) && !decide (z ∈ nmsL rs)) r.2.2
  refine ⟨r.2.2.filter fun z => !decide (r.2.1 = kSigns) && !decide (z ∈ nmsL rs), fun z hz => hr.2.okp z (List.mem_filter.mp hz).1, by omega, ?_⟩
  generalize (r.2.2.filter fun z => !decide (r.2.1 = kSigns) && !decide (z ∈ nmsL rs)) = L at q hle ⊢
  have hs := big_line
  have hL : L.length ≤ sizeLine := by omega
  have np := noOwn_strs r.2.2
  have e2 : tupS ((r.2.1 :: r.2.2).drop 1) = .tup (r.2.2.map Val.str) := rfl
  have tt := fun u => tupS_tl (l := r.2.1 :: r.2.2) (u := u)
  rw [e2] at tt
  generalize tupS (r.2.1 :: r.2.2) = tv at q nt tt ⊢
  simp [small_line, q_nil, exL, exS, evE, evL, evI, evT, evTAnd, evTOr, evAnd, evOr, evIfs, evArgs, lendIx, lendOut, lendBack, forGo, R.bind_ok, R.bind_exc, R.bind_stuck, q_addI, q_addS, q_addL, q_addT, q_sub, q_mul, q_fdiv, q_mod, q_pow, q_neg, q_ltI, q_ltS, q_lt', q_le, q_gt, q_ge, q_eqI, q_neI, q_eqS, q_neS, q_eqB, q_neB, q_isN, q_notN, q_isi, q_lst, q_tup, q_dnK, q_dnT, q_ixL, q_ixT, q_ixC, q_ixS, r_ixL, r_ixT, r_ixS, q_lenL, q_lenT, q_lenC, q_lenD, q_lenS, q_listL, q_listT, q_listD, q_tupOf, q_max, q_min, q_intB, q_intI, q_all, q_any, q_slL, q_slT, q_slS, q_inS1, q_ninS1, CV.val, Val.truth, Tgt.bind, Tgt.bindL, storable, fz?, Def.outs, Val.noOwn, noOwnL, pureL, ME.pure, IK.items, IK.stays, List.range_succ, List.replicate, MOp.sem, isLst, parts?, c0__law_lacking, tt, np, nt, wipeOk, wipeE, q, hL]
theorem lacking_ok {rs : List R3} (hR : ∀ r ∈ rs, IsRule r) (hl : rs.length ≤ 31) : ∃ L : List Str, (∀ z ∈ L, PyData.strOk z = true) ∧ L.length ≤ 1000 ∧ d__law_lacking.run T__law_lacking [.lst false (rs.map ruleV)] = .ok (.lst true (L.map Val.str)) [none] := by
  have nr := noOwn_rules rs
  have hs := big_line
  obtain ⟨envF, q1, L, y2, y3, rfl, hL, hLl⟩ := forGo_ix (bt := g0__law_lacking.bind) (b := exL T__law_lacking b0__law_lacking) (fun i env => ∃ (L : List Str) (y2 y3 : Option Val), env = [some (.lst false (rs.map ruleV)), some (.lst true (L.map Val.str)), y2, y3, none] ∧ (∀ z ∈ L, PyData.strOk z = true) ∧ L.length ≤ 8 * i) (items := rs.map ruleV) (i := 0)
    (env := [some (.lst false (rs.map ruleV)), some (.lst true (([] : List Str).map Val.str)), none, none, none]) (by
      rintro j x env hx ⟨L, y2, y3, rfl, hL, hLl⟩
      have hm := List.mem_of_getElem? hx
      have hj : j < 31 := by
        have := (List.getElem?_eq_some_iff.mp hx).1
        rw [List.length_map] at this
        omega
      obtain ⟨r, hr, rfl⟩ := List.mem_map.mp hm
      obtain ⟨M, hM, hMl, e⟩ := lk_comp hR hl (hR r hr) (x1 := some (.lst true (L.map Val.str))) (x2 := some (.str r.1))
      refine ⟨[some (.lst false (rs.map ruleV)), some (.lst true (L.map Val.str)), some (.str r.1), some (tupS (r.2.1 :: r.2.2)), none], [some (.lst false (rs.map ruleV)), some (.lst true ((L ++ M).map Val.str)), some (.str r.1), some (tupS (r.2.1 :: r.2.2)), none], rfl, ?_, L ++ M, _, _, rfl, fun z hz => (List.mem_append.mp hz).elim (hL z) (hM z), by rw [List.length_append]; omega⟩
      have nm := noOwn_strs M
      have hlen : (L.map Val.str).length + (M.map Val.str).length ≤ sizeLine := by rw [List.length_map, List.length_map]; omega
      have qe := q_ext (v := true) (o := true) nm hlen
      rw [List.map_append]
      generalize L.map Val.str = xs at e qe ⊢
      generalize M.map Val.str = ys at e qe nm ⊢
      simp [small_line, q_nil, exL, exS, evE, evL, evI, evT, evTAnd, evTOr, evAnd, evOr, evIfs, evArgs, lendIx, lendOut, lendBack, forGo, R.bind_ok, R.bind_exc, R.bind_stuck, q_addI, q_addS, q_addL, q_addT, q_sub, q_mul, q_fdiv, q_mod, q_pow, q_neg, q_ltI, q_ltS, q_lt', q_le, q_gt, q_ge, q_eqI, q_neI, q_eqS, q_neS, q_eqB, q_neB, q_isN, q_notN, q_isi, q_lst, q_tup, q_dnK, q_dnT, q_ixL, q_ixT, q_ixC, q_ixS, r_ixL, r_ixT, r_ixS, q_lenL, q_lenT, q_lenC, q_lenD, q_lenS, q_listL, q_listT, q_listD, q_tupOf, q_max, q_min, q_intB, q_intI, q_all, q_any, q_slL, q_slT, q_slS, q_inS1, q_ninS1, CV.val, Val.truth, Tgt.bind, Tgt.bindL, storable, fz?, Def.outs, Val.noOwn, noOwnL, pureL, ME.pure, IK.items, IK.stays, List.range_succ, List.replicate, MOp.sem, isLst, parts?, b0__law_lacking, s1__law_lacking, e, qe, p_rcExt]) ⟨[], none, none, rfl, nofun, Nat.zero_le _⟩
  rw [Nat.zero_add, List.length_map] at hLl
  have hu : (usort L).length ≤ L.length := usort_len L
  have x0 : exS T__law_lacking s0__law_lacking [some (.lst false (rs.map ruleV)), none, none, none, none] = .ok (none, [some (.lst false (rs.map ruleV)), some (.lst true (([] : List Str).map Val.str)), none, none, none]) := by
    simp [small_line, q_nil, exL, exS, evE, evL, evI, evT, evTAnd, evTOr, evAnd, evOr, evIfs, evArgs, lendIx, lendOut, lendBack, forGo, R.bind_ok, R.bind_exc, R.bind_stuck, q_addI, q_addS, q_addL, q_addT, q_sub, q_mul, q_fdiv, q_mod, q_pow, q_neg, q_ltI, q_ltS, q_lt', q_le, q_gt, q_ge, q_eqI, q_neI, q_eqS, q_neS, q_eqB, q_neB, q_isN, q_notN, q_isi, q_lst, q_tup, q_dnK, q_dnT, q_ixL, q_ixT, q_ixC, q_ixS, r_ixL, r_ixT, r_ixS, q_lenL, q_lenT, q_lenC, q_lenD, q_lenS, q_listL, q_listT, q_listD, q_tupOf, q_max, q_min, q_intB, q_intI, q_all, q_any, q_slL, q_slT, q_slS, q_inS1, q_ninS1, CV.val, Val.truth, Tgt.bind, Tgt.bindL, storable, fz?, Def.outs, Val.noOwn, noOwnL, pureL, ME.pure, IK.items, IK.stays, List.range_succ, List.replicate, MOp.sem, isLst, parts?, s0__law_lacking]
  have x2 : exS T__law_lacking s2__law_lacking [some (.lst false (rs.map ruleV)), some (.lst true (([] : List Str).map Val.str)), none, none, none] = .ok (none, [some (.lst false (rs.map ruleV)), some (.lst true (L.map Val.str)), y2, y3, none]) := by
    simp [small_line, q_nil, exL, exS, evE, evL, evI, evT, evTAnd, evTOr, evAnd, evOr, evIfs, evArgs, lendIx, lendOut, lendBack, forGo, R.bind_ok, R.bind_exc, R.bind_stuck, q_addI, q_addS, q_addL, q_addT, q_sub, q_mul, q_fdiv, q_mod, q_pow, q_neg, q_ltI, q_ltS, q_lt', q_le, q_gt, q_ge, q_eqI, q_neI, q_eqS, q_neS, q_eqB, q_neB, q_isN, q_notN, q_isi, q_lst, q_tup, q_dnK, q_dnT, q_ixL, q_ixT, q_ixC, q_ixS, r_ixL, r_ixT, r_ixS, q_lenL, q_lenT, q_lenC, q_lenD, q_lenS, q_listL, q_listT, q_listD, q_tupOf, q_max, q_min, q_intB, q_intI, q_all, q_any, q_slL, q_slT, q_slS, q_inS1, q_ninS1, CV.val, Val.truth, Tgt.bind, Tgt.bindL, storable, fz?, Def.outs, Val.noOwn, noOwnL, pureL, ME.pure, IK.items, IK.stays, List.range_succ, List.replicate, MOp.sem, isLst, parts?, s2__law_lacking, nr, -forGo]
    exact q1
  have e2 := fun p q u => p_sset (o := true) (u := u) (p := p) (q := q) (L := L) (by omega)
  have x3 : exS T__law_lacking s3__law_lacking [some (.lst false (rs.map ruleV)), some (.lst true (L.map Val.str)), y2, y3, none] = .ok (some (.lst true ((usort L).map Val.str)), [some (.lst false (rs.map ruleV)), some (.lst true (L.map Val.str)), y2, y3, none]) := by
    generalize L.map Val.str = xs at e2 ⊢
    generalize (usort L).map Val.str = ys at e2 ⊢
    simp [small_line, q_nil, exL, exS, evE, evL, evI, evT, evTAnd, evTOr, evAnd, evOr, evIfs, evArgs, lendIx, lendOut, lendBack, forGo, R.bind_ok, R.bind_exc, R.bind_stuck, q_addI, q_addS, q_addL, q_addT, q_sub, q_mul, q_fdiv, q_mod, q_pow, q_neg, q_ltI, q_ltS, q_lt', q_le, q_gt, q_ge, q_eqI, q_neI, q_eqS, q_neS, q_eqB, q_neB, q_isN, q_notN, q_isi, q_lst, q_tup, q_dnK, q_dnT, q_ixL, q_ixT, q_ixC, q_ixS, r_ixL, r_ixT, r_ixS, q_lenL, q_lenT, q_lenC, q_lenD, q_lenS, q_listL, q_listT, q_listD, q_tupOf, q_max, q_min, q_intB, q_intI, q_all, q_any, q_slL, q_slT, q_slS, q_inS1, q_ninS1, CV.val, Val.truth, Tgt.bind, Tgt.bindL, storable, fz?, Def.outs, Val.noOwn, noOwnL, pureL, ME.pure, IK.items, IK.stays, List.range_succ, List.replicate, MOp.sem, isLst, parts?, s3__law_lacking, e2, p_rcSS]
  exact ⟨usort L, fun z hz => hL z (usort_mem.mp hz), by omega, run_ret (d := d__law_lacking) (xs := [.lst false (rs.map ruleV)]) (env0 := [some (.lst false (rs.map ruleV)), none, none, none, none]) rfl rfl ((exL_step x0).trans ((exL_step x2).trans (exL_end x3)))⟩
end Law

set_option Elab.async false
set_option maxRecDepth 100000
set_option maxHeartbeats 0
set_option linter.all false
namespace Law
open PySem L2 Mn
theorem the_book {w : Val} {n : Nat} (hb : Bag w n) (hn : n ≤ 1000) {x0 x1 x3 x4 x5 x6 x7 x8 x9 x10 : Option Val} : ∃ (rs : List R3) (w' : Val), IsBook rs ∧ Bag w' 100000 ∧
    exS T_law s4_law [x0, x1, some w, x3, x4, x5, x6, x7, x8, x9, x10, none] = .ok (none, [x0, x1, some w', x3, some (.lst false (rs.map ruleV)), x5, x6, x7, x8, x9, x10, none]) := by
  obtain ⟨r, w1, a1, a2, a3, e1⟩ := draw_ok (m := 4) hb
  by_cases c : r = 3
  · obtain ⟨rs, w2, h1, h2, e2⟩ := chain_ok a3 (by omega)
    have fr := frzL_rules rs
    refine ⟨rs, w2, h1, h2.mono, ?_⟩
    simp [small_line, q_nil, exL, exS, evE, evL, evI, evT, evTAnd, evTOr, evAnd, evOr, evIfs, evArgs, lendIx, lendOut, lendBack, forGo, R.bind_ok, R.bind_exc, R.bind_stuck, q_addI, q_addS, q_addL, q_addT, q_sub, q_mul, q_fdiv, q_mod, q_pow, q_neg, q_ltI, q_ltS, q_lt', q_le, q_gt, q_ge, q_eqI, q_neI, q_eqS, q_neS, q_eqB, q_neB, q_isN, q_notN, q_isi, q_lst, q_tup, q_dnK, q_dnT, q_ixL, q_ixT, q_ixC, q_ixS, r_ixL, r_ixT, r_ixS, q_lenL, q_lenT, q_lenC, q_lenD, q_lenS, q_listL, q_listT, q_listD, q_tupOf, q_max, q_min, q_intB, q_intI, q_all, q_any, q_slL, q_slT, q_slS, q_inS1, q_ninS1, CV.val, Val.truth, Tgt.bind, Tgt.bindL, storable, fz?, Def.outs, Val.noOwn, noOwnL, pureL, ME.pure, IK.items, IK.stays, List.range_succ, List.replicate, MOp.sem, isLst, parts?, s4_law, b0_law, b1_law, s2_law, s3_law, tf0_law, tf1_law, tf2_law, tf3_law, tf4_law, tf5_law, tf6_law, tf7_law, tf8_law, tf9_law, tf10_law, tf11_law, e1, e2, c, Val.frz, fr]
  · obtain ⟨rs, w2, h1, h2, e2⟩ := book_ok a3 (by omega)
    have fr := frzL_rules rs
    refine ⟨rs, w2, h1, h2.mono, ?_⟩
    simp [small_line, q_nil, exL, exS, evE, evL, evI, evT, evTAnd, evTOr, evAnd, evOr, evIfs, evArgs, lendIx, lendOut, lendBack, forGo, R.bind_ok, R.bind_exc, R.bind_stuck, q_addI, q_addS, q_addL, q_addT, q_sub, q_mul, q_fdiv, q_mod, q_pow, q_neg, q_ltI, q_ltS, q_lt', q_le, q_gt, q_ge, q_eqI, q_neI, q_eqS, q_neS, q_eqB, q_neB, q_isN, q_notN, q_isi, q_lst, q_tup, q_dnK, q_dnT, q_ixL, q_ixT, q_ixC, q_ixS, r_ixL, r_ixT, r_ixS, q_lenL, q_lenT, q_lenC, q_lenD, q_lenS, q_listL, q_listT, q_listD, q_tupOf, q_max, q_min, q_intB, q_intI, q_all, q_any, q_slL, q_slT, q_slS, q_inS1, q_ninS1, CV.val, Val.truth, Tgt.bind, Tgt.bindL, storable, fz?, Def.outs, Val.noOwn, noOwnL, pureL, ME.pure, IK.items, IK.stays, List.range_succ, List.replicate, MOp.sem, isLst, parts?, s4_law, b0_law, b1_law, s2_law, s3_law, tf0_law, tf1_law, tf2_law, tf3_law, tf4_law, tf5_law, tf6_law, tf7_law, tf8_law, tf9_law, tf10_law, tf11_law, e1, e2, c, Val.frz, fr]
theorem inner_ok {rs : List R3} (hB : IsBook rs) {r : R3} (hr : r ∈ rs) {x0 x1 x2 x3 x4 x9 x10 : Option Val} (hx : frzOk [x0, x1, x2, x3, x4, x10] = true) : ∃ y9 : Option Val,
    exL T_law b7_law [x0, x1, x2, x3, x4, some (.lst false (rs.map ruleV)), some (.lst false ((sortS (fixE rs)).map Val.str)), some (.str r.1), some (tupS (r.2.1 :: r.2.2)), x9, x10, none] = .ok (none, [x0, x1, x2, x3, x4, some (.lst false (rs.map ruleV)), some (.lst false ((sortS (fixE rs)).map Val.str)), some (.str r.1), some (tupS (r.2.1 :: r.2.2)), y9, x10, none]) := by
  have hs := big_line
  have e1 := begins_ok hB hr
  have okF : ∀ z ∈ sortS (fixE rs), PyData.strOk z = true := fun z hz => (fixE_ok rs).oks hB.ok z (mem_sortS.mp hz)
  have e2 := lawbegins_ok (o := false) (hB.ok r hr).2 okF
  rw [fpL_congr (F := sortS (fixE rs)) (G := fixE rs) (fun z => mem_sortS)] at e2
  have okU : ∀ z ∈ usort (fpL (fixE rs) r.2.1 r.2.2), PyData.strOk z = true := fun z hz => (hB.ok r hr).2.okp z (fpL_sub z (usort_mem.mp hz))
  have hlen : (usort (fpL (fixE rs) r.2.1 r.2.2)).length < sizeLine := by
    have := usort_len (fpL (fixE rs) r.2.1 r.2.2)
    have := fpL_len (F := fixE rs) (w := r.2.1) (ps := r.2.2)
    have := (hB.ok r hr).2.len
    omega
  have nr := noOwn_rules rs
  have nt := noOwn_tupS (r.2.1 :: r.2.2)
  have nF := noOwn_strs (sortS (fixE rs))
  have q := fun o o' u v => q_neLS (o := o) (o' := o') (u := u) (v := v) okU okU
  have fr := frzL_rules rs
  have ft := frz_tupS (r.2.1 :: r.2.2)
  have fF := frzL_strs (sortS (fixE rs))
  have fU := frzL_strs (usort (fpL (fixE rs) r.2.1 r.2.2))
  have nU := noOwn_strs (usort (fpL (fixE rs) r.2.1 r.2.2))
  generalize usort (fpL (fixE rs) r.2.1 r.2.2) = U at e1 e2 hlen q fU nU
  have hl2 : (U.map Val.str).length < sizeLine := by rw [List.length_map]; exact hlen
  refine ⟨some (.lst true (U.map Val.str ++ [.str (Str.ofString "zq")])), ?_⟩
  generalize U.map Val.str = us at e1 e2 hl2 q fU nU
  generalize (sortS (fixE rs)).map Val.str = Fs at e2 nF fF ⊢
  generalize tupS (r.2.1 :: r.2.2) = tv at e2 nt ft ⊢
  have fz : frzOk [x0, x1, x2, x3, x4, some (.lst false (rs.map ruleV)), some (.lst false Fs), some (.str r.1), some tv, some (.lst true us), x10, none] = true := by
    simp only [frzOk, List.all_cons, List.all_nil, Bool.and_true, Bool.and_eq_true] at hx ⊢
    refine ⟨hx.1, hx.2.1, hx.2.2.1, hx.2.2.2.1, hx.2.2.2.2.1, ?_, ?_, rfl, ?_, ?_, hx.2.2.2.2.2⟩
    · simp only [Val.frz, fr, Val.noOwn, nr, Bool.not_false, Bool.and_self]
    · simp only [Val.frz, fF, Val.noOwn, nF, Bool.not_false, Bool.and_self]
    · rw [ft]; exact nt
    · simp only [Val.frz, fU, Val.noOwn, nU, Bool.not_false, Bool.and_self]
  have x7 : exS T_law s7_law [x0, x1, x2, x3, x4, some (.lst false (rs.map ruleV)), some (.lst false Fs), some (.str r.1), some tv, x9, x10, none] = .ok (none, [x0, x1, x2, x3, x4, some (.lst false (rs.map ruleV)), some (.lst false Fs), some (.str r.1), some tv, some (.lst true us), x10, none]) := by
    simp [small_line, q_nil, exL, exS, evE, evL, evI, evT, evTAnd, evTOr, evAnd, evOr, evIfs, evArgs, lendIx, lendOut, lendBack, forGo, R.bind_ok, R.bind_exc, R.bind_stuck, q_addI, q_addS, q_addL, q_addT, q_sub, q_mul, q_fdiv, q_mod, q_pow, q_neg, q_ltI, q_ltS, q_lt', q_le, q_gt, q_ge, q_eqI, q_neI, q_eqS, q_neS, q_eqB, q_neB, q_isN, q_notN, q_isi, q_lst, q_tup, q_dnK, q_dnT, q_ixL, q_ixT, q_ixC, q_ixS, r_ixL, r_ixT, r_ixS, q_lenL, q_lenT, q_lenC, q_lenD, q_lenS, q_listL, q_listT, q_listD, q_tupOf, q_max, q_min, q_intB, q_intI, q_all, q_any, q_slL, q_slT, q_slS, q_inS1, q_ninS1, CV.val, Val.truth, Tgt.bind, Tgt.bindL, storable, fz?, Def.outs, Val.noOwn, noOwnL, pureL, ME.pure, IK.items, IK.stays, List.range_succ, List.replicate, MOp.sem, isLst, parts?, s7_law, tf0_law, tf1_law, tf2_law, tf3_law, tf4_law, tf5_law, tf6_law, tf7_law, tf8_law, tf9_law, tf10_law, tf11_law, nr, e1]
  have x9' : exS T_law s9_law [x0, x1, x2, x3, x4, some (.lst false (rs.map ruleV)), some (.lst false Fs), some (.str r.1), some tv, some (.lst true us), x10, none] = .ok (none, [x0, x1, x2, x3, x4, some (.lst false (rs.map ruleV)), some (.lst false Fs), some (.str r.1), some tv, some (.lst true us), x10, none]) := by
    simp [small_line, q_nil, exL, exS, evE, evL, evI, evT, evTAnd, evTOr, evAnd, evOr, evIfs, evArgs, lendIx, lendOut, lendBack, forGo, R.bind_ok, R.bind_exc, R.bind_stuck, q_addI, q_addS, q_addL, q_addT, q_sub, q_mul, q_fdiv, q_mod, q_pow, q_neg, q_ltI, q_ltS, q_lt', q_le, q_gt, q_ge, q_eqI, q_neI, q_eqS, q_neS, q_eqB, q_neB, q_isN, q_notN, q_isi, q_lst, q_tup, q_dnK, q_dnT, q_ixL, q_ixT, q_ixC, q_ixS, r_ixL, r_ixT, r_ixS, q_lenL, q_lenT, q_lenC, q_lenD, q_lenS, q_listL, q_listT, q_listD, q_tupOf, q_max, q_min, q_intB, q_intI, q_all, q_any, q_slL, q_slT, q_slS, q_inS1, q_ninS1, CV.val, Val.truth, Tgt.bind, Tgt.bindL, storable, fz?, Def.outs, Val.noOwn, noOwnL, pureL, ME.pure, IK.items, IK.stays, List.range_succ, List.replicate, MOp.sem, isLst, parts?, s9_law, tf0_law, tf1_law, tf2_law, tf3_law, tf4_law, tf5_law, tf6_law, tf7_law, tf8_law, tf9_law, tf10_law, tf11_law, nr, nt, nF, e2, q, tyIs, fz, frzE, Val.frz, fr, ft, fF, fU, nU]
  have x10' : exS T_law s10_law [x0, x1, x2, x3, x4, some (.lst false (rs.map ruleV)), some (.lst false Fs), some (.str r.1), some tv, some (.lst true us), x10, none] = .ok (none, [x0, x1, x2, x3, x4, some (.lst false (rs.map ruleV)), some (.lst false Fs), some (.str r.1), some tv, some (.lst true (us ++ [.str (Str.ofString "zq")])), x10, none]) := by
    simp [small_line, q_nil, exL, exS, evE, evL, evI, evT, evTAnd, evTOr, evAnd, evOr, evIfs, evArgs, lendIx, lendOut, lendBack, forGo, R.bind_ok, R.bind_exc, R.bind_stuck, q_addI, q_addS, q_addL, q_addT, q_sub, q_mul, q_fdiv, q_mod, q_pow, q_neg, q_ltI, q_ltS, q_lt', q_le, q_gt, q_ge, q_eqI, q_neI, q_eqS, q_neS, q_eqB, q_neB, q_isN, q_notN, q_isi, q_lst, q_tup, q_dnK, q_dnT, q_ixL, q_ixT, q_ixC, q_ixS, r_ixL, r_ixT, r_ixS, q_lenL, q_lenT, q_lenC, q_lenD, q_lenS, q_listL, q_listT, q_listD, q_tupOf, q_max, q_min, q_intB, q_intI, q_all, q_any, q_slL, q_slT, q_slS, q_inS1, q_ninS1, CV.val, Val.truth, Tgt.bind, Tgt.bindL, storable, fz?, Def.outs, Val.noOwn, noOwnL, pureL, ME.pure, IK.items, IK.stays, List.range_succ, List.replicate, MOp.sem, isLst, parts?, s10_law, hl2]
  have x12 : exS T_law s12_law [x0, x1, x2, x3, x4, some (.lst false (rs.map ruleV)), some (.lst false Fs), some (.str r.1), some tv, some (.lst true (us ++ [.str (Str.ofString "zq")])), x10, none] = .ok (none, [x0, x1, x2, x3, x4, some (.lst false (rs.map ruleV)), some (.lst false Fs), some (.str r.1), some tv, some (.lst true (us ++ [.str (Str.ofString "zq")])), x10, none]) := by
    simp [small_line, q_nil, exL, exS, evE, evL, evI, evT, evTAnd, evTOr, evAnd, evOr, evIfs, evArgs, lendIx, lendOut, lendBack, forGo, R.bind_ok, R.bind_exc, R.bind_stuck, q_addI, q_addS, q_addL, q_addT, q_sub, q_mul, q_fdiv, q_mod, q_pow, q_neg, q_ltI, q_ltS, q_lt', q_le, q_gt, q_ge, q_eqI, q_neI, q_eqS, q_neS, q_eqB, q_neB, q_isN, q_notN, q_isi, q_lst, q_tup, q_dnK, q_dnT, q_ixL, q_ixT, q_ixC, q_ixS, r_ixL, r_ixT, r_ixS, q_lenL, q_lenT, q_lenC, q_lenD, q_lenS, q_listL, q_listT, q_listD, q_tupOf, q_max, q_min, q_intB, q_intI, q_all, q_any, q_slL, q_slT, q_slS, q_inS1, q_ninS1, CV.val, Val.truth, Tgt.bind, Tgt.bindL, storable, fz?, Def.outs, Val.noOwn, noOwnL, pureL, ME.pure, IK.items, IK.stays, List.range_succ, List.replicate, MOp.sem, isLst, parts?, s12_law, tf0_law, tf1_law, tf2_law, tf3_law, tf4_law, tf5_law, tf6_law, tf7_law, tf8_law, tf9_law, tf10_law, tf11_law, nr, nt, nF, e1, e2, q]
  exact (exL_step x7).trans ((exL_step x9').trans ((exL_step x10').trans ((exL_step (ss := []) x12).trans exL_nil)))
theorem asked_ok {rs : List R3} (hB : IsBook rs) {z0 : Str} (h0 : IsName z0) {x0 x1 x2 x5 x6 x7 x8 x9 x10 : Option Val} : ∃ L : List Str, (∀ z ∈ L, PyData.strOk z = true ∧ ¬ z ∈ nmsL rs) ∧ L.length ≤ 1001 ∧
    exS T_law s14_law [x0, x1, x2, some (.str z0), some (.lst false (rs.map ruleV)), x5, x6, x7, x8, x9, x10, none] = .ok (none, [x0, x1, x2, some (.str z0), some (.lst false (rs.map ruleV)), x5, x6, x7, x8, x9, some (.lst false (L.map Val.str)), none]) := by
  have hs := big_line
  have hln := hB.len
  have nr := noOwn_rules rs
  obtain ⟨M, hM, hMl, e1⟩ := lacking_ok hB.ok hln
  have q := lcGo_as (vs := [11]) (bt := g2_law.bind) (c := evIfs T_law i0_law) (f := evE T_law e0_law) (E := [x0, x1, x2, some (.str z0), some (.lst false (rs.map ruleV)), x5, x6, x7, x8, x9, x10, none]) Val.str (fun z => !decide (z ∈ nmsL rs)) Val.str (as := M ++ [z0]) (by
    intro z hz
    have okz : PyData.strOk z = true := (List.mem_append.mp hz).elim (hM z) fun h => by rw [List.mem_singleton.mp h]; exact h0.ok
    have e := has_ok hB.ok hln okz
    refine ⟨[x0, x1, x2, some (.str z0), some (.lst false (rs.map ruleV)), x5, x6, x7, x8, x9, x10, some (.str z)], [x0, x1, x2, some (.str z0), some (.lst false (rs.map ruleV)), x5, x6, x7, x8, x9, x10, some (.str z)], rfl, ?_, fun _ => ⟨false, [x0, x1, x2, some (.str z0), some (.lst false (rs.map ruleV)), x5, x6, x7, x8, x9, x10, some (.str z)], ?_, rfl, rfl⟩, fun _ => rfl⟩
    · simp [small_line, q_nil, exL, exS, evE, evL, evI, evT, evTAnd, evTOr, evAnd, evOr, evIfs, evArgs, lendIx, lendOut, lendBack, forGo, R.bind_ok, R.bind_exc, R.bind_stuck, q_addI, q_addS, q_addL, q_addT, q_sub, q_mul, q_fdiv, q_mod, q_pow, q_neg, q_ltI, q_ltS, q_lt', q_le, q_gt, q_ge, q_eqI, q_neI, q_eqS, q_neS, q_eqB, q_neB, q_isN, q_notN, q_isi, q_lst, q_tup, q_dnK, q_dnT, q_ixL, q_ixT, q_ixC, q_ixS, r_ixL, r_ixT, r_ixS, q_lenL, q_lenT, q_lenC, q_lenD, q_lenS, q_listL, q_listT, q_listD, q_tupOf, q_max, q_min, q_intB, q_intI, q_all, q_any, q_slL, q_slT, q_slS, q_inS1, q_ninS1, CV.val, Val.truth, Tgt.bind, Tgt.bindL, storable, fz?, Def.outs, Val.noOwn, noOwnL, pureL, ME.pure, IK.items, IK.stays, List.range_succ, List.replicate, MOp.sem, isLst, parts?, i0_law, tf0_law, tf1_law, tf2_law, tf3_law, tf4_law, tf5_law, tf6_law, tf7_law, tf8_law, tf9_law, tf10_law, tf11_law, nr, e]
    · simp [small_line, q_nil, exL, exS, evE, evL, evI, evT, evTAnd, evTOr, evAnd, evOr, evIfs, evArgs, lendIx, lendOut, lendBack, forGo, R.bind_ok, R.bind_exc, R.bind_stuck, q_addI, q_addS, q_addL, q_addT, q_sub, q_mul, q_fdiv, q_mod, q_pow, q_neg, q_ltI, q_ltS, q_lt', q_le, q_gt, q_ge, q_eqI, q_neI, q_eqS, q_neS, q_eqB, q_neB, q_isN, q_notN, q_isi, q_lst, q_tup, q_dnK, q_dnT, q_ixL, q_ixT, q_ixC, q_ixS, r_ixL, r_ixT, r_ixS, q_lenL, q_lenT, q_lenC, q_lenD, q_lenS, q_listL, q_listT, q_listD, q_tupOf, q_max, q_min, q_intB, q_intI, q_all, q_any, q_slL, q_slT, q_slS, q_inS1, q_ninS1, CV.val, Val.truth, Tgt.bind, Tgt.bindL, storable, fz?, Def.outs, Val.noOwn, noOwnL, pureL, ME.pure, IK.items, IK.stays, List.range_succ, List.replicate, MOp.sem, isLst, parts?, e0_law])
  have hle := List.length_filter_le (fun z => !decide (z ∈ nmsL rs)) (M ++ [z0])
  rw [List.length_append, List.length_singleton] at hle
  refine ⟨(M ++ [z0]).filter fun z => !decide (z ∈ nmsL rs), fun z hz => ?_, by omega, ?_⟩
  · obtain ⟨h1, h2⟩ := List.mem_filter.mp hz
    exact ⟨(List.mem_append.mp h1).elim (hM z) fun h => by rw [List.mem_singleton.mp h]; exact h0.ok, by simpa using h2⟩
  · generalize ((M ++ [z0]).filter fun z => !decide (z ∈ nmsL rs)) = L at q hle ⊢
    have hL : L.length ≤ sizeLine := by omega
    have nL := frzL_strs L
    have nM := noOwn_strs M
    have hlm : (M.map Val.str).length + 1 ≤ sizeLine := by rw [List.length_map]; omega
    rw [List.map_append, List.map_singleton] at q
    have n2 : noOwnL (M.map Val.str ++ [.str z0]) = true := noOwn_app nM rfl
    generalize M.map Val.str = ms at e1 q nM n2 hlm
    simp [small_line, q_nil, exL, exS, evE, evL, evI, evT, evTAnd, evTOr, evAnd, evOr, evIfs, evArgs, lendIx, lendOut, lendBack, forGo, R.bind_ok, R.bind_exc, R.bind_stuck, q_addI, q_addS, q_addL, q_addT, q_sub, q_mul, q_fdiv, q_mod, q_pow, q_neg, q_ltI, q_ltS, q_lt', q_le, q_gt, q_ge, q_eqI, q_neI, q_eqS, q_neS, q_eqB, q_neB, q_isN, q_notN, q_isi, q_lst, q_tup, q_dnK, q_dnT, q_ixL, q_ixT, q_ixC, q_ixS, r_ixL, r_ixT, r_ixS, q_lenL, q_lenT, q_lenC, q_lenD, q_lenS, q_listL, q_listT, q_listD, q_tupOf, q_max, q_min, q_intB, q_intI, q_all, q_any, q_slL, q_slT, q_slS, q_inS1, q_ninS1, CV.val, Val.truth, Tgt.bind, Tgt.bindL, storable, fz?, Def.outs, Val.noOwn, noOwnL, pureL, ME.pure, IK.items, IK.stays, List.range_succ, List.replicate, MOp.sem, isLst, parts?, s14_law, c0_law, tf0_law, tf1_law, tf2_law, tf3_law, tf4_law, tf5_law, tf6_law, tf7_law, tf8_law, tf9_law, tf10_law, tf11_law, nr, e1, nM, n2, hlm, wipeOk, wipeE, q, hL, Val.frz, nL]
theorem all_ok {rs : List R3} (hB : IsBook rs) {L : List Str} (hL : ∀ z ∈ L, PyData.strOk z = true ∧ ¬ z ∈ nmsL rs) (hl : L.length ≤ 1001) {x0 x1 x2 x3 x4 x6 x7 x8 x9 : Option Val} :
    exS T_law s16_law [x0, x1, x2, x3, x4, some (.lst false (rs.map ruleV)), x6, x7, x8, x9, some (.lst false (L.map Val.str)), none] = .ok (none, [x0, x1, x2, x3, x4, some (.lst false (rs.map ruleV)), x6, x7, x8, x9, some (.lst false (L.map Val.str)), none]) := by
  have hs := big_line
  have nr := noOwn_rules rs
  have nL := noOwn_strs L
  have q := lcGo_as (vs := [11]) (bt := g3_law.bind) (c := evIfs T_law i1_law) (f := evE T_law e1_law) (E := [x0, x1, x2, x3, x4, some (.lst false (rs.map ruleV)), x6, x7, x8, x9, some (.lst false (L.map Val.str)), none]) Val.str (fun _ => true) (fun _ => Val.bl true) (as := L) (by
    intro z hz
    have e := refused_ok' hB (hL z hz).1 (hL z hz).2
    refine ⟨[x0, x1, x2, x3, x4, some (.lst false (rs.map ruleV)), x6, x7, x8, x9, some (.lst false (L.map Val.str)), some (.str z)], [x0, x1, x2, x3, x4, some (.lst false (rs.map ruleV)), x6, x7, x8, x9, some (.lst false (L.map Val.str)), some (.str z)], rfl, ?_, fun _ => ⟨true, [x0, x1, x2, x3, x4, some (.lst false (rs.map ruleV)), x6, x7, x8, x9, some (.lst false (L.map Val.str)), some (.str z)], ?_, rfl, rfl⟩, nofun⟩
    · simp [small_line, q_nil, exL, exS, evE, evL, evI, evT, evTAnd, evTOr, evAnd, evOr, evIfs, evArgs, lendIx, lendOut, lendBack, forGo, R.bind_ok, R.bind_exc, R.bind_stuck, q_addI, q_addS, q_addL, q_addT, q_sub, q_mul, q_fdiv, q_mod, q_pow, q_neg, q_ltI, q_ltS, q_lt', q_le, q_gt, q_ge, q_eqI, q_neI, q_eqS, q_neS, q_eqB, q_neB, q_isN, q_notN, q_isi, q_lst, q_tup, q_dnK, q_dnT, q_ixL, q_ixT, q_ixC, q_ixS, r_ixL, r_ixT, r_ixS, q_lenL, q_lenT, q_lenC, q_lenD, q_lenS, q_listL, q_listT, q_listD, q_tupOf, q_max, q_min, q_intB, q_intI, q_all, q_any, q_slL, q_slT, q_slS, q_inS1, q_ninS1, CV.val, Val.truth, Tgt.bind, Tgt.bindL, storable, fz?, Def.outs, Val.noOwn, noOwnL, pureL, ME.pure, IK.items, IK.stays, List.range_succ, List.replicate, MOp.sem, isLst, parts?, i1_law]
    · generalize L.map Val.str = ls
      simp [small_line, q_nil, exL, exS, evE, evL, evI, evT, evTAnd, evTOr, evAnd, evOr, evIfs, evArgs, lendIx, lendOut, lendBack, forGo, R.bind_ok, R.bind_exc, R.bind_stuck, q_addI, q_addS, q_addL, q_addT, q_sub, q_mul, q_fdiv, q_mod, q_pow, q_neg, q_ltI, q_ltS, q_lt', q_le, q_gt, q_ge, q_eqI, q_neI, q_eqS, q_neS, q_eqB, q_neB, q_isN, q_notN, q_isi, q_lst, q_tup, q_dnK, q_dnT, q_ixL, q_ixT, q_ixC, q_ixS, r_ixL, r_ixT, r_ixS, q_lenL, q_lenT, q_lenC, q_lenD, q_lenS, q_listL, q_listT, q_listD, q_tupOf, q_max, q_min, q_intB, q_intI, q_all, q_any, q_slL, q_slT, q_slS, q_inS1, q_ninS1, CV.val, Val.truth, Tgt.bind, Tgt.bindL, storable, fz?, Def.outs, Val.noOwn, noOwnL, pureL, ME.pure, IK.items, IK.stays, List.range_succ, List.replicate, MOp.sem, isLst, parts?, e1_law, tf0_law, tf1_law, tf2_law, tf3_law, tf4_law, tf5_law, tf6_law, tf7_law, tf8_law, tf9_law, tf10_law, tf11_law, nr, e])
  rw [List.filter_eq_self.mpr (fun _ _ => rfl)] at q
  have ha := fun o u => q_allP (o := o) (u := u) (l := L) (p := fun _ => true)
  have hL' : (L.map fun _ => Val.bl true).length ≤ sizeLine := by rw [List.length_map]; omega
  have hall : L.all (fun _ => true) = true := by simp
  rw [hall] at ha
  generalize (L.map fun _ => Val.bl true) = bs at q ha hL'
  have ec : evE T_law c1_law [x0, x1, x2, x3, x4, some (.lst false (rs.map ruleV)), x6, x7, x8, x9, some (.lst false (L.map Val.str)), none] = .ok (.lst true bs, true, [x0, x1, x2, x3, x4, some (.lst false (rs.map ruleV)), x6, x7, x8, x9, some (.lst false (L.map Val.str)), none]) := by
    simp [small_line, q_nil, exL, exS, evE, evL, evI, evT, evTAnd, evTOr, evAnd, evOr, evIfs, evArgs, lendIx, lendOut, lendBack, forGo, R.bind_ok, R.bind_exc, R.bind_stuck, q_addI, q_addS, q_addL, q_addT, q_sub, q_mul, q_fdiv, q_mod, q_pow, q_neg, q_ltI, q_ltS, q_lt', q_le, q_gt, q_ge, q_eqI, q_neI, q_eqS, q_neS, q_eqB, q_neB, q_isN, q_notN, q_isi, q_lst, q_tup, q_dnK, q_dnT, q_ixL, q_ixT, q_ixC, q_ixS, r_ixL, r_ixT, r_ixS, q_lenL, q_lenT, q_lenC, q_lenD, q_lenS, q_listL, q_listT, q_listD, q_tupOf, q_max, q_min, q_intB, q_intI, q_all, q_any, q_slL, q_slT, q_slS, q_inS1, q_ninS1, CV.val, Val.truth, Tgt.bind, Tgt.bindL, storable, fz?, Def.outs, Val.noOwn, noOwnL, pureL, ME.pure, IK.items, IK.stays, List.range_succ, List.replicate, MOp.sem, isLst, parts?, c1_law, nL, wipeOk, wipeE, q, hL']
  generalize L.map Val.str = ls at ec ⊢
  have t : evT T_law (.tNot (.tru (.prim .all 0 ⟨0, 0, 0, 0⟩ ⟨0, 0, 0, 0⟩ ⟨0, 0, 0, 0⟩ [c1_law])) ⟨0, 0, 0, 0⟩) [x0, x1, x2, x3, x4, some (.lst false (rs.map ruleV)), x6, x7, x8, x9, some (.lst false ls), none] = .ok (false, [x0, x1, x2, x3, x4, some (.lst false (rs.map ruleV)), x6, x7, x8, x9, some (.lst false ls), none]) := by
    simp only [evT, evE, evL, ec, R.bind_ok, Bool.true_or, if_true, ha, Val.truth, Bool.not_true]
  simp only [evT] at t
  simp only [s16_law, exS, evT, evE, evL, ec, R.bind_ok, Bool.true_or, if_true, ha, Val.truth, Bool.not_true, Bool.false_eq_true, if_false, exL]
theorem turn_ok {ns : List Int} {k : Int} (h0 : 0 ≤ k) (h1 : k ≤ 62) {x2 x3 x4 x5 x6 x7 x8 x9 x10 : Option Val} (h10 : frzOk [x10] = true) : ∃ y2 y3 y4 y5 y6 y7 y8 y9 y10 : Option Val, frzOk [y10] = true ∧
    exL T_law b18_law [some (.scr ns), some (.int k), x2, x3, x4, x5, x6, x7, x8, x9, x10, none] = .ok (none, [some (.scr ns), some (.int k), y2, y3, y4, y5, y6, y7, y8, y9, y10, none]) := by
  obtain ⟨c, e1⟩ := cell_ok (ns := ns) h0
  obtain ⟨w1, hb1, e2⟩ := bag_ok (c := c) (p := k) h0 (by omega)
  obtain ⟨z0, w2, hz0, hb2, e3⟩ := name_ok (last := Str.ofString "") hb1 (by omega) (by rw [nil_len]; omega) Low.nil
  obtain ⟨rs, w3, hB, hb3, x4'⟩ := the_book hb2 (by omega) (x0 := some (.scr ns)) (x1 := some (.int k)) (x3 := some (.str z0)) (x4 := x4) (x5 := x5) (x6 := x6) (x7 := x7) (x8 := x8) (x9 := x9) (x10 := x10)
  have hln := hB.len
  have fr := frzL_rules rs
  have nr := noOwn_rules rs
  have e4 := lawempty_ok hB.ok (by omega)
  have fF := frzL_strs (sortS (fixE rs))
  have hx10 : frzOk [some (.scr ns), some (.int k), some w3, some (.str z0), some (.lst false (rs.map ruleV)), x10] = true := by
    obtain ⟨a, b, c, rfl, _⟩ := hb3
    simp only [frzOk, List.all_cons, List.all_nil, Bool.and_true, Bool.and_eq_true] at h10 ⊢
    refine ⟨rfl, rfl, rfl, rfl, ?_, h10⟩
    simp only [Val.frz, fr, Val.noOwn, nr, Bool.not_false, Bool.and_self]
  obtain ⟨envF, q1, y7, y8, y9, rfl⟩ := forGo_ix (bt := g1_law.bind) (b := exL T_law b7_law) (fun _ env => ∃ y7 y8 y9, env = [some (.scr ns), some (.int k), some w3, some (.str z0), some (.lst false (rs.map ruleV)), some (.lst false (rs.map ruleV)), some (.lst false ((sortS (fixE rs)).map Val.str)), y7, y8, y9, x10, none]) (items := rs.map ruleV) (i := 0)
    (env := [some (.scr ns), some (.int k), some w3, some (.str z0), some (.lst false (rs.map ruleV)), some (.lst false (rs.map ruleV)), some (.lst false ((sortS (fixE rs)).map Val.str)), x7, x8, x9, x10, none]) (by
      rintro j x env hx ⟨y7, y8, y9, rfl⟩
      obtain ⟨r, hr, rfl⟩ := List.mem_map.mp (List.mem_of_getElem? hx)
      obtain ⟨z9, e⟩ := inner_ok hB hr hx10 (x0 := some (.scr ns)) (x1 := some (.int k)) (x2 := some w3) (x3 := some (.str z0)) (x4 := some (.lst false (rs.map ruleV))) (x9 := y9) (x10 := x10)
      exact ⟨_, _, rfl, e, _, _, _, rfl⟩) ⟨x7, x8, x9, rfl⟩
  obtain ⟨L, hL, hLl, x14⟩ := asked_ok hB hz0 (x0 := some (.scr ns)) (x1 := some (.int k)) (x2 := some w3) (x5 := some (.lst false (rs.map ruleV))) (x6 := some (.lst false ((sortS (fixE rs)).map Val.str))) (x7 := y7) (x8 := y8) (x9 := y9) (x10 := x10)
  have x16 := all_ok hB hL hLl (x0 := some (.scr ns)) (x1 := some (.int k)) (x2 := some w3) (x3 := some (.str z0)) (x4 := some (.lst false (rs.map ruleV))) (x6 := some (.lst false ((sortS (fixE rs)).map Val.str))) (x7 := y7) (x8 := y8) (x9 := y9)
  have hr := fun u v => q_neR (o := false) (o' := false) (u := u) (v := v) hB.ok hB.ok
  have fL : frzOk [some (.lst false (L.map Val.str))] = true := by
    simp only [frzOk, List.all_cons, List.all_nil, Bool.and_true, Val.frz, frzL_strs, Val.noOwn, noOwn_strs, Bool.not_false]
  generalize L.map Val.str = ls at x14 x16 fL
  generalize (sortS (fixE rs)).map Val.str = Fs at e4 fF q1 x14 x16
  have x0 : exS T_law s0_law [some (.scr ns), some (.int k), x2, x3, x4, x5, x6, x7, x8, x9, x10, none] = .ok (none, [some (.scr ns), some (.int k), some w1, x3, x4, x5, x6, x7, x8, x9, x10, none]) := by
    simp [small_line, q_nil, exL, exS, evE, evL, evI, evT, evTAnd, evTOr, evAnd, evOr, evIfs, evArgs, lendIx, lendOut, lendBack, forGo, R.bind_ok, R.bind_exc, R.bind_stuck, q_addI, q_addS, q_addL, q_addT, q_sub, q_mul, q_fdiv, q_mod, q_pow, q_neg, q_ltI, q_ltS, q_lt', q_le, q_gt, q_ge, q_eqI, q_neI, q_eqS, q_neS, q_eqB, q_neB, q_isN, q_notN, q_isi, q_lst, q_tup, q_dnK, q_dnT, q_ixL, q_ixT, q_ixC, q_ixS, r_ixL, r_ixT, r_ixS, q_lenL, q_lenT, q_lenC, q_lenD, q_lenS, q_listL, q_listT, q_listD, q_tupOf, q_max, q_min, q_intB, q_intI, q_all, q_any, q_slL, q_slT, q_slS, q_inS1, q_ninS1, CV.val, Val.truth, Tgt.bind, Tgt.bindL, storable, fz?, Def.outs, Val.noOwn, noOwnL, pureL, ME.pure, IK.items, IK.stays, List.range_succ, List.replicate, MOp.sem, isLst, parts?, s0_law, tf0_law, tf1_law, tf2_law, tf3_law, tf4_law, tf5_law, tf6_law, tf7_law, tf8_law, tf9_law, tf10_law, tf11_law, e1, e2]
  have x1 : exS T_law s1_law [some (.scr ns), some (.int k), some w1, x3, x4, x5, x6, x7, x8, x9, x10, none] = .ok (none, [some (.scr ns), some (.int k), some w2, some (.str z0), x4, x5, x6, x7, x8, x9, x10, none]) := by
    simp [small_line, q_nil, exL, exS, evE, evL, evI, evT, evTAnd, evTOr, evAnd, evOr, evIfs, evArgs, lendIx, lendOut, lendBack, forGo, R.bind_ok, R.bind_exc, R.bind_stuck, q_addI, q_addS, q_addL, q_addT, q_sub, q_mul, q_fdiv, q_mod, q_pow, q_neg, q_ltI, q_ltS, q_lt', q_le, q_gt, q_ge, q_eqI, q_neI, q_eqS, q_neS, q_eqB, q_neB, q_isN, q_notN, q_isi, q_lst, q_tup, q_dnK, q_dnT, q_ixL, q_ixT, q_ixC, q_ixS, r_ixL, r_ixT, r_ixS, q_lenL, q_lenT, q_lenC, q_lenD, q_lenS, q_listL, q_listT, q_listD, q_tupOf, q_max, q_min, q_intB, q_intI, q_all, q_any, q_slL, q_slT, q_slS, q_inS1, q_ninS1, CV.val, Val.truth, Tgt.bind, Tgt.bindL, storable, fz?, Def.outs, Val.noOwn, noOwnL, pureL, ME.pure, IK.items, IK.stays, List.range_succ, List.replicate, MOp.sem, isLst, parts?, s1_law, tf0_law, tf1_law, tf2_law, tf3_law, tf4_law, tf5_law, tf6_law, tf7_law, tf8_law, tf9_law, tf10_law, tf11_law, e3]
  have x5' : exS T_law s5_law [some (.scr ns), some (.int k), some w3, some (.str z0), some (.lst false (rs.map ruleV)), x5, x6, x7, x8, x9, x10, none] = .ok (none, [some (.scr ns), some (.int k), some w3, some (.str z0), some (.lst false (rs.map ruleV)), some (.lst false (rs.map ruleV)), x6, x7, x8, x9, x10, none]) := by
    simp [small_line, q_nil, exL, exS, evE, evL, evI, evT, evTAnd, evTOr, evAnd, evOr, evIfs, evArgs, lendIx, lendOut, lendBack, forGo, R.bind_ok, R.bind_exc, R.bind_stuck, q_addI, q_addS, q_addL, q_addT, q_sub, q_mul, q_fdiv, q_mod, q_pow, q_neg, q_ltI, q_ltS, q_lt', q_le, q_gt, q_ge, q_eqI, q_neI, q_eqS, q_neS, q_eqB, q_neB, q_isN, q_notN, q_isi, q_lst, q_tup, q_dnK, q_dnT, q_ixL, q_ixT, q_ixC, q_ixS, r_ixL, r_ixT, r_ixS, q_lenL, q_lenT, q_lenC, q_lenD, q_lenS, q_listL, q_listT, q_listD, q_tupOf, q_max, q_min, q_intB, q_intI, q_all, q_any, q_slL, q_slT, q_slS, q_inS1, q_ninS1, CV.val, Val.truth, Tgt.bind, Tgt.bindL, storable, fz?, Def.outs, Val.noOwn, noOwnL, pureL, ME.pure, IK.items, IK.stays, List.range_succ, List.replicate, MOp.sem, isLst, parts?, s5_law, tf0_law, tf1_law, tf2_law, tf3_law, tf4_law, tf5_law, tf6_law, tf7_law, tf8_law, tf9_law, tf10_law, tf11_law, nr, Val.frz, fr]
  have x6' : exS T_law s6_law [some (.scr ns), some (.int k), some w3, some (.str z0), some (.lst false (rs.map ruleV)), some (.lst false (rs.map ruleV)), x6, x7, x8, x9, x10, none] = .ok (none, [some (.scr ns), some (.int k), some w3, some (.str z0), some (.lst false (rs.map ruleV)), some (.lst false (rs.map ruleV)), some (.lst false Fs), x7, x8, x9, x10, none]) := by
    simp [small_line, q_nil, exL, exS, evE, evL, evI, evT, evTAnd, evTOr, evAnd, evOr, evIfs, evArgs, lendIx, lendOut, lendBack, forGo, R.bind_ok, R.bind_exc, R.bind_stuck, q_addI, q_addS, q_addL, q_addT, q_sub, q_mul, q_fdiv, q_mod, q_pow, q_neg, q_ltI, q_ltS, q_lt', q_le, q_gt, q_ge, q_eqI, q_neI, q_eqS, q_neS, q_eqB, q_neB, q_isN, q_notN, q_isi, q_lst, q_tup, q_dnK, q_dnT, q_ixL, q_ixT, q_ixC, q_ixS, r_ixL, r_ixT, r_ixS, q_lenL, q_lenT, q_lenC, q_lenD, q_lenS, q_listL, q_listT, q_listD, q_tupOf, q_max, q_min, q_intB, q_intI, q_all, q_any, q_slL, q_slT, q_slS, q_inS1, q_ninS1, CV.val, Val.truth, Tgt.bind, Tgt.bindL, storable, fz?, Def.outs, Val.noOwn, noOwnL, pureL, ME.pure, IK.items, IK.stays, List.range_succ, List.replicate, MOp.sem, isLst, parts?, s6_law, tf0_law, tf1_law, tf2_law, tf3_law, tf4_law, tf5_law, tf6_law, tf7_law, tf8_law, tf9_law, tf10_law, tf11_law, nr, e4, Val.frz, fF]
  have x13 : exS T_law s13_law [some (.scr ns), some (.int k), some w3, some (.str z0), some (.lst false (rs.map ruleV)), some (.lst false (rs.map ruleV)), some (.lst false Fs), x7, x8, x9, x10, none] = .ok (none, [some (.scr ns), some (.int k), some w3, some (.str z0), some (.lst false (rs.map ruleV)), some (.lst false (rs.map ruleV)), some (.lst false Fs), y7, y8, y9, x10, none]) := by
    simp [small_line, q_nil, exL, exS, evE, evL, evI, evT, evTAnd, evTOr, evAnd, evOr, evIfs, evArgs, lendIx, lendOut, lendBack, forGo, R.bind_ok, R.bind_exc, R.bind_stuck, q_addI, q_addS, q_addL, q_addT, q_sub, q_mul, q_fdiv, q_mod, q_pow, q_neg, q_ltI, q_ltS, q_lt', q_le, q_gt, q_ge, q_eqI, q_neI, q_eqS, q_neS, q_eqB, q_neB, q_isN, q_notN, q_isi, q_lst, q_tup, q_dnK, q_dnT, q_ixL, q_ixT, q_ixC, q_ixS, r_ixL, r_ixT, r_ixS, q_lenL, q_lenT, q_lenC, q_lenD, q_lenS, q_listL, q_listT, q_listD, q_tupOf, q_max, q_min, q_intB, q_intI, q_all, q_any, q_slL, q_slT, q_slS, q_inS1, q_ninS1, CV.val, Val.truth, Tgt.bind, Tgt.bindL, storable, fz?, Def.outs, Val.noOwn, noOwnL, pureL, ME.pure, IK.items, IK.stays, List.range_succ, List.replicate, MOp.sem, isLst, parts?, s13_law, nr, -forGo]
    exact q1
  have x18 : exS T_law s18_law [some (.scr ns), some (.int k), some w3, some (.str z0), some (.lst false (rs.map ruleV)), some (.lst false (rs.map ruleV)), some (.lst false Fs), y7, y8, y9, some (.lst false ls), none] = .ok (none, [some (.scr ns), some (.int k), some w3, some (.str z0), some (.lst false (rs.map ruleV)), some (.lst false (rs.map ruleV)), some (.lst false Fs), y7, y8, y9, some (.lst false ls), none]) := by
    simp [small_line, q_nil, exL, exS, evE, evL, evI, evT, evTAnd, evTOr, evAnd, evOr, evIfs, evArgs, lendIx, lendOut, lendBack, forGo, R.bind_ok, R.bind_exc, R.bind_stuck, q_addI, q_addS, q_addL, q_addT, q_sub, q_mul, q_fdiv, q_mod, q_pow, q_neg, q_ltI, q_ltS, q_lt', q_le, q_gt, q_ge, q_eqI, q_neI, q_eqS, q_neS, q_eqB, q_neB, q_isN, q_notN, q_isi, q_lst, q_tup, q_dnK, q_dnT, q_ixL, q_ixT, q_ixC, q_ixS, r_ixL, r_ixT, r_ixS, q_lenL, q_lenT, q_lenC, q_lenD, q_lenS, q_listL, q_listT, q_listD, q_tupOf, q_max, q_min, q_intB, q_intI, q_all, q_any, q_slL, q_slT, q_slS, q_inS1, q_ninS1, CV.val, Val.truth, Tgt.bind, Tgt.bindL, storable, fz?, Def.outs, Val.noOwn, noOwnL, pureL, ME.pure, IK.items, IK.stays, List.range_succ, List.replicate, MOp.sem, isLst, parts?, s18_law, nr, hr]
  exact ⟨_, _, _, _, _, _, _, _, _, fL, (exL_step x0).trans ((exL_step x1).trans ((exL_step x4').trans ((exL_step x5').trans ((exL_step x6').trans ((exL_step x13).trans ((exL_step x14).trans ((exL_step x16).trans ((exL_step (ss := []) x18).trans exL_nil))))))))⟩
theorem law_true (ns : List Int) (hl : ns.length ≤ 63) : ∃ outs, d_law.run T_law [.scr ns] = .ok (.bl true) outs := by
  obtain ⟨j, hj, hj1, hj2⟩ := cells_len hl (m := 10) (by decide) (by decide)
  obtain ⟨envF, q1, y1, y2, y3, y4, y5, y6, y7, y8, y9, y10, rfl, _⟩ := forGo_inv (bt := g0_law.bind) (b := exL T_law b18_law) 63
    (fun i env => ∃ y1 y2 y3 y4 y5 y6 y7 y8 y9 y10 : Option Val, env = [some (.scr ns), y1, y2, y3, y4, y5, y6, y7, y8, y9, y10, none] ∧ frzOk [y10] = true)
    (items := rangeV 0 j.toNat) (i := 0) (env := [some (.scr ns), none, none, none, none, none, none, none, none, none, none, none]) (by rw [rangeV_len]; omega) (by
      rintro i x env hi hx ⟨y1, y2, y3, y4, y5, y6, y7, y8, y9, y10, rfl, hy⟩
      obtain ⟨m, hm, rfl⟩ := rangeV_mem hx
      obtain ⟨z2, z3, z4, z5, z6, z7, z8, z9, z10, hz, e⟩ := turn_ok (ns := ns) (k := 0 + (m : Int)) (by omega) (by omega) hy (x2 := y2) (x3 := y3) (x4 := y4) (x5 := y5) (x6 := y6) (x7 := y7) (x8 := y8) (x9 := y9) (x10 := y10)
      exact ⟨_, _, rfl, e, _, _, _, _, _, _, _, _, _, _, rfl, hz⟩) ⟨_, _, _, _, _, _, _, _, _, _, rfl, rfl⟩
  have hs : small62 j = true := small62_of
  refine ⟨[none], ?_⟩
  have e0 : exS T_law s19_law [some (.scr ns), none, none, none, none, none, none, none, none, none, none, none] = .ok (none, [some (.scr ns), y1, y2, y3, y4, y5, y6, y7, y8, y9, y10, none]) := by
    refine for_range1 (j := j) (u := true) ?_ hs q1
    have hj' : (if (if (10 : Int) > (ns.length : Int) then (ns.length : Int) else 10) > 1 then (if (10 : Int) > (ns.length : Int) then (ns.length : Int) else 10) else 1) = j := hj
    simp [small_line, q_nil, exL, exS, evE, evL, evI, evT, evTAnd, evTOr, evAnd, evOr, evIfs, evArgs, lendIx, lendOut, lendBack, forGo, R.bind_ok, R.bind_exc, R.bind_stuck, q_addI, q_addS, q_addL, q_addT, q_sub, q_mul, q_fdiv, q_mod, q_pow, q_neg, q_ltI, q_ltS, q_lt', q_le, q_gt, q_ge, q_eqI, q_neI, q_eqS, q_neS, q_eqB, q_neB, q_isN, q_notN, q_isi, q_lst, q_tup, q_dnK, q_dnT, q_ixL, q_ixT, q_ixC, q_ixS, r_ixL, r_ixT, r_ixS, q_lenL, q_lenT, q_lenC, q_lenD, q_lenS, q_listL, q_listT, q_listD, q_tupOf, q_max, q_min, q_intB, q_intI, q_all, q_any, q_slL, q_slT, q_slS, q_inS1, q_ninS1, CV.val, Val.truth, Tgt.bind, Tgt.bindL, storable, fz?, Def.outs, Val.noOwn, noOwnL, pureL, ME.pure, IK.items, IK.stays, List.range_succ, List.replicate, MOp.sem, isLst, parts?, hj']
  rw [Def.run]
  simp [small_line, q_nil, exL, exS, evE, evL, evI, evT, evTAnd, evTOr, evAnd, evOr, evIfs, evArgs, lendIx, lendOut, lendBack, forGo, R.bind_ok, R.bind_exc, R.bind_stuck, q_addI, q_addS, q_addL, q_addT, q_sub, q_mul, q_fdiv, q_mod, q_pow, q_neg, q_ltI, q_ltS, q_lt', q_le, q_gt, q_ge, q_eqI, q_neI, q_eqS, q_neS, q_eqB, q_neB, q_isN, q_notN, q_isi, q_lst, q_tup, q_dnK, q_dnT, q_ixL, q_ixT, q_ixC, q_ixS, r_ixL, r_ixT, r_ixS, q_lenL, q_lenT, q_lenC, q_lenD, q_lenS, q_listL, q_listT, q_listD, q_tupOf, q_max, q_min, q_intB, q_intI, q_all, q_any, q_slL, q_slT, q_slS, q_inS1, q_ninS1, CV.val, Val.truth, Tgt.bind, Tgt.bindL, storable, fz?, Def.outs, Val.noOwn, noOwnL, pureL, ME.pure, IK.items, IK.stays, List.range_succ, List.replicate, MOp.sem, isLst, parts?, d_law, b20_law, b19_law, s20_law, e0, -forGo]
end Law

set_option maxHeartbeats 0
namespace Law
open PySem L2 Mn
/-- where the error classes stand -/
def ecN : List Str := ["NoRule"]
def ecA (K : PySem.W.Frag) (c : Nat) : Addr := match PySem.W.nsIn K mainGlobals (ecN.getD c Str.empty) with
  | some (some (.ref a)) => a
  | _ => 0
theorem all_mk {P : Program} {w : World} {K : PySem.W.Frag} {h : Heap} {mg : Str → Option Value} {fa f0 f1 f2 f3 f4 f5 f6 f7 f8 f9 f10 f11 f12 f13 f14 f15 f16 f17 f18 f19 : Addr} (X : K.In h) (G : h.Ns mainGlobals mg) (hfa : mg "law" = some (.ref fa))
    {od0 an0 : Option Addr} {sl0 : Array (Option Value)} {oc0 kV0 dc0 pm0 cd0 ct0 : Value}
    {od1 an1 : Option Addr} {sl1 : Array (Option Value)} {oc1 kV1 dc1 pm1 cd1 ct1 : Value}
    {od2 an2 : Option Addr} {sl2 : Array (Option Value)} {oc2 kV2 dc2 pm2 cd2 ct2 : Value}
    {od3 an3 : Option Addr} {sl3 : Array (Option Value)} {oc3 kV3 dc3 pm3 cd3 ct3 : Value}
    {od4 an4 : Option Addr} {sl4 : Array (Option Value)} {oc4 kV4 dc4 pm4 cd4 ct4 : Value}
    {od5 an5 : Option Addr} {sl5 : Array (Option Value)} {oc5 kV5 dc5 pm5 cd5 ct5 : Value}
    {od6 an6 : Option Addr} {sl6 : Array (Option Value)} {oc6 kV6 dc6 pm6 cd6 ct6 : Value}
    {od7 an7 : Option Addr} {sl7 : Array (Option Value)} {oc7 kV7 dc7 pm7 cd7 ct7 : Value}
    {od8 an8 : Option Addr} {sl8 : Array (Option Value)} {oc8 kV8 dc8 pm8 cd8 ct8 : Value}
    {od9 an9 : Option Addr} {sl9 : Array (Option Value)} {oc9 kV9 dc9 pm9 cd9 ct9 : Value}
    {od10 an10 : Option Addr} {sl10 : Array (Option Value)} {oc10 kV10 dc10 pm10 cd10 ct10 : Value}
    {od11 an11 : Option Addr} {sl11 : Array (Option Value)} {oc11 kV11 dc11 pm11 cd11 ct11 : Value}
    {od12 an12 : Option Addr} {sl12 : Array (Option Value)} {oc12 kV12 dc12 pm12 cd12 ct12 : Value}
    {od13 an13 : Option Addr} {sl13 : Array (Option Value)} {oc13 kV13 dc13 pm13 cd13 ct13 : Value}
    {od14 an14 : Option Addr} {sl14 : Array (Option Value)} {oc14 kV14 dc14 pm14 cd14 ct14 : Value}
    {od15 an15 : Option Addr} {sl15 : Array (Option Value)} {oc15 kV15 dc15 pm15 cd15 ct15 : Value}
    {od16 an16 : Option Addr} {sl16 : Array (Option Value)} {oc16 kV16 dc16 pm16 cd16 ct16 : Value}
    {od17 an17 : Option Addr} {sl17 : Array (Option Value)} {oc17 kV17 dc17 pm17 cd17 ct17 : Value}
    {od18 an18 : Option Addr} {sl18 : Array (Option Value)} {oc18 kV18 dc18 pm18 cd18 ct18 : Value}
    {od19 an19 : Option Addr} {sl19 : Array (Option Value)} {oc19 kV19 dc19 pm19 cd19 ct19 : Value}
    {ec0 : Addr}
    {er_ReadError : Addr}
    {er_Loops : Addr}
    {er_NoBook : Addr}
    {er_NoDeed : Addr}
    {er_NoForm : Addr}
    {er_NoName : Addr}
    {er_NoPlace : Addr}
    {er_NoRow : Addr}
    {er_NoRows : Addr}
    {er_NoText : Addr}
    {er_TooMany : Addr}
    (a0 : PySem.W.nsIn K mainGlobals "parts_of" = some (some (.ref f0))) (l0 : K.lookup f0 = some ⟨oc0, od0, .func (PySem.W.fnOf "parts_of" "parts_of" (defArgs s_parts_of) (defBody s_parts_of) (defScope s_parts_of) .none kV0 dc0 pm0 an0 cd0 ct0), sl0⟩) (c0 : PySem.W.codeIn K cd0 "parts_of" = true) (k0 : PySem.W.keepIn K (.ref f0) = true)
    (a1 : PySem.W.nsIn K mainGlobals "_law_cell_at" = some (some (.ref f1))) (l1 : K.lookup f1 = some ⟨oc1, od1, .func (PySem.W.fnOf "_law_cell_at" "_law_cell_at" (defArgs s__law_cell_at) (defBody s__law_cell_at) (defScope s__law_cell_at) .none kV1 dc1 pm1 an1 cd1 ct1), sl1⟩) (c1 : PySem.W.codeIn K cd1 "_law_cell_at" = true) (k1 : PySem.W.keepIn K (.ref f1) = true)
    (a2 : PySem.W.nsIn K mainGlobals "_law_bag" = some (some (.ref f2))) (l2 : K.lookup f2 = some ⟨oc2, od2, .func (PySem.W.fnOf "_law_bag" "_law_bag" (defArgs s__law_bag) (defBody s__law_bag) (defScope s__law_bag) .none kV2 dc2 pm2 an2 cd2 ct2), sl2⟩) (c2 : PySem.W.codeIn K cd2 "_law_bag" = true) (k2 : PySem.W.keepIn K (.ref f2) = true)
    (a3 : PySem.W.nsIn K mainGlobals "_law_draw" = some (some (.ref f3))) (l3 : K.lookup f3 = some ⟨oc3, od3, .func (PySem.W.fnOf "_law_draw" "_law_draw" (defArgs s__law_draw) (defBody s__law_draw) (defScope s__law_draw) .none kV3 dc3 pm3 an3 cd3 ct3), sl3⟩) (c3 : PySem.W.codeIn K cd3 "_law_draw" = true) (k3 : PySem.W.keepIn K (.ref f3) = true)
    (a4 : PySem.W.nsIn K mainGlobals "_law_empty" = some (some (.ref f4))) (l4 : K.lookup f4 = some ⟨oc4, od4, .func (PySem.W.fnOf "_law_empty" "_law_empty" (defArgs s__law_empty) (defBody s__law_empty) (defScope s__law_empty) .none kV4 dc4 pm4 an4 cd4 ct4), sl4⟩) (c4 : PySem.W.codeIn K cd4 "_law_empty" = true) (k4 : PySem.W.keepIn K (.ref f4) = true)
    (a5 : PySem.W.nsIn K mainGlobals "_law_begins" = some (some (.ref f5))) (l5 : K.lookup f5 = some ⟨oc5, od5, .func (PySem.W.fnOf "_law_begins" "_law_begins" (defArgs s__law_begins) (defBody s__law_begins) (defScope s__law_begins) .none kV5 dc5 pm5 an5 cd5 ct5), sl5⟩) (c5 : PySem.W.codeIn K cd5 "_law_begins" = true) (k5 : PySem.W.keepIn K (.ref f5) = true)
    (a6 : PySem.W.nsIn K mainGlobals "_law_has" = some (some (.ref f6))) (l6 : K.lookup f6 = some ⟨oc6, od6, .func (PySem.W.fnOf "_law_has" "_law_has" (defArgs s__law_has) (defBody s__law_has) (defScope s__law_has) .none kV6 dc6 pm6 an6 cd6 ct6), sl6⟩) (c6 : PySem.W.codeIn K cd6 "_law_has" = true) (k6 : PySem.W.keepIn K (.ref f6) = true)
    (a7 : PySem.W.nsIn K mainGlobals "may_be_empty" = some (some (.ref f7))) (l7 : K.lookup f7 = some ⟨oc7, od7, .func (PySem.W.fnOf "may_be_empty" "may_be_empty" (defArgs s_may_be_empty) (defBody s_may_be_empty) (defScope s_may_be_empty) .none kV7 dc7 pm7 an7 cd7 ct7), sl7⟩) (c7 : PySem.W.codeIn K cd7 "may_be_empty" = true) (k7 : PySem.W.keepIn K (.ref f7) = true)
    (a8 : PySem.W.nsIn K mainGlobals "first_parts" = some (some (.ref f8))) (l8 : K.lookup f8 = some ⟨oc8, od8, .func (PySem.W.fnOf "first_parts" "first_parts" (defArgs s_first_parts) (defBody s_first_parts) (defScope s_first_parts) .none kV8 dc8 pm8 an8 cd8 ct8), sl8⟩) (c8 : PySem.W.codeIn K cd8 "first_parts" = true) (k8 : PySem.W.keepIn K (.ref f8) = true)
    (a9 : PySem.W.nsIn K mainGlobals "_law_name" = some (some (.ref f9))) (l9 : K.lookup f9 = some ⟨oc9, od9, .func (PySem.W.fnOf "_law_name" "_law_name" (defArgs s__law_name) (defBody s__law_name) (defScope s__law_name) .none kV9 dc9 pm9 an9 cd9 ct9), sl9⟩) (c9 : PySem.W.codeIn K cd9 "_law_name" = true) (k9 : PySem.W.keepIn K (.ref f9) = true)
    (a10 : PySem.W.nsIn K mainGlobals "_law_signs" = some (some (.ref f10))) (l10 : K.lookup f10 = some ⟨oc10, od10, .func (PySem.W.fnOf "_law_signs" "_law_signs" (defArgs s__law_signs) (defBody s__law_signs) (defScope s__law_signs) .none kV10 dc10 pm10 an10 cd10 ct10), sl10⟩) (c10 : PySem.W.codeIn K cd10 "_law_signs" = true) (k10 : PySem.W.keepIn K (.ref f10) = true)
    (a11 : PySem.W.nsIn K mainGlobals "_law_lacking" = some (some (.ref f11))) (l11 : K.lookup f11 = some ⟨oc11, od11, .func (PySem.W.fnOf "_law_lacking" "_law_lacking" (defArgs s__law_lacking) (defBody s__law_lacking) (defScope s__law_lacking) .none kV11 dc11 pm11 an11 cd11 ct11), sl11⟩) (c11 : PySem.W.codeIn K cd11 "_law_lacking" = true) (k11 : PySem.W.keepIn K (.ref f11) = true)
    (a12 : PySem.W.nsIn K mainGlobals "emptiness" = some (some (.ref f12))) (l12 : K.lookup f12 = some ⟨oc12, od12, .func (PySem.W.fnOf "emptiness" "emptiness" (defArgs s_emptiness) (defBody s_emptiness) (defScope s_emptiness) .none kV12 dc12 pm12 an12 cd12 ct12), sl12⟩) (c12 : PySem.W.codeIn K cd12 "emptiness" = true) (k12 : PySem.W.keepIn K (.ref f12) = true)
    (a13 : PySem.W.nsIn K mainGlobals "_law_names" = some (some (.ref f13))) (l13 : K.lookup f13 = some ⟨oc13, od13, .func (PySem.W.fnOf "_law_names" "_law_names" (defArgs s__law_names) (defBody s__law_names) (defScope s__law_names) .none kV13 dc13 pm13 an13 cd13 ct13), sl13⟩) (c13 : PySem.W.codeIn K cd13 "_law_names" = true) (k13 : PySem.W.keepIn K (.ref f13) = true)
    (a14 : PySem.W.nsIn K mainGlobals "_law_form" = some (some (.ref f14))) (l14 : K.lookup f14 = some ⟨oc14, od14, .func (PySem.W.fnOf "_law_form" "_law_form" (defArgs s__law_form) (defBody s__law_form) (defScope s__law_form) .none kV14 dc14 pm14 an14 cd14 ct14), sl14⟩) (c14 : PySem.W.codeIn K cd14 "_law_form" = true) (k14 : PySem.W.keepIn K (.ref f14) = true)
    (a15 : PySem.W.nsIn K mainGlobals "begins" = some (some (.ref f15))) (l15 : K.lookup f15 = some ⟨oc15, od15, .func (PySem.W.fnOf "begins" "begins" (defArgs s_begins) (defBody s_begins) (defScope s_begins) .none kV15 dc15 pm15 an15 cd15 ct15), sl15⟩) (c15 : PySem.W.codeIn K cd15 "begins" = true) (k15 : PySem.W.keepIn K (.ref f15) = true)
    (a16 : PySem.W.nsIn K mainGlobals "_law_book" = some (some (.ref f16))) (l16 : K.lookup f16 = some ⟨oc16, od16, .func (PySem.W.fnOf "_law_book" "_law_book" (defArgs s__law_book) (defBody s__law_book) (defScope s__law_book) .none kV16 dc16 pm16 an16 cd16 ct16), sl16⟩) (c16 : PySem.W.codeIn K cd16 "_law_book" = true) (k16 : PySem.W.keepIn K (.ref f16) = true)
    (a17 : PySem.W.nsIn K mainGlobals "_law_chain" = some (some (.ref f17))) (l17 : K.lookup f17 = some ⟨oc17, od17, .func (PySem.W.fnOf "_law_chain" "_law_chain" (defArgs s__law_chain) (defBody s__law_chain) (defScope s__law_chain) .none kV17 dc17 pm17 an17 cd17 ct17), sl17⟩) (c17 : PySem.W.codeIn K cd17 "_law_chain" = true) (k17 : PySem.W.keepIn K (.ref f17) = true)
    (a18 : PySem.W.nsIn K mainGlobals "_law_refused" = some (some (.ref f18))) (l18 : K.lookup f18 = some ⟨oc18, od18, .func (PySem.W.fnOf "_law_refused" "_law_refused" (defArgs s__law_refused) (defBody s__law_refused) (defScope s__law_refused) .none kV18 dc18 pm18 an18 cd18 ct18), sl18⟩) (c18 : PySem.W.codeIn K cd18 "_law_refused" = true) (k18 : PySem.W.keepIn K (.ref f18) = true)
    (a19 : PySem.W.nsIn K mainGlobals "law" = some (some (.ref f19))) (l19 : K.lookup f19 = some ⟨oc19, od19, .func (PySem.W.fnOf "law" "law" (defArgs s_law) (defBody s_law) (defScope s_law) .none kV19 dc19 pm19 an19 cd19 ct19), sl19⟩) (c19 : PySem.W.codeIn K cd19 "law" = true) (k19 : PySem.W.keepIn K (.ref f19) = true)
    (z_ValueError : PySem.W.nsIn K mainGlobals "ValueError" = some none)
    (z_all : PySem.W.nsIn K mainGlobals "all" = some none)
    (z_any : PySem.W.nsIn K mainGlobals "any" = some none)
    (z_isinstance : PySem.W.nsIn K mainGlobals "isinstance" = some none)
    (z_len : PySem.W.nsIn K mainGlobals "len" = some none)
    (z_list : PySem.W.nsIn K mainGlobals "list" = some none)
    (z_max : PySem.W.nsIn K mainGlobals "max" = some none)
    (z_min : PySem.W.nsIn K mainGlobals "min" = some none)
    (z_range : PySem.W.nsIn K mainGlobals "range" = some none)
    (z_set : PySem.W.nsIn K mainGlobals "set" = some none)
    (z_sorted : PySem.W.nsIn K mainGlobals "sorted" = some none)
    (z_tuple : PySem.W.nsIn K mainGlobals "tuple" = some none)
    (q0 : PySem.W.nsIn K mainGlobals "NoRule" = some (some (.ref ec0)))
    (x0 : PySem.W.excIn K ec0 [.type "ValueError", .type "Exception", .type "BaseException", .type "object"] "ValueError.__new__" = true)
    (y0 : PySem.W.keepIn K (.ref ec0) = true)
    (u0 : PySem.W.subIn K (.ref ec0) (.type "BaseException") = some true)
    (t0 : PySem.W.typeIn K (.ref ec0) = some (.type "type"))
    (r_ReadError : PySem.W.nsIn K mainGlobals "ReadError" = some (some (.ref er_ReadError)))
    (r_Loops : PySem.W.nsIn K mainGlobals "Loops" = some (some (.ref er_Loops)))
    (r_NoBook : PySem.W.nsIn K mainGlobals "NoBook" = some (some (.ref er_NoBook)))
    (r_NoDeed : PySem.W.nsIn K mainGlobals "NoDeed" = some (some (.ref er_NoDeed)))
    (r_NoForm : PySem.W.nsIn K mainGlobals "NoForm" = some (some (.ref er_NoForm)))
    (r_NoName : PySem.W.nsIn K mainGlobals "NoName" = some (some (.ref er_NoName)))
    (r_NoPlace : PySem.W.nsIn K mainGlobals "NoPlace" = some (some (.ref er_NoPlace)))
    (r_NoRow : PySem.W.nsIn K mainGlobals "NoRow" = some (some (.ref er_NoRow)))
    (r_NoRows : PySem.W.nsIn K mainGlobals "NoRows" = some (some (.ref er_NoRows)))
    (r_NoText : PySem.W.nsIn K mainGlobals "NoText" = some (some (.ref er_NoText)))
    (r_TooMany : PySem.W.nsIn K mainGlobals "TooMany" = some (some (.ref er_TooMany)))
    (n1 : PySem.W.subIn K (.ref er_ReadError) (.type "BaseException") = some true)
    (n2 : PySem.W.hasDictIn K er_ReadError = true)
    (n3 : PySem.W.typeIn K (.ref er_ReadError) = some (.type "type"))
    (n4 : PySem.W.subIn K (.ref ec0) (.ref er_ReadError) = some true)
    (e2 : PySem.W.subIn K (.ref ec0) (.type "ValueError") = some true)
    (s_Loops : PySem.W.subIn K (.ref ec0) (.ref er_Loops) = some false)
    (y_Loops : PySem.W.typeIn K (.ref er_Loops) = some (.type "type"))
    (d_Loops : PySem.W.hasDictIn K er_Loops = true)
    (v_Loops : ec0 ≠ er_Loops)
    (s_NoBook : PySem.W.subIn K (.ref ec0) (.ref er_NoBook) = some false)
    (y_NoBook : PySem.W.typeIn K (.ref er_NoBook) = some (.type "type"))
    (d_NoBook : PySem.W.hasDictIn K er_NoBook = true)
    (v_NoBook : ec0 ≠ er_NoBook)
    (s_NoDeed : PySem.W.subIn K (.ref ec0) (.ref er_NoDeed) = some false)
    (y_NoDeed : PySem.W.typeIn K (.ref er_NoDeed) = some (.type "type"))
    (d_NoDeed : PySem.W.hasDictIn K er_NoDeed = true)
    (v_NoDeed : ec0 ≠ er_NoDeed)
    (s_NoForm : PySem.W.subIn K (.ref ec0) (.ref er_NoForm) = some false)
    (y_NoForm : PySem.W.typeIn K (.ref er_NoForm) = some (.type "type"))
    (d_NoForm : PySem.W.hasDictIn K er_NoForm = true)
    (v_NoForm : ec0 ≠ er_NoForm)
    (s_NoName : PySem.W.subIn K (.ref ec0) (.ref er_NoName) = some false)
    (y_NoName : PySem.W.typeIn K (.ref er_NoName) = some (.type "type"))
    (d_NoName : PySem.W.hasDictIn K er_NoName = true)
    (v_NoName : ec0 ≠ er_NoName)
    (s_NoPlace : PySem.W.subIn K (.ref ec0) (.ref er_NoPlace) = some false)
    (y_NoPlace : PySem.W.typeIn K (.ref er_NoPlace) = some (.type "type"))
    (d_NoPlace : PySem.W.hasDictIn K er_NoPlace = true)
    (v_NoPlace : ec0 ≠ er_NoPlace)
    (s_NoRow : PySem.W.subIn K (.ref ec0) (.ref er_NoRow) = some false)
    (y_NoRow : PySem.W.typeIn K (.ref er_NoRow) = some (.type "type"))
    (d_NoRow : PySem.W.hasDictIn K er_NoRow = true)
    (v_NoRow : ec0 ≠ er_NoRow)
    (s_NoRows : PySem.W.subIn K (.ref ec0) (.ref er_NoRows) = some false)
    (y_NoRows : PySem.W.typeIn K (.ref er_NoRows) = some (.type "type"))
    (d_NoRows : PySem.W.hasDictIn K er_NoRows = true)
    (v_NoRows : ec0 ≠ er_NoRows)
    (s_NoText : PySem.W.subIn K (.ref ec0) (.ref er_NoText) = some false)
    (y_NoText : PySem.W.typeIn K (.ref er_NoText) = some (.type "type"))
    (d_NoText : PySem.W.hasDictIn K er_NoText = true)
    (v_NoText : ec0 ≠ er_NoText)
    (s_TooMany : PySem.W.subIn K (.ref ec0) (.ref er_TooMany) = some false)
    (y_TooMany : PySem.W.typeIn K (.ref er_TooMany) = some (.type "type"))
    (d_TooMany : PySem.W.hasDictIn K er_TooMany = true)
    (v_TooMany : ec0 ≠ er_TooMany)
    (e3 : PySem.W.findIn K (.ref ec0) "__getattribute__" = some (some (.builtin "BaseException.__getattribute__")))
    (e4 : PySem.W.findIn K (.ref ec0) "__getattr__" = some none)
    (e5 : PySem.W.hasDictIn K ec0 = true)
    (e6 : PySem.W.findIn K (.ref ec0) "__class__" = some (some (.builtin "object.__class__")))
    (e7 : PySem.W.specialIn K (.builtin "object.__class__") "__get__" = some (some (.builtin "getset_descriptor.__get__")))
    (e8 : PySem.W.takesIn K (.builtin "object.__class__") = some true)
    (e9 : PySem.W.mroIn K ec0 (.type "object") = some true) :
    ∃ fd : FuncData, (∀ (s : Shared) (v : Value), BindsTo s fd ⟨[v], []⟩ [("script", v)]) ∧ ∀ base : Heap, K.In base → base.Ns mainGlobals mg → FnOk P w K mg base (L2.CX P w) 6 fa fd ["script"] (spM K (ecA K) (d_law.run T_law)) := by
  have e := hfa.symm.trans (PySem.W.mg_of X G a19)
  cases e
  have F0 := fun_mk (st := s_parts_of) l0 c0 k0
  have b0 := F0.binds (ps := ["form"]) fun _ _ _ _ _ _ us hl => match us, hl with | [_], _ => rfl
  have F1 := fun_mk (st := s__law_cell_at) l1 c1 k1
  have b1 := F1.binds (ps := ["script", "k"]) fun _ _ _ _ _ _ us hl => match us, hl with | [_, _], _ => rfl
  have F2 := fun_mk (st := s__law_bag) l2 c2 k2
  have b2 := F2.binds (ps := ["cell", "place"]) fun _ _ _ _ _ _ us hl => match us, hl with | [_, _], _ => rfl
  have F3 := fun_mk (st := s__law_draw) l3 c3 k3
  have b3 := F3.binds (ps := ["bag", "many"]) fun _ _ _ _ _ _ us hl => match us, hl with | [_, _], _ => rfl
  have F4 := fun_mk (st := s__law_empty) l4 c4 k4
  have b4 := F4.binds (ps := ["book"]) fun _ _ _ _ _ _ us hl => match us, hl with | [_], _ => rfl
  have F5 := fun_mk (st := s__law_begins) l5 c5 k5
  have b5 := F5.binds (ps := ["form", "empty"]) fun _ _ _ _ _ _ us hl => match us, hl with | [_, _], _ => rfl
  have F6 := fun_mk (st := s__law_has) l6 c6 k6
  have b6 := F6.binds (ps := ["book", "name"]) fun _ _ _ _ _ _ us hl => match us, hl with | [_, _], _ => rfl
  have F7 := fun_mk (st := s_may_be_empty) l7 c7 k7
  have b7 := F7.binds (ps := ["form", "empty"]) fun _ _ _ _ _ _ us hl => match us, hl with | [_, _], _ => rfl
  have F8 := fun_mk (st := s_first_parts) l8 c8 k8
  have b8 := F8.binds (ps := ["form", "empty"]) fun _ _ _ _ _ _ us hl => match us, hl with | [_, _], _ => rfl
  have F9 := fun_mk (st := s__law_name) l9 c9 k9
  have b9 := F9.binds (ps := ["bag", "last"]) fun _ _ _ _ _ _ us hl => match us, hl with | [_, _], _ => rfl
  have F10 := fun_mk (st := s__law_signs) l10 c10 k10
  have b10 := F10.binds (ps := ["bag"]) fun _ _ _ _ _ _ us hl => match us, hl with | [_], _ => rfl
  have F11 := fun_mk (st := s__law_lacking) l11 c11 k11
  have b11 := F11.binds (ps := ["book"]) fun _ _ _ _ _ _ us hl => match us, hl with | [_], _ => rfl
  have F12 := fun_mk (st := s_emptiness) l12 c12 k12
  have b12 := F12.binds (ps := ["book"]) fun _ _ _ _ _ _ us hl => match us, hl with | [_], _ => rfl
  have F13 := fun_mk (st := s__law_names) l13 c13 k13
  have b13 := F13.binds (ps := ["bag", "many"]) fun _ _ _ _ _ _ us hl => match us, hl with | [_, _], _ => rfl
  have F14 := fun_mk (st := s__law_form) l14 c14 k14
  have b14 := F14.binds (ps := ["bag", "names"]) fun _ _ _ _ _ _ us hl => match us, hl with | [_, _], _ => rfl
  have F15 := fun_mk (st := s_begins) l15 c15 k15
  have b15 := F15.binds (ps := ["book", "name"]) fun _ _ _ _ _ _ us hl => match us, hl with | [_, _], _ => rfl
  have F16 := fun_mk (st := s__law_book) l16 c16 k16
  have b16 := F16.binds (ps := ["bag"]) fun _ _ _ _ _ _ us hl => match us, hl with | [_], _ => rfl
  have F17 := fun_mk (st := s__law_chain) l17 c17 k17
  have b17 := F17.binds (ps := ["bag"]) fun _ _ _ _ _ _ us hl => match us, hl with | [_], _ => rfl
  have F18 := fun_mk (st := s__law_refused) l18 c18 k18
  have b18 := F18.binds (ps := ["book", "name"]) fun _ _ _ _ _ _ us hl => match us, hl with | [_, _], _ => rfl
  have F19 := fun_mk (st := s_law) l19 c19 k19
  have b19 := F19.binds (ps := ["script"]) fun _ _ _ _ _ _ us hl => match us, hl with | [_], _ => rfl
  have n_ValueError := PySem.W.mg_none_of X G z_ValueError
  have n_all := PySem.W.mg_none_of X G z_all
  have n_any := PySem.W.mg_none_of X G z_any
  have n_isinstance := PySem.W.mg_none_of X G z_isinstance
  have n_len := PySem.W.mg_none_of X G z_len
  have n_list := PySem.W.mg_none_of X G z_list
  have n_max := PySem.W.mg_none_of X G z_max
  have n_min := PySem.W.mg_none_of X G z_min
  have n_range := PySem.W.mg_none_of X G z_range
  have n_set := PySem.W.mg_none_of X G z_set
  have n_sorted := PySem.W.mg_none_of X G z_sorted
  have n_tuple := PySem.W.mg_none_of X G z_tuple
  have ea0 : ecA K 0 = ec0 := by
    show (match PySem.W.nsIn K mainGlobals "NoRule" with | some (some (.ref a)) => a | _ => 0) = _
    rw [q0]
  have ee0 : EcE (ecA K) K mg 0 "NoRule" := ⟨_, _, _, _, PySem.F.excBase_ValueError, by rw [ea0]; exact x0, by rw [ea0]; exact PySem.W.mg_of X G q0, by rw [ea0]; exact y0, by rw [ea0]; exact u0, by rw [ea0]; exact t0⟩
  have eeA : ∀ (c : Nat) (x : Str), ecN[c]? = some x → EcE (ecA K) K mg c x := by
    intro c x h
    match c, h with
    | 0, h => cases h; exact ee0
    | n + 1, h => cases h
  refine ⟨PySem.W.fnOf "law" "law" (defArgs s_law) (defBody s_law) (defScope s_law) .none kV19 dc19 pm19 an19 cd19 ct19, fun s v => .of_eq rfl, fun base _ _ => ?_⟩
  have RK : RefK K mg (ecA K 0) "NoRule" l__law_refused := by
    rw [ea0]
    exact ⟨⟨_, PySem.W.mg_of X G r_ReadError, PySem.W.exm_ref n1 n2 n3 n4⟩, ⟨e3, e4, u0, e5, e6, e7, e8, e9⟩, ⟨_, .cons (PySem.W.mg_of X G r_Loops) (.cons (PySem.W.mg_of X G r_NoBook) (.cons (PySem.W.mg_of X G r_NoDeed) (.cons (PySem.W.mg_of X G r_NoForm) (.cons (PySem.W.mg_of X G r_NoName) (.cons (PySem.W.mg_of X G r_NoPlace) (.cons (PySem.W.mg_of X G r_NoRow) (.cons (PySem.W.mg_of X G r_NoRows) (.cons (PySem.W.mg_of X G r_NoText) (.cons (PySem.W.mg_of X G r_TooMany) (.nil)))))))))), Nat.le_of_ble_eq_true rfl, kitAny_cons (kit_no s_Loops y_Loops d_Loops v_Loops) (fun _ => kitAny_cons (kit_no s_NoBook y_NoBook d_NoBook v_NoBook) (fun _ => kitAny_cons (kit_no s_NoDeed y_NoDeed d_NoDeed v_NoDeed) (fun _ => kitAny_cons (kit_no s_NoForm y_NoForm d_NoForm v_NoForm) (fun _ => kitAny_cons (kit_no s_NoName y_NoName d_NoName v_NoName) (fun _ => kitAny_cons (kit_no s_NoPlace y_NoPlace d_NoPlace v_NoPlace) (fun _ => kitAny_cons (kit_no s_NoRow y_NoRow d_NoRow v_NoRow) (fun _ => kitAny_cons (kit_no s_NoRows y_NoRows d_NoRows v_NoRows) (fun _ => kitAny_cons (kit_no s_NoText y_NoText d_NoText v_NoText) (fun _ => kitAny_cons (kit_no s_TooMany y_TooMany d_TooMany v_TooMany) (fun _ => kitAny_nil) nofun) nofun) nofun) nofun) nofun) nofun) nofun) nofun) nofun) nofun⟩, PySem.W.mg_of X G q0, n_ValueError, kit_val e2, n_isinstance⟩
  have E0 : FnE (ecA K) 1 P w K mg base "parts_of" (d_parts_of.run T_parts_of) := fn_mk F0 D_parts_of ⟨.nil, .nil, (List.forall_mem_cons.2 ⟨n_list, (fun _ h => nomatch h)⟩), fun _ _ h => by simp [G_parts_of] at h⟩ (PySem.W.mg_of X G a0) b0
  have E1 : FnE (ecA K) 1 P w K mg base "_law_cell_at" (d__law_cell_at.run T__law_cell_at) := fn_mk F1 D__law_cell_at ⟨.nil, .nil, (List.forall_mem_cons.2 ⟨n_len, (fun _ h => nomatch h)⟩), fun _ _ h => by simp [G__law_cell_at] at h⟩ (PySem.W.mg_of X G a1) b1
  have E2 : FnE (ecA K) 1 P w K mg base "_law_bag" (d__law_bag.run T__law_bag) := fn_mk F2 D__law_bag ⟨.nil, .nil, (List.forall_mem_cons.2 ⟨n_max, (fun _ h => nomatch h)⟩), fun _ _ h => by simp [G__law_bag] at h⟩ (PySem.W.mg_of X G a2) b2
  have E3 : FnE (ecA K) 1 P w K mg base "_law_draw" (d__law_draw.run T__law_draw) := fn_mk F3 D__law_draw ⟨.nil, .nil, (fun _ h => nomatch h), fun _ _ h => by simp [G__law_draw] at h⟩ (PySem.W.mg_of X G a3) b3
  have E4 : FnE (ecA K) 1 P w K mg base "_law_empty" (d__law_empty.run T__law_empty) := fn_mk F4 D__law_empty ⟨.nil, .nil, (List.forall_mem_cons.2 ⟨n_range, (List.forall_mem_cons.2 ⟨n_len, (List.forall_mem_cons.2 ⟨n_sorted, (fun _ h => nomatch h)⟩)⟩)⟩), fun _ _ h => by simp [G__law_empty] at h⟩ (PySem.W.mg_of X G a4) b4
  have E5 : FnE (ecA K) 1 P w K mg base "_law_begins" (d__law_begins.run T__law_begins) := fn_mk F5 D__law_begins ⟨.nil, .nil, (List.forall_mem_cons.2 ⟨n_len, (List.forall_mem_cons.2 ⟨n_sorted, (List.forall_mem_cons.2 ⟨n_set, (fun _ h => nomatch h)⟩)⟩)⟩), fun _ _ h => by simp [G__law_begins] at h⟩ (PySem.W.mg_of X G a5) b5
  have E6 : FnE (ecA K) 1 P w K mg base "_law_has" (d__law_has.run T__law_has) := fn_mk F6 D__law_has ⟨.nil, .nil, (fun _ h => nomatch h), fun _ _ h => by simp [G__law_has] at h⟩ (PySem.W.mg_of X G a6) b6
  have E7 : FnE (ecA K) 2 P w K mg base "may_be_empty" (d_may_be_empty.run T_may_be_empty) := fn_mk F7 D_may_be_empty ⟨.nil, .cons (E0.mono (by decide)) (.nil), (List.forall_mem_cons.2 ⟨n_all, (List.forall_mem_cons.2 ⟨n_any, (fun _ h => nomatch h)⟩)⟩), fun _ _ h => by simp [G_may_be_empty] at h⟩ (PySem.W.mg_of X G a7) b7
  have E8 : FnE (ecA K) 2 P w K mg base "first_parts" (d_first_parts.run T_first_parts) := fn_mk F8 D_first_parts ⟨.nil, .cons (E0.mono (by decide)) (.nil), (fun _ h => nomatch h), fun _ _ h => by simp [G_first_parts] at h⟩ (PySem.W.mg_of X G a8) b8
  have E9 : FnE (ecA K) 2 P w K mg base "_law_name" (d__law_name.run T__law_name) := fn_mk F9 D__law_name ⟨.nil, .cons (E3.mono (by decide)) (.nil), (List.forall_mem_cons.2 ⟨n_len, (List.forall_mem_cons.2 ⟨n_range, (fun _ h => nomatch h)⟩)⟩), fun _ _ h => by simp [G__law_name] at h⟩ (PySem.W.mg_of X G a9) b9
  have E10 : FnE (ecA K) 2 P w K mg base "_law_signs" (d__law_signs.run T__law_signs) := fn_mk F10 D__law_signs ⟨.nil, .cons (E3.mono (by decide)) (.nil), (List.forall_mem_cons.2 ⟨n_sorted, (List.forall_mem_cons.2 ⟨n_set, (List.forall_mem_cons.2 ⟨n_range, (fun _ h => nomatch h)⟩)⟩)⟩), fun _ _ h => by simp [G__law_signs] at h⟩ (PySem.W.mg_of X G a10) b10
  have E11 : FnE (ecA K) 2 P w K mg base "_law_lacking" (d__law_lacking.run T__law_lacking) := fn_mk F11 D__law_lacking ⟨.nil, .cons (E6.mono (by decide)) (.nil), (List.forall_mem_cons.2 ⟨n_sorted, (List.forall_mem_cons.2 ⟨n_set, (fun _ h => nomatch h)⟩)⟩), fun _ _ h => by simp [G__law_lacking] at h⟩ (PySem.W.mg_of X G a11) b11
  have E12 : FnE (ecA K) 3 P w K mg base "emptiness" (d_emptiness.run T_emptiness) := fn_mk F12 D_emptiness ⟨.nil, .cons (E7.mono (by decide)) (.nil), (List.forall_mem_cons.2 ⟨n_len, (fun _ h => nomatch h)⟩), fun _ _ h => by simp [G_emptiness] at h⟩ (PySem.W.mg_of X G a12) b12
  have E13 : FnE (ecA K) 3 P w K mg base "_law_names" (d__law_names.run T__law_names) := fn_mk F13 D__law_names ⟨.nil, .cons (E9.mono (by decide)) (.nil), (List.forall_mem_cons.2 ⟨n_range, (List.forall_mem_cons.2 ⟨n_list, (fun _ h => nomatch h)⟩)⟩), fun _ _ h => by simp [G__law_names] at h⟩ (PySem.W.mg_of X G a13) b13
  have E14 : FnE (ecA K) 3 P w K mg base "_law_form" (d__law_form.run T__law_form) := fn_mk F14 D__law_form ⟨.nil, .cons (E3.mono (by decide)) (.cons (E10.mono (by decide)) (.nil)), (List.forall_mem_cons.2 ⟨n_tuple, (List.forall_mem_cons.2 ⟨n_range, (List.forall_mem_cons.2 ⟨n_len, (fun _ h => nomatch h)⟩)⟩)⟩), fun _ _ h => by simp [G__law_form] at h⟩ (PySem.W.mg_of X G a14) b14
  have E15 : FnE (ecA K) 4 P w K mg base "begins" (d_begins.run T_begins) := fn_mk F15 D_begins ⟨.nil, .cons (E12.mono (by decide)) (.cons (E8.mono (by decide)) (.nil)), (List.forall_mem_cons.2 ⟨n_sorted, (List.forall_mem_cons.2 ⟨n_set, (fun _ h => nomatch h)⟩)⟩), eeA⟩ (PySem.W.mg_of X G a15) b15
  have E16 : FnE (ecA K) 4 P w K mg base "_law_book" (d__law_book.run T__law_book) := fn_mk F16 D__law_book ⟨.nil, .cons (E3.mono (by decide)) (.cons (E13.mono (by decide)) (.cons (E14.mono (by decide)) (.nil))), (List.forall_mem_cons.2 ⟨n_min, (List.forall_mem_cons.2 ⟨n_len, (List.forall_mem_cons.2 ⟨n_range, (List.forall_mem_cons.2 ⟨n_sorted, (fun _ h => nomatch h)⟩)⟩)⟩)⟩), fun _ _ h => by simp [G__law_book] at h⟩ (PySem.W.mg_of X G a16) b16
  have E17 : FnE (ecA K) 4 P w K mg base "_law_chain" (d__law_chain.run T__law_chain) := fn_mk F17 D__law_chain ⟨.nil, .cons (E13.mono (by decide)) (.cons (E3.mono (by decide)) (.nil)), (List.forall_mem_cons.2 ⟨n_len, (List.forall_mem_cons.2 ⟨n_range, (List.forall_mem_cons.2 ⟨n_tuple, (List.forall_mem_cons.2 ⟨n_sorted, (fun _ h => nomatch h)⟩)⟩)⟩)⟩), fun _ _ h => by simp [G__law_chain] at h⟩ (PySem.W.mg_of X G a17) b17
  have E18 : FnE (ecA K) 5 P w K mg base "_law_refused" (refF (d_begins.run T_begins)) := ⟨_, _, _, refused_ok (k := 4) F18 F__law_refused C__law_refused S__law_refused (E15.mono (by decide)) RK, PySem.W.mg_of X G a18, F18.kp, b18⟩
  exact def_ok F19 D_law (T := T_law) (cA := (ecA K)) (k := 5) ⟨.nil, .cons (E2.mono (by decide)) (.cons (E1.mono (by decide)) (.cons (E9.mono (by decide)) (.cons (E3.mono (by decide)) (.cons (E17.mono (by decide)) (.cons (E16.mono (by decide)) (.cons (E4.mono (by decide)) (.cons (E15.mono (by decide)) (.cons (E5.mono (by decide)) (.cons (E11.mono (by decide)) (.cons (E6.mono (by decide)) (.cons (E18.mono (by decide)) (.nil)))))))))))), (List.forall_mem_cons.2 ⟨n_range, (List.forall_mem_cons.2 ⟨n_max, (List.forall_mem_cons.2 ⟨n_min, (List.forall_mem_cons.2 ⟨n_len, (List.forall_mem_cons.2 ⟨n_list, (List.forall_mem_cons.2 ⟨n_isinstance, (List.forall_mem_cons.2 ⟨n_all, (fun _ h => nomatch h)⟩)⟩)⟩)⟩)⟩)⟩)⟩), fun _ _ h => by simp [G_law] at h⟩
theorem walk {l : PySem.W.OpenLaw} {q : Program} {loose : List Str} {XP : (Str → Option Value) → Heap → Prop} {YP : World → Heap → Prop} {d : DefRec} {K : Params → PySem.W.Frag} (law_true : ∀ ns : List Int, ns.length ≤ 63 → ∃ outs, d_law.run T_law [.scr ns] = .ok (.bl true) outs) (hn : l.most = some 63) (hdf : d.params.defaults = [])
    (hY : ∀ (w : World) (h : Heap), YP w h → (K w.params).In h)
    (F : ∀ (w : World) (mg : Str → Option Value) (fa : Addr) (h : Heap), (K w.params).In h → h.Ns mainGlobals mg → mg d.name = some (.ref fa) →
      ∃ fd : FuncData, (∀ (s : Shared) (u : Value), BindsTo s fd ⟨[u], []⟩ [("script", u)]) ∧ ∀ base : Heap, (K w.params).In base → base.Ns mainGlobals mg → FnOk l.prog w (K w.params) mg base (L2.CX l.prog w) 6 fa fd ["script"] (spM (K w.params) (ecA (K w.params)) (d_law.run T_law))) :
    PySem.W.WalkO q loose XP YP l.row.toRowW d [] (fun f vs => PySem.call f vs) :=
  L2.walk_of (n := 63) (k := 6) (x := "script") (CX := fun w => L2.CX l.prog w) (sp := fun w => spM (K w.params) (ecA (K w.params)) (d_law.run T_law)) hn (by decide) hdf ⟨rfl, by decide, by decide⟩ hY F (fun w H a ns hl hO hS => law_sp law_true (K w.params) H a ns hl hO hS) fun _ _ _ _ _ h => by
    obtain ⟨_, _, _, _, _, _, _, _, _, _, _, _, z⟩ := h
    exact z.elim
end Law
open PySem PySem.W PyProof.Rows
set_option maxRecDepth 100000 in
set_option maxHeartbeats 0 in
theorem PySem.Challenge.cw_keptreading_k06_begins_holds : PySem.Challenge.rw_keptreading_k06_begins.Holds := by
  w_on; o_law; k_head; (case hw => w_witness2)
  k_fill
  refine Law.walk (l := PySem.Challenge.rw_keptreading_k06_begins) Law.law_true rfl rfl (fun w h Y => PySem.W.kIn_of Y) ?F
  case F =>
    intro w mg fa h KX G hmg
    refine' Law.all_mk KX G hmg ?a0 ?l0 ?c0 ?k0 ?a1 ?l1 ?c1 ?k1 ?a2 ?l2 ?c2 ?k2 ?a3 ?l3 ?c3 ?k3 ?a4 ?l4 ?c4 ?k4 ?a5 ?l5 ?c5 ?k5 ?a6 ?l6 ?c6 ?k6 ?a7 ?l7 ?c7 ?k7 ?a8 ?l8 ?c8 ?k8 ?a9 ?l9 ?c9 ?k9 ?a10 ?l10 ?c10 ?k10 ?a11 ?l11 ?c11 ?k11 ?a12 ?l12 ?c12 ?k12 ?a13 ?l13 ?c13 ?k13 ?a14 ?l14 ?c14 ?k14 ?a15 ?l15 ?c15 ?k15 ?a16 ?l16 ?c16 ?k16 ?a17 ?l17 ?c17 ?k17 ?a18 ?l18 ?c18 ?k18 ?a19 ?l19 ?c19 ?k19 ?z_ValueError ?z_all ?z_any ?z_isinstance ?z_len ?z_list ?z_max ?z_min ?z_range ?z_set ?z_sorted ?z_tuple ?q0 ?x0 ?y0 ?u0 ?t0 ?r_ReadError ?r_Loops ?r_NoBook ?r_NoDeed ?r_NoForm ?r_NoName ?r_NoPlace ?r_NoRow ?r_NoRows ?r_NoText ?r_TooMany ?n1 ?n2 ?n3 ?n4 ?e2 ?s_Loops ?y_Loops ?d_Loops ?v_Loops ?s_NoBook ?y_NoBook ?d_NoBook ?v_NoBook ?s_NoDeed ?y_NoDeed ?d_NoDeed ?v_NoDeed ?s_NoForm ?y_NoForm ?d_NoForm ?v_NoForm ?s_NoName ?y_NoName ?d_NoName ?v_NoName ?s_NoPlace ?y_NoPlace ?d_NoPlace ?v_NoPlace ?s_NoRow ?y_NoRow ?d_NoRow ?v_NoRow ?s_NoRows ?y_NoRows ?d_NoRows ?v_NoRows ?s_NoText ?y_NoText ?d_NoText ?v_NoText ?s_TooMany ?y_TooMany ?d_TooMany ?v_TooMany ?e3 ?e4 ?e5 ?e6 ?e7 ?e8 ?e9
    (case a0 => k_is)
    (case l0 => k_is)
    (case c0 => k_is)
    (case k0 => k_is)
    (case a1 => k_is)
    (case l1 => k_is)
    (case c1 => k_is)
    (case k1 => k_is)
    (case a2 => k_is)
    (case l2 => k_is)
    (case c2 => k_is)
    (case k2 => k_is)
    (case a3 => k_is)
    (case l3 => k_is)
    (case c3 => k_is)
    (case k3 => k_is)
    (case a4 => k_is)
    (case l4 => k_is)
    (case c4 => k_is)
    (case k4 => k_is)
    (case a5 => k_is)
    (case l5 => k_is)
    (case c5 => k_is)
    (case k5 => k_is)
    (case a6 => k_is)
    (case l6 => k_is)
    (case c6 => k_is)
    (case k6 => k_is)
    (case a7 => k_is)
    (case l7 => k_is)
    (case c7 => k_is)
    (case k7 => k_is)
    (case a8 => k_is)
    (case l8 => k_is)
    (case c8 => k_is)
    (case k8 => k_is)
    (case a9 => k_is)
    (case l9 => k_is)
    (case c9 => k_is)
    (case k9 => k_is)
    (case a10 => k_is)
    (case l10 => k_is)
    (case c10 => k_is)
    (case k10 => k_is)
    (case a11 => k_is)
    (case l11 => k_is)
    (case c11 => k_is)
    (case k11 => k_is)
    (case a12 => k_is)
    (case l12 => k_is)
    (case c12 => k_is)
    (case k12 => k_is)
    (case a13 => k_is)
    (case l13 => k_is)
    (case c13 => k_is)
    (case k13 => k_is)
    (case a14 => k_is)
    (case l14 => k_is)
    (case c14 => k_is)
    (case k14 => k_is)
    (case a15 => k_is)
    (case l15 => k_is)
    (case c15 => k_is)
    (case k15 => k_is)
    (case a16 => k_is)
    (case l16 => k_is)
    (case c16 => k_is)
    (case k16 => k_is)
    (case a17 => k_is)
    (case l17 => k_is)
    (case c17 => k_is)
    (case k17 => k_is)
    (case a18 => k_is)
    (case l18 => k_is)
    (case c18 => k_is)
    (case k18 => k_is)
    (case a19 => k_is)
    (case l19 => k_is)
    (case c19 => k_is)
    (case k19 => k_is)
    (case z_ValueError => k_is)
    (case z_all => k_is)
    (case z_any => k_is)
    (case z_isinstance => k_is)
    (case z_len => k_is)
    (case z_list => k_is)
    (case z_max => k_is)
    (case z_min => k_is)
    (case z_range => k_is)
    (case z_set => k_is)
    (case z_sorted => k_is)
    (case z_tuple => k_is)
    (case q0 => k_is)
    (case x0 => k_exc)
    (case y0 => k_is)
    (case u0 => k_is)
    (case t0 => k_is)
    (case r_ReadError => k_is)
    (case r_Loops => k_is)
    (case r_NoBook => k_is)
    (case r_NoDeed => k_is)
    (case r_NoForm => k_is)
    (case r_NoName => k_is)
    (case r_NoPlace => k_is)
    (case r_NoRow => k_is)
    (case r_NoRows => k_is)
    (case r_NoText => k_is)
    (case r_TooMany => k_is)
    (case n1 => k_is)
    (case n2 => k_is)
    (case n3 => k_is)
    (case n4 => k_is)
    (case e2 => k_is)
    (case s_Loops => k_is)
    (case y_Loops => k_is)
    (case d_Loops => k_is)
    (case v_Loops => decide)
    (case s_NoBook => k_is)
    (case y_NoBook => k_is)
    (case d_NoBook => k_is)
    (case v_NoBook => decide)
    (case s_NoDeed => k_is)
    (case y_NoDeed => k_is)
    (case d_NoDeed => k_is)
    (case v_NoDeed => decide)
    (case s_NoForm => k_is)
    (case y_NoForm => k_is)
    (case d_NoForm => k_is)
    (case v_NoForm => decide)
    (case s_NoName => k_is)
    (case y_NoName => k_is)
    (case d_NoName => k_is)
    (case v_NoName => decide)
    (case s_NoPlace => k_is)
    (case y_NoPlace => k_is)
    (case d_NoPlace => k_is)
    (case v_NoPlace => decide)
    (case s_NoRow => k_is)
    (case y_NoRow => k_is)
    (case d_NoRow => k_is)
    (case v_NoRow => decide)
    (case s_NoRows => k_is)
    (case y_NoRows => k_is)
    (case d_NoRows => k_is)
    (case v_NoRows => decide)
    (case s_NoText => k_is)
    (case y_NoText => k_is)
    (case d_NoText => k_is)
    (case v_NoText => decide)
    (case s_TooMany => k_is)
    (case y_TooMany => k_is)
    (case d_TooMany => k_is)
    (case v_TooMany => decide)
    (case e3 => k_is)
    (case e4 => k_is)
    (case e5 => k_is)
    (case e6 => k_is)
    (case e7 => k_is)
    (case e8 => k_is)
    (case e9 => k_is)
#print axioms PySem.Challenge.cw_keptreading_k06_begins_holds
